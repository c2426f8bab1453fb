import PyProof.Rows.All
import Wide.All
import OpenK.AllK
import Wide.FinOn
import PySem.Challenge.RW_kimariji_k01_parts_reckoned
import HandS.ForMost
import HandS.ForExc
import HandS.Evl
import HandS.Wide
import HandS.IsInst
import HandS.TryMany
import HandS.TryOnly
import HandS.SortInts
import HandS.Deep
import HandS.RaiseMore
import HandS.Conv
import HandS.Zip
import HandS.ExcInit
import HandS.ExcField
import HandS.TupAny
set_option Elab.async false
set_option linter.all false
set_option maxRecDepth 100000
set_option maxHeartbeats 2000000
/-! Kj0: one rule a construct, whatever the kinds of its values; defs, methods and classes by their promises alone. -/
namespace Kj
open PySem PySem.Spec PyProof.Rows L2 Evl
/-! ### operators, whatever the kinds -/
section
variable {X : Cx}
def rAddS : R2 := fun x y H Q => ∃ i j, x = .str i ∧ y = .str j ∧ i.length + j.length ≤ sizeLine ∧ Q (.str (i ++ j)) H
def rAddU (K : PySem.W.Frag) : R2 := fun x y H Q => (rI0 (fun i j => .int (i + j)) x y H Q ∨ rAddS x y H Q) ∨ (rCat x y H Q ∨ rCatT K x y H Q)
theorem op_addU : OpR X (binaryOp .Add) (rAddU X.K) := (OpR.or op_add op_add_str).or (OpR.or op_cat op_catT)
def rMulS : R2 := fun x y H Q => ∃ a n, x = .str a ∧ y = .int n ∧ MulOk a n ∧ Q (.str (Txt.mul a n)) H
theorem op_mulS : OpR X (binaryOp .Mult) rMulS := by
  intro pins s σ H x y v u Q I rx ry h
  obtain ⟨a, n, rfl, rfl, hc, q⟩ := h
  obtain ⟨t, rfl⟩ := rx
  obtain ⟨t', rfl⟩ := ry
  exact SB.mul hc fun t' k => ⟨.str (Txt.mul a n), H, I.tok _, ⟨_, rfl⟩, q⟩
def rMulU : R2 := fun x y H Q => (rI CMulW (fun i j => .int (i * j)) x y H Q ∨ rRep x y H Q) ∨ rMulS x y H Q
theorem op_mulU : OpR X (binaryOp .Mult) rMulU := (OpR.or op_mulW op_rep).or op_mulS
def rIntS : List V → Hp → VK → Prop := fun xs H Q => ∃ a n, xs = [.str a] ∧ PySem.intText? a = some n ∧ a.length ≤ 640 ∧ Q (.int n) H
theorem call_intU : CallR X (.type "int") rIntS := call_int_str
/-- // by a divisor that is not 0 and below 2 ^ 9000, on either side of it -/
def CDivZ (_ j : Int) : Prop := j ≠ 0 ∧ j.natAbs.log2 < 9000
theorem op_fdivZ : OpR X (binaryOp .FloorDiv) (rI CDivZ fun i j => .int (i.fdiv j)) := opI fun i j _ _ _ _ _ hc q => floordiv_int hc.1 q (.inl (PyProof.noPylong_of_log2 hc.2))
def rEqU (K : PySem.W.Frag) : R2 := fun x y H Q => rEq x y H Q ∨ rEqD K x y H Q
def rNeU (K : PySem.W.Frag) : R2 := fun x y H Q => rNe x y H Q ∨ rNeD K x y H Q
theorem op_eqU (hu : X.A.units + 65 < cLine) : OpR X (compareOp .Eq) (rEqU X.K) := OpR.or op_eq (op_eqD (by omega))
theorem op_neU (hu : X.A.units + 65 < cLine) : OpR X (compareOp .NotEq) (rNeU X.K) := OpR.or op_ne (op_neD (by omega))
def rSign : R2 := fun x y H Q => ∃ (c : Nat) (z : Str), x = .str ⟨#[c]⟩ ∧ y = .str z ∧ Q (.bl (decide (c ∈ z.cps.toList))) H
def rNotSign : R2 := fun x y H Q => ∃ (c : Nat) (z : Str), x = .str ⟨#[c]⟩ ∧ y = .str z ∧ Q (.bl (!decide (c ∈ z.cps.toList))) H
def rInU (K : PySem.W.Frag) : R2 := fun x y H Q => (rIn K false x y H Q ∨ rSign x y H Q) ∨ rInD K x y H Q
def rNotInU (K : PySem.W.Frag) : R2 := fun x y H Q => (rIn K true x y H Q ∨ rNotSign x y H Q) ∨ rNotInD K x y H Q
theorem op_inU (hu : X.A.units + 65 < cLine) : OpR X (compareOp .In) (rInU X.K) := (OpR.or op_in_seq op_in_sign).or (op_inD hu)
theorem op_notinU (hu : X.A.units + 65 < cLine) : OpR X (compareOp .NotIn) (rNotInU X.K) := (OpR.or op_notIn_seq op_notIn_sign).or (op_notInD hu)
def rSlU (K : PySem.W.Frag) : V → Option Int → Option Int → Hp → VK → Prop := fun x lo hi H Q => (rSlL K x lo hi H Q ∨ rSlA K x lo hi H Q) ∨ rSlS x lo hi H Q
theorem sl_U : SlR X (rSlU X.K) := (SlR.or sl_list sl_tupA).or sl_str
def rLenU (K : PySem.W.Frag) : List V → Hp → VK → Prop := fun xs H Q => rLenS K xs H Q ∨ ∃ z, xs = [V.str z] ∧ z.length ≤ sizeLine ∧ Q (.int z.length) H
theorem call_lenU : CallR X (.builtin "len") (rLenU X.K) := CallR.or call_len_seq call_len_str
end
/-! ### the same, the written part told by name (a try's body and a comprehension's block have contexts of their own) -/
section
variable {X : Cx} (K : PySem.W.Frag)
theorem k_op {f : Value → Value → Sem Value} {r : PySem.W.Frag → R2} (h : OpR X f (r X.K)) (hK : X.K = K) : OpR X f (r K) := hK ▸ h
theorem op_addK (hK : X.K = K := by rfl) : OpR X (binaryOp .Add) (rAddU K) := k_op K op_addU hK
theorem op_eqK (hu : X.A.units + 65 < cLine) (hK : X.K = K := by rfl) : OpR X (compareOp .Eq) (rEqU K) := k_op K (op_eqU hu) hK
theorem op_neK (hu : X.A.units + 65 < cLine) (hK : X.K = K := by rfl) : OpR X (compareOp .NotEq) (rNeU K) := k_op K (op_neU hu) hK
theorem op_inK (hu : X.A.units + 65 < cLine) (hK : X.K = K := by rfl) : OpR X (compareOp .In) (rInU K) := k_op K (op_inU hu) hK
theorem op_notinK (hu : X.A.units + 65 < cLine) (hK : X.K = K := by rfl) : OpR X (compareOp .NotIn) (rNotInU K) := k_op K (op_notinU hu) hK
theorem ix_seqK (hK : X.K = K := by rfl) : IxR X (rIx K) := by subst hK; exact ix_seq
theorem sl_K (hK : X.K = K := by rfl) : SlR X (rSlU K) := by subst hK; exact sl_U
theorem call_lenK (hK : X.K = K := by rfl) : CallR X (.builtin "len") (rLenU K) := by subst hK; exact call_lenU
theorem cr_sumK (hc : X.calm = true) (hK : X.K = K := by rfl) : CallR X (.builtin "sum") (rSum K) := by subst hK; exact cr_sum hc
theorem cr_maxK (hc : X.calm = true) (hK : X.K = K := by rfl) : CallR X (.builtin "max") (rMax K) := by subst hK; exact cr_max hc
theorem cr_minK' (hc : X.calm = true) (hK : X.K = K := by rfl) : CallR X (.builtin "min") (rMin K) := by subst hK; exact cr_min hc
theorem cr_anyK (hc : X.calm = true) (hK : X.K = K := by rfl) : CallR X (.builtin "any") (rAny K) := by subst hK; exact cr_any hc
theorem cr_allK (hc : X.calm = true) (hK : X.K = K := by rfl) : CallR X (.builtin "all") (rAll K) := by subst hK; exact cr_all hc
theorem cr_sortedK (hK : X.K = K := by rfl) : CallR X (.builtin "sorted") (rSortedI K) := by subst hK; exact cr_sortedI
def rIsiU (K : PySem.W.Frag) : List V → Hp → VK → Prop := fun xs H Q => rIsi K xs H Q ∨ rIsiT K xs H Q
theorem call_isiK' (hK : X.K = K := by rfl) : CallR X (.builtin "isinstance") (rIsiU K) := by subst hK; exact CallR.or call_isi call_isiT
theorem call_listK (hK : X.K = K := by rfl) : CallR X (.type "list") (rListS K) := by subst hK; exact call_list_of
def rTupS (K : PySem.W.Frag) : List V → Hp → VK → Prop := fun xs H Q => ∃ p ys, xs = [.ref p] ∧ ((SqL K H p ys ∧ ∀ l, H l = none → Q (.ref l) (upd H l (.tup ys))) ∨ (SqT K H p ys ∧ Q (.ref p) H))
theorem call_tupleK (hK : X.K = K := by rfl) : CallR X (.type "tuple") (rTupS K) := by subst hK; exact call_tuple_of
theorem mt_indexK (hK : X.K = K := by rfl) : MtR X "list.index" (rIndex K) := by subst hK; exact mt_index
def rJoin (K : PySem.W.Frag) : V → List V → Hp → VK → Prop := fun x xs H Q => ∃ a p, ∃ ys : List Str, x = .str a ∧ xs = [.ref p] ∧ (SqL K H p (ys.map V.str) ∨ SqT K H p (ys.map V.str)) ∧ (ys.map (·.length)).sum + ys.length * a.length ≤ 16777216 ∧ Q (.str (Txt.join a ys)) H
theorem mt_joinK (hK : X.K = K := by rfl) : MtR X "str.join" (rJoin K) := by subst hK; exact mt_join
theorem pi_listK {tg l : Expr} {tl : TE} (hl : PE X l tl) (hK : X.K = K := by rfl) : PI X tg l (iList K tl) := by subst hK; exact pi_list hl
theorem pi_tupK {tg l : Expr} {tl : TE} (hl : PE X l tl) (hK : X.K = K := by rfl) : PI X tg l (iTup K tl) := by subst hK; exact pi_tup hl
theorem pi_enumK {e : Expr} {ta : TA} {p pos tpos : Pos} {elts : List Expr} {kk : Nat} (hg : Gl X "enumerate") (hm : X.mg "enumerate" = none) (ha : PA X [e] ta) (hs : starEach [e] X.env = [(false, eval e X.env)] := by rfl) (hK : X.K = K := by rfl) :
    PI X (.Tuple elts kk tpos) (.Call (.Name "enumerate" p) [e] [] pos) (iEnum K ta) := by subst hK; exact pi_enum hg hm ha hs
theorem pi_zipK {e e2 : Expr} {ta : TA} {p pos tpos : Pos} {elts : List Expr} {kk : Nat} (hg : Gl X "zip") (hm : X.mg "zip" = none) (ha : PA X [e, e2] ta)
    (hs : starEach [e, e2] X.env = (false, eval e X.env) :: starEach [e2] X.env := by rfl) (hpl : (backTo pos (starEach [e2] X.env)).any (·.1) = false := by rfl) (hK : X.K = K := by rfl) :
    PI X (.Tuple elts kk tpos) (.Call (.Name "zip" p) [e, e2] [] pos) (RZ.iZipA K ta) := by subst hK; exact RZ.pi_zipA hg hm ha hs hpl
theorem pg_tupK {es : List Expr} {k : Nat} {t : TGs} {n : Nat} {pos : Pos} (hc : X.calm = true) (h : PGs X es t)
    (hn : (assignEach es X.env).length = n := by rfl) (hst : (assignEach es X.env).findIdx? (·.1) = none := by rfl) (hK : X.K = K := by rfl) : PG X (.Tuple es k pos) (gTup K n t) := by subst hK; exact pg_tup hc h hn hst
theorem pe_fldK {e : Expr} {f : Str} {ta : TE} {pos : Pos} (he : PE X e ta) (hb : attributeBase e f X.env (eval e X.env) = eval e X.env := by rfl) (hK : X.K = K := by rfl) : PE X (.Attribute e f pos) (tFld K ta f) := by subst hK; exact pe_fld he hb
theorem pe_bmK0 {o : Expr} {name : Str} {T id : String} {r : V → List V → Hp → VK → Prop} {to : TE} {apos cpos : Pos} (pa : PlainAttrs T) (slot : Slot T name id) (hty : typeOf (.builtin id) = pure (.type "method_descriptor")) (hm : MtR X id r) (ho : PE X o to)
    (hbase : attributeBase o name X.env (eval o X.env) = eval o X.env := by rfl) (hline : (apos.endLine == cpos.line) = true := by rfl) (hK : X.K = K := by rfl) : PE X (.Call (.Attribute o name apos) [] [] cpos) (tBM0 K T r to) := by subst hK; exact pe_bm0 pa slot hty hm ho hbase hline
theorem pe_bmK {o e : Expr} {es : List Expr} {name : Str} {T id : String} {r : V → List V → Hp → VK → Prop} {to : TE} {t : TA} {apos cpos : Pos} (pa : PlainAttrs T) (slot : Slot T name id) (hty : typeOf (.builtin id) = pure (.type "method_descriptor")) (hm : MtR X id r) (ho : PE X o to) (ha : PA X (e :: es) t)
    (hbase : attributeBase o name X.env (eval o X.env) = eval o X.env := by rfl)
    (hfew : ((backTo cpos (starEach (e :: es) X.env)).all (fun x => !x.1) && (backToKw cpos (keywordEach [] X.env)).all (fun x => x.1.isSome)
      && decide ((e :: es).length + ([] : List Keyword).length + (if ([] : List Keyword).isEmpty then 0 else 1) < 30)) = true := by rfl)
    (hline : (apos.endLine == cpos.line) = true := by rfl) (hs : starEach (e :: es) X.env = (false, eval e X.env) :: starEach es X.env := by rfl) (hplain : (backTo cpos (starEach es X.env)).any (·.1) = false := by rfl) (hK : X.K = K := by rfl) :
    PE X (.Call (.Attribute o name apos) (e :: es) [] cpos) (tBM K T r to t) := by subst hK; exact pe_bm pa slot hty hm ho ha hbase hfew hline hs hplain
theorem ps_fldK {o value : Expr} {f : Str} {ta tv : TE} {pos pos' : Pos} (ha : PE X o ta) (hv : PE X value tv) (hs : swapsWith value (some (.Attribute o f pos')) pos.line X.env = pure false := by rfl) (hK : X.K = K := by rfl) : PS X (.Assign [.Attribute o f pos'] value pos) (sFld K ta tv f) := by subst hK; exact ps_fld ha hv hs
end
/-! ### room -/
theorem hu65 {A : Around} {k : Nat} (hr : Room k A) : A.units + 65 < cLine := by have := hr.un; omega
/-! ### builtin names that the text leaves as they are -/
structure Bt (mg : Str → Option Value) : Prop where
  abs : mg "abs" = none
  all : mg "all" = none
  any : mg "any" = none
  dict : mg "dict" = none
  enumerate : mg "enumerate" = none
  int : mg "int" = none
  isinstance : mg "isinstance" = none
  len : mg "len" = none
  list : mg "list" = none
  max : mg "max" = none
  min : mg "min" = none
  range : mg "range" = none
  sorted : mg "sorted" = none
  str : mg "str" = none
  sum : mg "sum" = none
  tuple : mg "tuple" = none
  zip : mg "zip" = none
  bool : mg "bool" = none
  set : mg "set" = none
theorem boot_b_abs : bootBuiltins "abs" = some (.builtin "abs") := by decide +kernel
theorem boot_b_all : bootBuiltins "all" = some (.builtin "all") := by decide +kernel
theorem boot_b_any : bootBuiltins "any" = some (.builtin "any") := by decide +kernel
theorem boot_b_len : bootBuiltins "len" = some (.builtin "len") := by decide +kernel
theorem boot_b_max : bootBuiltins "max" = some (.builtin "max") := by decide +kernel
theorem boot_b_min : bootBuiltins "min" = some (.builtin "min") := by decide +kernel
theorem boot_b_sum : bootBuiltins "sum" = some (.builtin "sum") := by decide +kernel
theorem boot_b_sorted : bootBuiltins "sorted" = some (.builtin "sorted") := by decide +kernel
theorem boot_b_isinstance : bootBuiltins "isinstance" = some (.builtin "isinstance") := by decide +kernel
theorem boot_ty_int : bootBuiltins "int" = some (.type "int") := by decide +kernel
theorem boot_ty_list : bootBuiltins "list" = some (.type "list") := by decide +kernel
theorem boot_ty_str : bootBuiltins "str" = some (.type "str") := by decide +kernel
theorem boot_ty_tuple : bootBuiltins "tuple" = some (.type "tuple") := by decide +kernel
theorem boot_ty_dict : bootBuiltins "dict" = some (.type "dict") := by decide +kernel
theorem boot_ty_bool : bootBuiltins "bool" = some (.type "bool") := by decide +kernel
theorem boot_ty_set : bootBuiltins "set" = some (.type "set") := by decide +kernel
/-! ### defs by their promises -/
/-- the def that stands behind the name x keeps sp -/
structure Ok (P : Program) (w : World) (K : PySem.W.Frag) (mg : Str → Option Value) (base : Heap) (k : Nat) (x : Str) (ps : List Str) (sp : Sp) : Prop where
  ex : ∃ f fd, mg x = some (.ref f) ∧ PySem.W.keepIn K (.ref f) = true ∧ Binds K fd ps [] ∧ FnOk P w K mg base (L2.CX P w) k f fd ps sp ∧ ∃ oc od osl, K.lookup f = some ⟨oc, od, .func fd, osl⟩
/-- a def of the text -/
structure Df (K : PySem.W.Frag) (mg : Str → Option Value) (x : Str) (st : Stmt) (ps : List Str) : Prop where
  ex : ∃ f fd, mg x = some (.ref f) ∧ Fun K x x st f fd ∧ Binds K fd ps []
/-- the method m of the class at C keeps sp -/
structure OkM (P : Program) (w : World) (K : PySem.W.Frag) (mg : Str → Option Value) (base : Heap) (k : Nat) (C : Addr) (m : Str) (ps : List Str) (sp : Sp) : Prop where
  cls : Cls K C
  ex : ∃ f fd, Meth K C m f ∧ Binds K fd ps [] ∧ FnOk P w K mg base (L2.CX P w) k f fd ps sp
/-- a method of the text -/
structure Dm (K : PySem.W.Frag) (C : Addr) (m q : Str) (st : Stmt) (ps : List Str) : Prop where
  cls : Cls K C
  ex : ∃ f fd, Meth K C m f ∧ Fun K m q st f fd ∧ Binds K fd ps []
/-- the class behind the name x is made by an __init__ that keeps sp -/
structure OkC (P : Program) (w : World) (K : PySem.W.Frag) (mg : Str → Option Value) (base : Heap) (k : Nat) (C : Addr) (x : Str) (ps : List Str) (sp : Sp) : Prop where
  g : mg x = some (.ref C)
  ex : ∃ f fd, Mk K C f ∧ Binds K fd ps [] ∧ FnOk P w K mg base (L2.CX P w) k f fd ps sp
section
variable {P : Program} {w : World} {K : PySem.W.Frag} {mg : Str → Option Value} {base : Heap}
theorem Df.ok {x : Str} {st : Stmt} {N ps : List Str} {k : Nat} {sp : Sp} (D : Df K mg x st ps) (S : FnScope N ps (defScope st)) (len : ∀ vs H Q E, sp vs H Q E → vs.length = ps.length)
    (hbody : ∀ (f : Addr) (cdv : Value) (A : Around) (outer : List Env) (s : Shared) (H : Hp) (vs : List V) (Q : VK) (E : XK), Room k (A.deeper (envOfC x (defScope st) s.heap.objs.size f cdv)) → sp vs H Q E →
      ∃ t, PSs (cxOf (L2.CX P w) P w K mg base N x (defScope st) f cdv A outer s H E) (defBody st) t ∧ t { nx := fun _ H' => Q .non H', rt := Q } (start N vs) H) : Ok P w K mg base (k + 1) x ps sp := by
  obtain ⟨f, fd, g, F, b⟩ := D.ex
  obtain ⟨oc, od, kV, doc, pm, an, cdv, ct, osl, hfd, lk, hcd⟩ := F.ex
  exact ⟨f, fd, g, F.kp, b, F.okX S len fun cdv A outer s H vs Q E hr h => hbody f cdv A outer s H vs Q E hr h, oc, od, osl, lk⟩
theorem Dm.ok {C : Addr} {m q : Str} {st : Stmt} {N ps : List Str} {k : Nat} {sp : Sp} (D : Dm K C m q st ps) (S : FnScope N ps (defScope st)) (len : ∀ vs H Q E, sp vs H Q E → vs.length = ps.length)
    (hbody : ∀ (f : Addr) (cdv : Value) (A : Around) (outer : List Env) (s : Shared) (H : Hp) (vs : List V) (Q : VK) (E : XK), Room k (A.deeper (envOfC q (defScope st) s.heap.objs.size f cdv)) → sp vs H Q E →
      ∃ t, PSs (cxOf (L2.CX P w) P w K mg base N q (defScope st) f cdv A outer s H E) (defBody st) t ∧ t { nx := fun _ H' => Q .non H', rt := Q } (start N vs) H) : OkM P w K mg base (k + 1) C m ps sp := by
  obtain ⟨f, fd, g, F, b⟩ := D.ex
  exact ⟨D.cls, f, fd, g, b, F.okX S len fun cdv A outer s H vs Q E hr h => hbody f cdv A outer s H vs Q E hr h⟩
theorem Ok.mono {x : Str} {ps : List Str} {j k : Nat} {sp : Sp} (O : Ok P w K mg base j x ps sp) (h : j ≤ k) : Ok P w K mg base k x ps sp := by
  obtain ⟨f, fd, g, kp, b, F, l⟩ := O.ex
  exact ⟨f, fd, g, kp, b, F.mono h, l⟩
theorem Ok.imp {x : Str} {ps : List Str} {k : Nat} {sp sp' : Sp} (O : Ok P w K mg base k x ps sp) (h : ∀ vs H Q E, sp' vs H Q E → sp vs H Q E) : Ok P w K mg base k x ps sp' := by
  obtain ⟨f, fd, g, kp, b, F, l⟩ := O.ex
  exact ⟨f, fd, g, kp, b, F.imp h, l⟩
end
section
variable {X : Cx} {W : WX} {k : Nat} {C : Addr} {ps : List Str} {sp : Sp} {x m : Str} {p pos apos : Pos} {e o : Expr} {es : List Expr} {ta : TE} {t : TA}
/-- f(e, ..) -/
theorem pe_callO (O : Ok X.prog X.w X.K X.mg X.base k x ps sp) (hr : Room k X.A) (hg : Gl X x) (tk : Takes X W) (ha : PA X (e :: es) t) (hdb : (x == ("__debug__" : Str)) = false := by decide)
    (he : starEach (e :: es) X.env = (false, eval e X.env) :: starEach es X.env := by rfl) (hpl : (backTo pos (starEach es X.env)).any (·.1) = false := by rfl) :
    PE X (.Call (.Name x p) (e :: es) [] pos) (tCallS sp (WE W) t) := by
  obtain ⟨f, fd, g, kp, b, F, _⟩ := O.ex
  exact pe_callS F hr hg g kp b (fun σ => passAt tk σ) ha hdb he hpl
/-- o.m(e, ..) -/
def tMethS (C : Addr) (m : Str) (sp : Sp) (E : L2.St → XK) (ta : TE) (t : TA) : TE := fun σ H Q => ta σ H fun x H1 => ∃ a dx fs, x = .ref a ∧ H1 a = some (.ins C dx fs) ∧ fs.lookup m = none ∧ t σ H1 fun vs H2 => sp (x :: vs) H2 Q (E σ)
theorem pe_methO {pl : Sem Bool} (O : OkM X.prog X.w X.K X.mg X.base k C m ps sp) (he : PE X o ta) (hr : Room k X.A) (tk : Takes X W) (ha : PA X (e :: es) t)
    (hst : starEach (e :: es) X.env = (false, eval e X.env) :: starEach es X.env := by rfl) (hpl : (backTo pos (starEach es X.env)).any (·.1) = false := by rfl)
    (ht : eval (.Call (.Attribute o m apos) (e :: es) [] pos) X.env = (do
      let ov ← eval o X.env
      standAt apos.atName
      let (f, first) ← holding [ov] (getMethod ov m pl)
      callWith pos f first (backTo pos (starEach (e :: es) X.env)) (backToKw pos (keywordEach [] X.env))) := by rfl) :
    PE X (.Call (.Attribute o m apos) (e :: es) [] pos) (tMethS C m sp (WE W) ta t) := by
  obtain ⟨f, fd, hm, b, F⟩ := O.ex
  refine ⟨fun pins s σ H Q I h => ?_⟩
  refine PySem.W.methodCall_KW (pl := pl) (thn (he.run pins s σ H _ I h) fun u s1 ⟨x, H1, I1, rx, a, dx, fs, ex, ea, l, q⟩ => ?_) ht
  subst ex
  obtain rfl : u = Value.ref a := rx
  refine getmeth_ok I1 ea O.cls hm l ?_
  refine PySem.W.callWith_K (first := [.ref a]) (h₀ := X.base) I.ok.mod.kin hm.kp (thn (ha.run pos pins s1 σ H1 _ I1 q) fun us s2 ⟨vs, H2, I2, r, q2⟩ => ⟨I2.kIn, ?_⟩) hst hpl
  exact run_fnS (us := .ref a :: us) (vs := .ref a :: vs) F hr b (passAt tk σ) I2 (.cons rfl r) q2
theorem pe_methO0 {pl : Sem Bool} (O : OkM X.prog X.w X.K X.mg X.base k C m ps sp) (he : PE X o ta) (hr : Room k X.A) (tk : Takes X W)
    (ht : eval (.Call (.Attribute o m apos) [] [] pos) X.env = (do
      let ov ← eval o X.env
      standAt apos.atName
      let (f, first) ← holding [ov] (getMethod ov m pl)
      callWith pos f first (backTo pos (starEach [] X.env)) (backToKw pos (keywordEach [] X.env))) := by rfl) :
    PE X (.Call (.Attribute o m apos) [] [] pos) (tMethS C m sp (WE W) ta tNil) := by
  obtain ⟨f, fd, hm, b, F⟩ := O.ex
  refine ⟨fun pins s σ H Q I h => ?_⟩
  refine PySem.W.methodCall_KW (pl := pl) (thn (he.run pins s σ H _ I h) fun u s1 ⟨x, H1, I1, rx, a, dx, fs, ex, ea, l, q⟩ => ?_) ht
  subst ex
  obtain rfl : u = Value.ref a := rx
  refine getmeth_ok I1 ea O.cls hm l ?_
  exact PySem.W.callWith_K0 (first := [.ref a]) I1.kIn hm.kp (run_fnS (us := [.ref a]) (vs := [.ref a]) F hr b (passAt tk σ) I1 (.cons rfl .nil) q)
end
/-! ### a new instance, by an __init__ that may raise -/
section
variable {X : Cx} {W : WX} {k : Nat} {C : Addr} {ps : List Str} {sp : Sp} {x m : Str} {p pos apos : Pos} {e o : Expr} {es : List Expr} {ta : TE} {t : TA}
def tMakeS (C : Addr) (sp : Sp) (E : L2.St → XK) (t : TA) : TE := fun σ H Q => t σ H fun vs H1 => ∀ x dx, H1 x = none → H1 dx = none → dx ≠ x →
  sp (.ref x :: vs) (upd (upd H1 dx (.own x)) x (.ins C dx [])) (fun v H2 => v = .non ∧ Q (.ref x) H2) (E σ)
theorem run_makeS {pins : List (Addr × Obj)} {σ : L2.St} {H : Hp} {s : Shared} {Q : VK} {us : List Value} {vs : List V} {f : Addr} {fd : FuncData} (M : Mk X.K C f) (F : FnOk X.prog X.w X.K X.mg X.base (L2.CX X.prog X.w) k f fd ps sp) (hr : Room (k + 1) X.A) (hb : Binds X.K fd ps [])
    (tk : Takes X W) (I : Inv X pins σ H s) (r : Vals vs us)
    (h : ∀ x dx, H x = none → H dx = none → dx ≠ x → sp (.ref x :: vs) (upd (upd H dx (.own x)) x (.ins C dx [])) (fun v H2 => v = .non ∧ Q (.ref x) H2) (WE W σ)) :
    wpAny (model X.prog X.w) X.A (call (.ref C) us) (EP X pins σ Q) X.xe s := by
  have hq := h (s.heap.objs.size + 1) s.heap.objs.size (I.hok.fresh (Nat.le_succ _)) (I.hok.fresh (Nat.le_refl _)) (Nat.ne_of_lt (Nat.lt_succ_self _))
  have I2 := Inv.made (C := C) I
  have r2 : Vals (V.ref (s.heap.objs.size + 1) :: vs) (Value.ref (s.heap.objs.size + 1) :: us) := .cons rfl r
  have hl : (Value.ref (s.heap.objs.size + 1) :: us).length = ps.length := by
    have e := r2.length
    rw [F.len _ _ _ _ hq] at e
    exact e.symm
  refine wpAny_call (make_map (f := f) I.kIn M.makes M.init (beq_iff_eq.mp M.fn) (codeAny_mono (F.run _ X.stack _ _ ⟨Value.ref (s.heap.objs.size + 1) :: us, []⟩ (Value.ref (s.heap.objs.size + 1) :: us) _ _ (WE W σ) (hr.make C us [])
    (I2.env0.make C us []) (by have z := hb _ (Value.ref (s.heap.objs.size + 1) :: us) I2.kIn (by rw [List.append_nil]; exact hl); rw [List.append_nil] at z; exact z) r2 hq) fun r s' hq' => ?_))
  cases r with
  | error e => exact passAt tk σ pins _ _ e s' I2 hq'
  | ok fl =>
    cases fl with
    | ret u =>
      obtain ⟨v, H', I3, rv, ev, q3⟩ := I2.after hq'
      subst ev
      exact ⟨rv, ⟨V.ref (s.heap.objs.size + 1), H', I3, rfl, q3⟩⟩
    | next => exact False.elim hq'
    | brk => exact False.elim hq'
    | cont => exact False.elim hq'
theorem pe_makeO (O : OkC X.prog X.w X.K X.mg X.base k C x ps sp) (hr : Room (k + 1) X.A) (hg : Gl X x) (tk : Takes X W) (ha : PA X (e :: es) t) (hdb : (x == ("__debug__" : Str)) = false := by decide)
    (he : starEach (e :: es) X.env = (false, eval e X.env) :: starEach es X.env := by rfl) (hpl : (backTo pos (starEach es X.env)).any (·.1) = false := by rfl) :
    PE X (.Call (.Name x p) (e :: es) [] pos) (tMakeS C sp (WE W) t) := by
  obtain ⟨f, fd, M, b, F⟩ := O.ex
  refine ⟨fun pins s σ H Q I h => ?_⟩
  refine wpAny_Call_Name_kw (ld_glob I hg O.g ?_ hdb)
  refine PySem.W.callWith_K (h₀ := X.base) I.ok.mod.kin M.kp (thn (ha.run pos pins s σ H _ I h) fun us s1 ⟨vs, H1, I1, r, q⟩ => ⟨I1.kIn, ?_⟩) he hpl
  exact run_makeS M F hr b tk I1 r q
end
/-! ### own exceptions without an __init__ of their own -/
/-- x, at C, is an exception of one's own (under ValueError), made with a text -/
structure Xc (K : PySem.W.Frag) (mg : Str → Option Value) (x : Str) (C : Addr) : Prop where
  g : mg x = some (.ref C)
  xi : PySem.W.excIn K C [.type "ValueError", .type "Exception", .type "BaseException", .type "object"] "ValueError.__new__" = true
  kp : PySem.W.keepIn K (.ref C) = true
  sb : PySem.W.subIn K (.ref C) (.type "BaseException") = some true
  ty : PySem.W.typeIn K (.ref C) = some (.type "type")
theorem exm_mk {K : PySem.W.Frag} {A C : Addr} {b : Bool} (sb : PySem.W.subIn K (.ref C) (.type "BaseException") = some true) (ic : PySem.W.isClsIn K C = true) (ty : PySem.W.typeIn K (.ref C) = some (.type "type")) (s : PySem.W.subIn K (.ref A) (.ref C) = some b) : PySem.W.exmOne K (.ref A) (.ref C) = some b := by
  have ic : (PySem.W.clsIn K C).isSome = true := ic
  unfold PySem.W.exmOne
  rw [sb]
  unfold PySem.W.kitCls
  simp only [ic, ty, s]
  simp
theorem pmk_ex {X : Cx} {x m : Str} {C : Addr} {j : Nat} {p p2 pos : Pos} (c : Xc X.K X.mg x C) (hg : Gl X x) (hdb : (x == ("__debug__" : Str)) = false := by decide) : PMk X (.Call (.Name x p) [.Constant (.str m) j p2] [] pos) (fun _ H Q => Q (.ref C) none H) :=
  pmk_own PySem.F.excBase_ValueError c.xi c.g c.kp (raises_own c.sb c.ty) hg hdb
end Kj

/-! Kj1: what an expression is worth, with the new part of the heap that it makes; parts of the heap that stand apart. -/
namespace Kj
open PySem PySem.Spec PyProof.Rows L2 Evl
/-! ### parts of a heap -/
/-- all of N is new beside H -/
def Fr (H N : Hp) : Prop := ∀ a, N a ≠ none → H a = none
def emp : Hp := fun _ => none
def sing (p : Addr) (o : HO) : Hp := fun a => if a = p then some o else none
def uni (N M : Hp) : Hp := fun a => match M a with | some o => some o | none => N a
theorem sing_at {p : Addr} {o : HO} : sing p o p = some o := by unfold sing; rw [if_pos rfl]
theorem sing_ne {p a : Addr} {o : HO} (h : a ≠ p) : sing p o a = none := by unfold sing; rw [if_neg h]
theorem emp_ex {H : Hp} : Ex emp H := fun _ _ h => nomatch h
theorem emp_fr {H : Hp} : Fr H emp := fun _ h => absurd rfl h
theorem sing_ex {H : Hp} {p : Addr} {o : HO} (h : H p = some o) : Ex (sing p o) H := fun a u e => by
  by_cases q : a = p
  · subst q
    rw [sing_at] at e
    cases e
    exact h
  · rw [sing_ne q] at e
    cases e
theorem sing_fr {H : Hp} {p : Addr} {o : HO} (h : H p = none) : Fr H (sing p o) := fun a e => by
  by_cases q : a = p
  · subst q
    exact h
  · exact absurd (sing_ne q) e
theorem Fr.back {H H' N : Hp} (e : Ex H H') (f : Fr H' N) : Fr H N := fun a h => fresh_back e (f a h)
theorem Fr.of {H N M : Hp} (f : Fr H N) (e : Ex M N) : Fr H M := fun a h => f a fun z => by
  cases q : M a with
  | none => exact h q
  | some o => rw [e a o q] at z; cases z
theorem ex_none {N H : Hp} {a : Addr} (e : Ex N H) (h : H a = none) : N a = none := fresh_back e h
theorem uni_r {N M : Hp} : Ex M (uni N M) := fun a o h => by unfold uni; rw [h]
theorem uni_l {N M : Hp} (d : ∀ a, M a ≠ none → N a = none) : Ex N (uni N M) := fun a o h => by
  unfold uni
  cases q : M a with
  | none => exact h
  | some u => rw [d a (by rw [q]; exact fun z => nomatch z)] at h; cases h
theorem uni_ex {N M H : Hp} (h1 : Ex N H) (h2 : Ex M H) : Ex (uni N M) H := fun a o h => by
  unfold uni at h
  cases q : M a with
  | none => rw [q] at h; exact h1 a o h
  | some u => rw [q] at h; cases h; exact h2 a _ q
theorem uni_some {N M : Hp} {a : Addr} (h : uni N M a ≠ none) : N a ≠ none ∨ M a ≠ none := by
  unfold uni at h
  cases q : M a with
  | none => rw [q] at h; exact .inl h
  | some u => exact .inr (fun z => nomatch z)
theorem uni_fr {N M H : Hp} (h1 : Fr H N) (h2 : Fr H M) : Fr H (uni N M) := fun a h => (uni_some h).elim (h1 a) (h2 a)
/-! ### data -/
mutual
theorem dp_mono {K : PySem.W.Frag} {H H' : Hp} (e : Ex H H') : ∀ {v : V} {d : PyData}, Dp K H v d → Dp K H' v d
  | _, _, .non => .non
  | _, _, .bl b => .bl b
  | _, _, .int i => .int i
  | _, _, .str x => .str x
  | _, _, .lst h r => .lst (ex_l e h) (dpa_mono e r)
  | _, _, .tup h r => .tup (ex_t e h) (dpa_mono e r)
theorem dpa_mono {K : PySem.W.Frag} {H H' : Hp} (e : Ex H H') : ∀ {vs : List V} {ds : List PyData}, DpAll K H vs ds → DpAll K H' vs ds
  | _, _, .nil => .nil
  | _, _, .cons h r => .cons (dp_mono e h) (dpa_mono e r)
end
/-! ### how a call may end -/
inductive Res where
  | ok (P : Hp → V → Prop)
  | err (x : Str) (fs : List (Str × V))
def RetNew (H : Hp) (Q : VK) (P : Hp → V → Prop) : Prop := ∀ v H' N, Ex H H' → Ex N H' → Fr H N → P N v → Q v H'
def RaiseX (mg : Str → Option Value) (x : Str) (fs : List (Str × V)) (H : Hp) (E : XK) : Prop :=
  ∀ H' C d, Ex H H' → mg x = some (.ref C) → (fs = [] ∧ d = none ∨ ∃ a, d = some a ∧ H' a = some (.xd fs) ∧ H a = none ∧ fs ≠ []) → E (.ref C) d H'
def Out (mg : Str → Option Value) (r : Res) (H : Hp) (Q : VK) (E : XK) : Prop := match r with
  | .ok P => RetNew H Q P
  | .err x fs => RaiseX mg x fs H E
/-- a promise: from the arguments in a heap to the end; whatever else the heap holds -/
structure Rl where
  R : List V → Hp → Res → Prop
  mono : ∀ {vs H H' r}, Ex H H' → R vs H r → R vs H' r
def Rl.sp (S : Rl) (mg : Str → Option Value) : Sp := fun vs H Q E => ∃ r, S.R vs H r ∧ Out mg r H Q E
/-- what is told of a value alone -/
abbrev is (v : V) : Hp → V → Prop := fun _ x => x = v
/-! ### what an expression is worth -/
def EvP (te : TE) (σ : L2.St) (H : Hp) (P : Hp → V → Prop) : Prop := ∀ H1, Ex H H1 → ∀ Q : VK, RetNew H1 Q P → te σ H1 Q
def EvErr (mg : Str → Option Value) (W : WX) (x : Str) (fs : List (Str × V)) (te : TE) (σ : L2.St) (H : Hp) : Prop := ∀ H1, Ex H H1 → RaiseX mg x fs H1 (WE W σ) → ∀ Q : VK, te σ H1 Q
/-- arguments, each with its own new part -/
def All2 (H : Hp) : List (Hp → V → Prop) → List V → Prop := Paired fun P v => ∃ N, Ex N H ∧ P N v
def EvPs (ta : TA) (σ : L2.St) (H : Hp) (Ps : List (Hp → V → Prop)) : Prop := ∀ H1, Ex H H1 → ∀ Q : List V → Hp → Prop, (∀ vs H2, Ex H1 H2 → All2 H2 Ps vs → Q vs H2) → ta σ H1 Q
section
variable {K : PySem.W.Frag} {mg : Str → Option Value} {σ : L2.St} {H H' : Hp} {ta tb te tx : TE} {tr : TA} {t u : TT} {x y z v : V} {r : R2} {P P' : Hp → V → Prop} {S : Rl} {E : L2.St → XK} {W : WX} {vs : List V} {Ps : List (Hp → V → Prop)} {xn : Str} {fs : List (Str × V)}
theorem RetNew.fwd {Q : VK} (e : Ex H H') (k : RetNew H Q P) : RetNew H' Q P := fun v H1 N e1 e2 f p => k v H1 N (e.trans e1) e2 (f.back e) p
theorem RaiseX.fwd {E : XK} (e : Ex H H') (k : RaiseX mg xn fs H E) : RaiseX mg xn fs H' E := fun H1 C d e1 g c => k H1 C d (e.trans e1) g (c.imp id fun ⟨a, h1, h2, h3, h4⟩ => ⟨a, h1, h2, fresh_back e h3, h4⟩)
theorem EvP.mono (e : Ex H H') (h : EvP te σ H P) : EvP te σ H' P := fun H1 a Q q => h H1 (e.trans a) Q q
theorem EvErr.mono (e : Ex H H') (h : EvErr mg W xn fs te σ H) : EvErr mg W xn fs te σ H' := fun H1 a q Q => h H1 (e.trans a) q Q
theorem ep_v (h : Ev te σ H v) : EvP te σ H (is v) := fun H1 e Q q => h H1 e Q fun H2 e2 => q v H2 emp e2 emp_ex emp_fr rfl
theorem ev_p (h : EvP te σ H (is v)) : Ev te σ H v := fun H1 e Q q => h H1 e Q fun x H2 _ e2 _ _ p => by
  have p : x = v := p
  subst p
  exact q H2 e2
theorem ep_imp (h : EvP te σ H P) (i : ∀ N v, P N v → P' N v) : EvP te σ H P' := fun H1 e Q q => h H1 e Q fun v H2 N e2 e3 f p => q v H2 N e2 e3 f (i N v p)
theorem ep_l {xs : List V} (h : EvL te σ H xs) : EvP te σ H (fun N v => ∃ p, v = .ref p ∧ N p = some (.lst xs)) := fun H1 e Q q => h H1 e Q fun p H2 hp e2 h2 => q (.ref p) H2 (sing p (.lst xs)) e2 (sing_ex h2) (sing_fr hp) ⟨p, rfl, sing_at⟩
theorem ep_u {xs : List V} (h : EvU te σ H xs) : EvP te σ H (fun N v => ∃ p, v = .ref p ∧ N p = some (.tup xs)) := fun H1 e Q q => h H1 e Q fun p H2 hp e2 h2 => q (.ref p) H2 (sing p (.tup xs)) e2 (sing_ex h2) (sing_fr hp) ⟨p, rfl, sing_at⟩
theorem eps_nil : EvPs tNil σ H [] := fun H1 _ Q q => q [] H1 (Ex.refl H1) .nil
theorem All2.mono (e : Ex H H') (h : All2 H Ps vs) : All2 H' Ps vs := by
  unfold All2 at h ⊢
  induction h with
  | nil => exact .nil
  | cons h _ ih =>
    obtain ⟨N, h1, h2⟩ := h
    exact .cons ⟨N, h1.trans e, h2⟩ ih
theorem eps_cons (h : EvP te σ H P) (hr : EvPs tr σ H Ps) : EvPs (tCons te tr) σ H (P :: Ps) := fun H1 e Q q =>
  h H1 e _ fun v H2 N e2 e3 _ p => hr H2 (e.trans e2) _ fun vs H3 e4 a => q (v :: vs) H3 (e2.trans e4) (.cons ⟨N, e3.trans e4, p⟩ a)
theorem all2_is : ∀ vs : List V, All2 H (vs.map is) vs
  | [] => .nil
  | _ :: r => .cons ⟨emp, emp_ex, rfl⟩ (all2_is r)
theorem eps_v (h : EvA tr σ H vs) : EvPs tr σ H (vs.map is) := fun H1 e Q q => h H1 e _ fun H2 e2 => q vs H2 e2 (all2_is vs)
/-! ### calls -/
theorem ep_call (ha : EvA tr σ H vs) (hR : S.R vs H (.ok P)) : EvP (tCallS (S.sp mg) E tr) σ H P := fun H1 e Q q => ha H1 e _ fun H2 e2 => ⟨.ok P, S.mono (e.trans e2) hR, q.fwd e2⟩
theorem ep_callN (ha : EvPs tr σ H Ps) (hR : ∀ vs H1, Ex H H1 → All2 H1 Ps vs → S.R vs H1 (.ok P)) : EvP (tCallS (S.sp mg) E tr) σ H P := fun H1 e Q q => ha H1 e _ fun vs H2 e2 a => ⟨.ok P, hR vs H2 (e.trans e2) a, q.fwd e2⟩
theorem ev_callO (ha : EvA tr σ H vs) (hR : S.R vs H (.ok (is v))) : Ev (tCallS (S.sp mg) E tr) σ H v := ev_p (ep_call ha hR)
theorem ev_callN (ha : EvPs tr σ H Ps) (hR : ∀ vs H1, Ex H H1 → All2 H1 Ps vs → S.R vs H1 (.ok (is v))) : Ev (tCallS (S.sp mg) E tr) σ H v := ev_p (ep_callN ha hR)
theorem er_call (ha : EvA tr σ H vs) (hR : S.R vs H (.err xn fs)) : EvErr mg W xn fs (tCallS (S.sp mg) (WE W) tr) σ H := fun H1 e q Q => ha H1 e _ fun H2 e2 => ⟨.err xn fs, S.mono (e.trans e2) hR, q.fwd e2⟩
theorem er_callN (ha : EvPs tr σ H Ps) (hR : ∀ vs H1, Ex H H1 → All2 H1 Ps vs → S.R vs H1 (.err xn fs)) : EvErr mg W xn fs (tCallS (S.sp mg) (WE W) tr) σ H := fun H1 e q Q => ha H1 e _ fun vs H2 e2 a => ⟨.err xn fs, hR vs H2 (e.trans e2) a, q.fwd e2⟩
/-- o.m(..) -/
theorem ep_meth {C a dx : Addr} {m : Str} {gs : List (Str × V)} (ho : Ev ta σ H (.ref a)) (h : H a = some (.ins C dx gs)) (hl : gs.lookup m = none) (ha : EvA tr σ H vs) (hR : S.R (.ref a :: vs) H (.ok P)) : EvP (tMethS C m (S.sp mg) E ta tr) σ H P :=
  fun H1 e Q q => ho H1 e _ fun H2 e2 => ⟨a, dx, gs, rfl, e2 _ _ (e _ _ h), hl, ha H2 (e.trans e2) _ fun H3 e3 => ⟨.ok P, S.mono ((e.trans e2).trans e3) hR, q.fwd (e2.trans e3)⟩⟩
theorem ep_methN {C a dx : Addr} {m : Str} {gs : List (Str × V)} (ho : Ev ta σ H (.ref a)) (h : H a = some (.ins C dx gs)) (hl : gs.lookup m = none) (ha : EvPs tr σ H Ps) (hR : ∀ vs H1, Ex H H1 → All2 H1 Ps vs → S.R (.ref a :: vs) H1 (.ok P)) : EvP (tMethS C m (S.sp mg) E ta tr) σ H P :=
  fun H1 e Q q => ho H1 e _ fun H2 e2 => ⟨a, dx, gs, rfl, e2 _ _ (e _ _ h), hl, ha H2 (e.trans e2) _ fun vs H3 e3 al => ⟨.ok P, hR vs H3 ((e.trans e2).trans e3) al, q.fwd (e2.trans e3)⟩⟩
theorem er_meth {C a dx : Addr} {m : Str} {gs : List (Str × V)} (ho : Ev ta σ H (.ref a)) (h : H a = some (.ins C dx gs)) (hl : gs.lookup m = none) (ha : EvA tr σ H vs) (hR : S.R (.ref a :: vs) H (.err xn fs)) : EvErr mg W xn fs (tMethS C m (S.sp mg) (WE W) ta tr) σ H :=
  fun H1 e q Q => ho H1 e _ fun H2 e2 => ⟨a, dx, gs, rfl, e2 _ _ (e _ _ h), hl, ha H2 (e.trans e2) _ fun H3 e3 => ⟨.err xn fs, S.mono ((e.trans e2).trans e3) hR, q.fwd (e2.trans e3)⟩⟩
/-! ### a raise goes through -/
theorem er_op1 (h : EvErr mg W xn fs ta σ H) : EvErr mg W xn fs (tOp r ta tb) σ H := fun H1 e q Q => h H1 e q _
theorem er_op2 (h1 : EvP ta σ H P) (h : EvErr mg W xn fs tb σ H) : EvErr mg W xn fs (tOp r ta tb) σ H := fun H1 e q Q => h1 H1 e _ fun v H2 N e2 _ _ _ => h H2 (e.trans e2) (q.fwd e2) _
theorem er_arg {sp : Sp} (h : ∀ H1, Ex H H1 → RaiseX mg xn fs H1 (WE W σ) → ∀ Q : List V → Hp → Prop, tr σ H1 Q) : EvErr mg W xn fs (tCallS sp E tr) σ H := fun H1 e q Q => h H1 e q _
/-! ### fields of an instance -/
theorem ev_fld {C a dx : Addr} {f : Str} {gs : List (Str × V)} (ho : Ev ta σ H (.ref a)) (h : H a = some (.ins C dx gs)) (c : Cls K C) (n : NoAttr K C f) (hl : gs.lookup f = some v) : Ev (tFld K ta f) σ H v := fun H1 e Q q =>
  ho H1 e _ fun H2 e2 => ⟨a, C, dx, gs, v, rfl, e2 _ _ (e _ _ h), c, n, hl, q H2 e2⟩
/-! ### operators -/
theorem rv_addI {i j : Int} : RV (rAddU K) (.int i) (.int j) H (.int (i + j)) := fun H1 _ _ q => .inl (.inl ⟨i, j, rfl, rfl, q H1 (Ex.refl H1)⟩)
theorem rv_addS {a b : Str} (h : a.length + b.length ≤ sizeLine) : RV (rAddU K) (.str a) (.str b) H (.str (a ++ b)) := fun H1 _ _ q => .inl (.inr ⟨a, b, rfl, rfl, h, q H1 (Ex.refl H1)⟩)
theorem rv_mulI {i j : Int} (h : CMulW i j) : RV rMulU (.int i) (.int j) H (.int (i * j)) := fun H1 _ _ q => .inl (.inl ⟨i, j, rfl, rfl, h, q H1 (Ex.refl H1)⟩)
theorem rv_mulS {a : Str} {n : Int} (h : MulOk a n) : RV rMulU (.str a) (.int n) H (.str (Txt.mul a n)) := fun H1 _ _ q => .inr ⟨a, n, rfl, rfl, h, q H1 (Ex.refl H1)⟩
theorem rc_int {a : Str} {n : Int} (h : PySem.intText? a = some n) (hl : a.length ≤ 640) : RC rIntS [.str a] H (.int n) := fun H1 _ _ q => ⟨a, n, rfl, h, hl, q H1 (Ex.refl H1)⟩
theorem rv_eqS (h : scal x y = true) : RV (rEqU K) x y H (.bl (decide (x = y))) := fun H1 _ _ q => .inl ⟨h, q H1 (Ex.refl H1)⟩
theorem rv_neS (h : scal x y = true) : RV (rNeU K) x y H (.bl (!decide (x = y))) := fun H1 _ _ q => .inl ⟨h, q H1 (Ex.refl H1)⟩
theorem rv_eqI {i j : Int} : RV (rEqU K) (.int i) (.int j) H (.bl (decide (i = j))) := fun H1 _ _ q => .inl ⟨rfl, by
  have e : decide (V.int i = V.int j) = decide (i = j) := by
    by_cases h : i = j
    · subst h; simp
    · rw [decide_eq_false h, decide_eq_false (fun z => h (V.int.inj z))]
  rw [e]
  exact q H1 (Ex.refl H1)⟩
theorem rv_neI {i j : Int} : RV (rNeU K) (.int i) (.int j) H (.bl (!decide (i = j))) := fun H1 _ _ q => .inl ⟨rfl, by
  have e : decide (V.int i = V.int j) = decide (i = j) := by
    by_cases h : i = j
    · subst h; simp
    · rw [decide_eq_false h, decide_eq_false (fun z => h (V.int.inj z))]
  rw [e]
  exact q H1 (Ex.refl H1)⟩
theorem rv_eqT {a b : Str} : RV (rEqU K) (.str a) (.str b) H (.bl (decide (a = b))) := fun H1 _ _ q => .inl ⟨rfl, by
  have e : decide (V.str a = V.str b) = decide (a = b) := by
    by_cases h : a = b
    · subst h; simp
    · rw [decide_eq_false h, decide_eq_false (fun z => h (V.str.inj z))]
  rw [e]
  exact q H1 (Ex.refl H1)⟩
theorem rv_neT {a b : Str} : RV (rNeU K) (.str a) (.str b) H (.bl (!decide (a = b))) := fun H1 _ _ q => .inl ⟨rfl, by
  have e : decide (V.str a = V.str b) = decide (a = b) := by
    by_cases h : a = b
    · subst h; simp
    · rw [decide_eq_false h, decide_eq_false (fun z => h (V.str.inj z))]
  rw [e]
  exact q H1 (Ex.refl H1)⟩
theorem rv_eqD {d e : PyData} (h1 : Dp K H x d) (h2 : Dp K H y e) (s1 : SeqAt.shaped d = true) (s2 : SeqAt.shaped e = true) : RV (rEqU K) x y H (.bl (PyData.eqv d e)) := fun H1 a _ q => .inr ⟨d, e, dp_mono a h1, dp_mono a h2, s1, s2, q H1 (Ex.refl H1)⟩
theorem rv_neD {d e : PyData} (h1 : Dp K H x d) (h2 : Dp K H y e) (s1 : SeqAt.shaped d = true) (s2 : SeqAt.shaped e = true) : RV (rNeU K) x y H (.bl (!PyData.eqv d e)) := fun H1 a _ q => .inr ⟨d, e, dp_mono a h1, dp_mono a h2, s1, s2, q H1 (Ex.refl H1)⟩
/-- both sides new, or data: == by what they hold -/
theorem ev_opN {P1 P2 : Hp → V → Prop} (ha : EvP ta σ H P1) (hb : EvP tb σ H P2) (hr : ∀ v1 v2 N1 N2 H1, Ex H H1 → Ex N1 H1 → Ex N2 H1 → P1 N1 v1 → P2 N2 v2 → RV r v1 v2 H1 z) : Ev (tOp r ta tb) σ H z := fun H1 e Q q =>
  ha H1 e _ fun v1 H2 N1 e2 i1 _ p1 => hb H2 (e.trans e2) _ fun v2 H3 N2 e3 i2 _ p2 => hr v1 v2 N1 N2 H3 ((e.trans e2).trans e3) (i1.trans e3) i2 p1 p2 H3 (Ex.refl H3) Q fun H4 e4 => q H4 ((e2.trans e3).trans e4)
theorem rv_ixLs {p : Addr} {xs : List V} {i : Int} (h : SqL K H p xs) (ha : atI xs i = some v) : RV (rIx K) (.ref p) (.int i) H v := fun H1 e _ q => .inl ⟨p, xs, i, v, rfl, rfl, ex_l e h, ha, q H1 (Ex.refl H1)⟩
theorem rv_ixTs {p : Addr} {xs : List V} {i : Int} (h : SqT K H p xs) (ha : atI xs i = some v) : RV (rIx K) (.ref p) (.int i) H v := fun H1 e _ q => .inr (.inl ⟨p, xs, i, v, rfl, rfl, ex_t e h, ha, q H1 (Ex.refl H1)⟩)
theorem rv_ixSs {w : Str} {i : Int} {c : Nat} (h : w.length ≤ 100000) (ha : atI w.cps.toList i = some c) : RV (rIx K) (.str w) (.int i) H (.str ⟨#[c]⟩) := fun H1 _ _ q => .inr (.inr ⟨w, i, c, rfl, rfl, sz_of h, ha, q H1 (Ex.refl H1)⟩)
theorem rv_inLs {p : Addr} {xs : List V} (h : SqL K H p xs) (hx : flatV x = true) (ha : xs.all flatV = true) : RV (rInU K) x (.ref p) H (.bl (inV x xs)) := fun H1 e _ q => .inl (.inl ⟨p, xs, rfl, Or.inl (ex_l e h), hx, ha, q H1 (Ex.refl H1)⟩)
theorem rv_niLs {p : Addr} {xs : List V} (h : SqL K H p xs) (hx : flatV x = true) (ha : xs.all flatV = true) : RV (rNotInU K) x (.ref p) H (.bl (!inV x xs)) := fun H1 e _ q => .inl (.inl ⟨p, xs, rfl, Or.inl (ex_l e h), hx, ha, q H1 (Ex.refl H1)⟩)
theorem rv_inTs {p : Addr} {xs : List V} (h : SqT K H p xs) (hx : flatV x = true) (ha : xs.all flatV = true) : RV (rInU K) x (.ref p) H (.bl (inV x xs)) := fun H1 e _ q => .inl (.inl ⟨p, xs, rfl, Or.inr (ex_t e h), hx, ha, q H1 (Ex.refl H1)⟩)
theorem rv_sign {c : Nat} {w : Str} : RV (rInU K) (.str ⟨#[c]⟩) (.str w) H (.bl (decide (c ∈ w.cps.toList))) := fun H1 _ _ q => .inl (.inr ⟨c, w, rfl, rfl, q H1 (Ex.refl H1)⟩)
theorem ru_neg' {i : Int} : RU (rU fun i => .int (-i)) (.int i) H (.int (-i)) := ru_neg
theorem rv_isN : RV (fun x y H Q => y = .non ∧ Q (.bl (decide (x = .non))) H) x .non H (.bl (decide (x = .non))) := fun H1 _ _ q => ⟨rfl, q H1 (Ex.refl H1)⟩
theorem rv_isnN : RV (fun x y H Q => y = .non ∧ Q (.bl (!decide (x = .non))) H) x .non H (.bl (!decide (x = .non))) := fun H1 _ _ q => ⟨rfl, q H1 (Ex.refl H1)⟩
/-! ### slices, len -/
theorem el_sl' {tl th : TO} {a : Addr} {xs : List V} {lo hi : Option Int} (h : Ev te σ H (.ref a)) (h1 : EvO tl σ H lo) (h2 : EvO th σ H hi) (hs : SqL K H a xs) : EvL (tSl (rSlU K) te tl th) σ H (cutV xs lo hi) := fun H1 e _ q =>
  h H1 e _ fun H2 e2 => h1 H2 (e.trans e2) _ fun H3 e3 => h2 H3 ((e.trans e2).trans e3) _ fun H4 e4 =>
    .inl (.inl ⟨a, xs, rfl, ex_l (((e.trans e2).trans e3).trans e4) hs, fun p hp => q p _ (fresh_back ((e2.trans e3).trans e4) hp) (((e2.trans e3).trans e4).trans (Ex.new hp)) upd_same⟩)
theorem ev_slS {tl th : TO} {w : Str} {lo hi : Option Int} (h : Ev te σ H (.str w)) (h1 : EvO tl σ H lo) (h2 : EvO th σ H hi) (hz : w.length ≤ 100000) : Ev (tSl (rSlU K) te tl th) σ H (.str (cutS w lo hi)) := fun H1 e _ q =>
  h H1 e _ fun H2 e2 => h1 H2 (e.trans e2) _ fun H3 e3 => h2 H3 ((e.trans e2).trans e3) _ fun H4 e4 => .inr ⟨w, rfl, sz_of hz, q H4 ((e2.trans e3).trans e4)⟩
theorem rc_lenL {p : Addr} {xs : List V} (h : SqL K H p xs) : RC (rLenU K) [.ref p] H (.int (xs.length : Int)) := fun H1 e _ q => .inl ⟨p, xs, rfl, .inl (ex_l e h), q H1 (Ex.refl H1)⟩
theorem rc_lenT {p : Addr} {xs : List V} (h : SqT K H p xs) : RC (rLenU K) [.ref p] H (.int (xs.length : Int)) := fun H1 e _ q => .inl ⟨p, xs, rfl, .inr (ex_t e h), q H1 (Ex.refl H1)⟩
theorem rc_lenS {w : Str} (h : w.length ≤ 100000) : RC (rLenU K) [.str w] H (.int (w.length : Int)) := fun H1 _ _ q => .inr ⟨w, rfl, sz_of h, q H1 (Ex.refl H1)⟩
theorem rc_abs {i : Int} : RC (fun xs H Q => ∃ i, xs = [.int i] ∧ Q (.int (if i < 0 then -i else i)) H) [.int i] H (.int (i.natAbs : Int)) := fun H1 _ _ q => ⟨i, rfl, by
  have e : (if i < 0 then -i else i) = (i.natAbs : Int) := by
    split <;> omega
  rw [e]
  exact q H1 (Ex.refl H1)⟩
end
/-! ### parts that stand apart in a heap -/
def Dj (N M : Hp) : Prop := ∀ a, N a ≠ none → M a = none
theorem Dj.symm {N M : Hp} (d : Dj N M) : Dj M N := fun a h => by
  cases q : N a with
  | none => rfl
  | some o => exact absurd (d a (by rw [q]; exact fun z => nomatch z)) h
def Own : List Hp → Hp → Prop
  | [], _ => True
  | N :: r, H => Ex N H ∧ (∀ M ∈ r, Dj N M) ∧ Own r H
theorem Own.mono {H H' : Hp} (e : Ex H H') : ∀ {Ns : List Hp}, Own Ns H → Own Ns H'
  | [], _ => trivial
  | _ :: _, ⟨a, b, c⟩ => ⟨a.trans e, b, c.mono e⟩
theorem Own.exm {H N : Hp} : ∀ {Ns : List Hp}, Own Ns H → N ∈ Ns → Ex N H
  | _ :: _, ⟨a, b, c⟩, h => by
    rcases List.mem_cons.mp h with h | h
    · subst h; exact a
    · exact c.exm h
theorem Own.ix {H N : Hp} {i : Nat} {Ns : List Hp} (o : Own Ns H) (h : Ns[i]? = some N) : Ex N H := o.exm (List.mem_of_getElem? h)
theorem Own.e0 {H N : Hp} {r : List Hp} (o : Own (N :: r) H) : Ex N H := o.1
theorem Own.e1 {H N M : Hp} {r : List Hp} (o : Own (M :: N :: r) H) : Ex N H := o.2.2.1
theorem Own.e2 {H N M M2 : Hp} {r : List Hp} (o : Own (M2 :: M :: N :: r) H) : Ex N H := o.2.2.2.2.1
theorem Own.e3 {H N M M2 M3 : Hp} {r : List Hp} (o : Own (M3 :: M2 :: M :: N :: r) H) : Ex N H := o.2.2.2.2.2.2.1
theorem Own.e4 {H N M M2 M3 M4 : Hp} {r : List Hp} (o : Own (M4 :: M3 :: M2 :: M :: N :: r) H) : Ex N H := o.2.2.2.2.2.2.2.2.1
theorem Own.dj {H N M : Hp} {i j : Nat} : ∀ {Ns : List Hp}, Own Ns H → i < j → Ns[i]? = some N → Ns[j]? = some M → Dj N M
  | N' :: r, ⟨a, b, c⟩, hij, hi, hj => by
    cases j with
    | zero => exact absurd hij (Nat.not_lt_zero _)
    | succ j =>
      cases i with
      | zero =>
        have e : N' = N := Option.some.inj hi
        subst e
        exact b M (List.mem_of_getElem? hj)
      | succ i => exact c.dj (Nat.lt_of_succ_lt_succ hij) hi hj
theorem Own.add {H H' N : Hp} {Ns : List Hp} (o : Own Ns H) (e : Ex H H') (n : Ex N H') (f : Fr H N) : Own (N :: Ns) H' :=
  ⟨n, fun M hM a h => ex_none (o.exm hM) (f a h), o.mono e⟩
theorem Own.one (H : Hp) : Own [H] H := ⟨Ex.refl H, (fun _ h => nomatch h), trivial⟩
theorem Own.tail {H N : Hp} {r : List Hp} (o : Own (N :: r) H) : Own r H := o.2.2
theorem Own.set {H : Hp} {l : Addr} {u u' : HO} : ∀ {Ns : List Hp} {j : Nat}, Own Ns H → Ns[j]? = some (sing l u) → Own (Ns.set j (sing l u')) (upd H l u')
  | N :: r, 0, ⟨a, b, c⟩, h => by
    have e : N = sing l u := Option.some.inj h
    subst e
    have hl : ∀ M ∈ r, M l = none := fun M hM => b M hM l (by rw [sing_at]; exact fun z => nomatch z)
    refine ⟨sing_ex upd_same, fun M hM x hx => ?_, ?_⟩
    · by_cases q : x = l
      · subst q; exact hl M hM
      · exact absurd (sing_ne q) hx
    · clear a b h
      induction r with
      | nil => trivial
      | cons M r ih =>
        obtain ⟨c1, c2, c3⟩ := c
        refine ⟨fun x o' hx => ?_, c2, ih c3 fun M' hM' => hl M' (List.mem_cons_of_mem _ hM')⟩
        have ne : x ≠ l := fun z => by
          rw [z, hl M List.mem_cons_self] at hx
          cases hx
        rw [upd_ne ne]
        exact c1 x o' hx
  | N :: r, j + 1, ⟨a, b, c⟩, h => by
    have hN : N l = none := by
      have d := b (sing l u) (List.mem_of_getElem? h)
      exact d.symm l (by rw [sing_at]; exact fun z => nomatch z)
    refine ⟨fun x o' hx => ?_, fun M hM => ?_, c.set h⟩
    · have ne : x ≠ l := fun z => by
        rw [z, hN] at hx
        cases hx
      rw [upd_ne ne]
      exact a x o' hx
    · rcases List.mem_or_eq_of_mem_set hM with h1 | h1
      · exact b M h1
      · subst h1
        intro x hx
        by_cases q : x = l
        · subst q; exact absurd hN hx
        · exact sing_ne q
theorem Own.at {H : Hp} {l : Addr} {u : HO} {Ns : List Hp} {j : Nat} (o : Own Ns H) (h : Ns[j]? = some (sing l u)) : H l = some u := o.ix h _ _ sing_at
/-- the part N and the part M told as one -/
theorem Own.merge {H N M : Hp} {r : List Hp} (o : Own (N :: M :: r) H) : Own (uni M N :: r) H :=
  ⟨uni_ex o.2.2.1 o.1, fun M' hM' a h => (uni_some h).elim (o.2.2.2.1 M' hM' a) (o.2.1 M' (List.mem_cons_of_mem _ hM') a), o.2.2.2.2⟩
theorem Own.swap {H N M : Hp} {r : List Hp} (o : Own (N :: M :: r) H) : Own (M :: N :: r) H :=
  ⟨o.2.2.1, fun M' hM' => by
    rcases List.mem_cons.mp hM' with h | h
    · subst h; exact (o.2.1 M List.mem_cons_self).symm
    · exact o.2.2.2.1 M' h, o.1, fun M' hM' => o.2.1 M' (List.mem_cons_of_mem _ hM'), o.2.2.2.2⟩
/-- what is handed back: N is new beside G -/
theorem Own.ret {H N G : Hp} {Ns : List Hp} {i j : Nat} {Q : VK} {P : Hp → V → Prop} {v : V} (o : Own Ns H) (k : RetNew G Q P) (hi : Ns[i]? = some N) (hj : Ns[j]? = some G) (hp : P N v) (hij : i < j := by decide) : Q v H :=
  k v H N (o.ix hj) (o.ix hi) (o.dj hij hi hj) hp
theorem Own.retV {H G : Hp} {Ns : List Hp} {j : Nat} {Q : VK} {P : Hp → V → Prop} {v : V} (o : Own Ns H) (k : RetNew G Q P) (hj : Ns[j]? = some G) (hp : P emp v) : Q v H := k v H emp (o.ix hj) emp_ex emp_fr hp
end Kj
namespace Kj
open PySem PySem.Spec PyProof.Rows L2 Evl
abbrev pTup (xs : List V) : Hp → V → Prop := fun N v => ∃ p, v = .ref p ∧ N p = some (.tup xs)
abbrev pLst (xs : List V) : Hp → V → Prop := fun N v => ∃ p, v = .ref p ∧ N p = some (.lst xs)
section
variable {K : PySem.W.Frag} {mg : Str → Option Value} {σ : L2.St} {H H' : Hp} {ta tb te tx : TE} {tr : TA} {t u : TT} {x y z v : V} {P : Hp → V → Prop} {vs : List V}
theorem ep_tup (h : EvA tr σ H vs) (hl : vs.length ≤ 100000 := by exact Nat.le_of_ble_eq_true rfl) : EvP (tTup tr) σ H (pTup vs) := ep_u (eu_tup h hl)
theorem ep_lst (h : EvA tr σ H vs) (hl : vs.length ≤ 100000 := by exact Nat.le_of_ble_eq_true rfl) : EvP (tLst tr) σ H (pLst vs) := ep_l (el_lst h hl)
/-- the first operand, or the thing asked, is new -/
theorem ev_op1 {r : R2} (ha : EvP ta σ H P) (hb : Ev tb σ H y) (hr : ∀ v N H1, Ex H H1 → Ex N H1 → P N v → RV r v y H1 z) : Ev (tOp r ta tb) σ H z :=
  ev_opN ha (ep_v hb) fun v1 v2 N1 N2 H1 e i1 _ p1 p2 => by
    have p2 : v2 = y := p2
    subst p2
    exact hr v1 N1 H1 e i1 p1
theorem ev_cb1 {r : List V → Hp → VK → Prop} (ha : EvP ta σ H P) (hr : ∀ v N H1, Ex H H1 → Ex N H1 → P N v → RC r [v] H1 z) : Ev (tCB r (tCons ta tNil)) σ H z := fun H1 e Q q =>
  ha H1 e _ fun v H2 N e2 i1 _ p => hr v N H2 (e.trans e2) i1 p H2 (Ex.refl H2) Q fun H3 e3 => q H3 (e2.trans e3)
end
end Kj
namespace Kj
open PySem PySem.Spec PyProof.Rows L2 Evl
theorem cmul_small {i j : Int} (h1 : -18446744073709551616 < i ∧ i < 18446744073709551616) (h2 : -18446744073709551616 < j ∧ j < 18446744073709551616) : CMulW i j := by
  have a : i.natAbs < 2 ^ 64 := by
    have e : (2 : Nat) ^ 64 = 18446744073709551616 := by decide
    rw [e]
    omega
  have b : j.natAbs < 2 ^ 64 := by
    have e : (2 : Nat) ^ 64 = 18446744073709551616 := by decide
    rw [e]
    omega
  exact wide_mul a b (by decide) (by decide) (by decide)
theorem cutV_take {xs : List V} (n : Nat) : cutV xs none (some (n : Int)) = xs.take n := by
  unfold cutV
  rw [HT.sIx_none, HT.sIx_nat]
  by_cases h : n ≤ xs.length
  · rw [Nat.min_eq_left h]
    rfl
  · rw [Nat.min_eq_right (by omega)]
    show (xs.drop 0).take (xs.length - 0) = _
    rw [List.drop_zero, Nat.sub_zero, List.take_length, List.take_of_length_le (by omega)]
theorem cutV_drop {xs : List V} (n : Nat) : cutV xs (some (n : Int)) none = xs.drop n := by
  unfold cutV
  rw [HT.sIx_none, HT.sIx_nat]
  by_cases h : n ≤ xs.length
  · rw [Nat.min_eq_left h, List.take_of_length_le (by rw [List.length_drop]; omega)]
  · rw [Nat.min_eq_right (by omega), List.drop_length, List.drop_of_length_le (by omega), List.take_nil]
end Kj
namespace Kj
open PySem PySem.Spec PyProof.Rows L2 Evl
theorem ep_if {σ : L2.St} {H : Hp} {ta tb : TE} {t : TT} {P : Hp → V → Prop} {b : Bool} (h : EvT t σ H b) (h1 : b = true → EvP ta σ H P) (h2 : b = false → EvP tb σ H P) : EvP (tIf t ta tb) σ H P := fun H1 e Q q => h H1 e _ fun H2 e2 => by
  cases b with
  | true =>
    show ta σ H2 Q
    exact h1 rfl H2 (e.trans e2) Q (q.fwd e2)
  | false =>
    show tb σ H2 Q
    exact h2 rfl H2 (e.trans e2) Q (q.fwd e2)
/-- (e1, e2), each told by what holds of its value -/
theorem ep_tupP {σ : L2.St} {H : Hp} {ta tb : TE} {P1 P2 P : Hp → V → Prop} (h1 : EvP ta σ H P1) (h2 : EvP tb σ H P2) (hp : ∀ N v1 v2 p, P1 emp v1 → P2 emp v2 → N p = some (.tup [v1, v2]) → P N (.ref p)) (f1 : ∀ N v, P1 N v → P1 emp v := by intro _ _ h; exact h) (f2 : ∀ N v, P2 N v → P2 emp v := by intro _ _ h; exact h) : EvP (tTup (tCons ta (tCons tb tNil))) σ H P := fun H1 e Q q =>
  h1 H1 e _ fun v1 H2 N1 e2 i1 _ p1 => h2 H2 (e.trans e2) _ fun v2 H3 N2 e3 i2 _ p2 => ⟨by show 2 ≤ sizeLine; decide, fun p hp0 =>
    q (.ref p) _ (sing p (.tup [v1, v2])) ((e2.trans e3).trans (Ex.new hp0)) (sing_ex upd_same) (sing_fr (fresh_back (e2.trans e3) hp0)) (hp _ v1 v2 p (f1 _ _ p1) (f2 _ _ p2) sing_at)⟩
/-- an operation whose value is told by what holds of it -/
theorem ev_opNP {σ : L2.St} {H : Hp} {ta tb : TE} {r : R2} {P1 P2 P : Hp → V → Prop} (ha : EvP ta σ H P1) (hb : EvP tb σ H P2) (hr : ∀ v1 v2 N1 N2 H1, Ex H H1 → Ex N1 H1 → Ex N2 H1 → P1 N1 v1 → P2 N2 v2 → ∃ z, RV r v1 v2 H1 z ∧ P emp z) : EvP (tOp r ta tb) σ H P := fun H1 e Q q =>
  ha H1 e _ fun v1 H2 N1 e2 i1 _ p1 => hb H2 (e.trans e2) _ fun v2 H3 N2 e3 i2 _ p2 => by
    obtain ⟨z, h1, h2⟩ := hr v1 v2 N1 N2 H3 ((e.trans e2).trans e3) (i1.trans e3) i2 p1 p2
    exact h1 H3 (Ex.refl H3) Q fun H4 e4 => q z H4 emp ((e2.trans e3).trans e4) emp_ex emp_fr h2
/-- the law's own promise -/
def spLaw (K : PySem.W.Frag) : Sp := fun vs H Q _ => ∃ (a : Addr) (ns : List Int), vs = [.ref a] ∧ SqL K H a (ns.map V.int) ∧ ns.length ≤ 63 ∧ ∀ H', Q (.bl true) H'
theorem cx_none {P : Program} {w : World} {o : List Env} {H : Hp} {s : Shared} {e : Value} {s' : Shared} (h : L2.CX P w o H s (fun _ _ _ => False) e s') : False := by
  obtain ⟨_, _, _, _, _, _, _, _, _, _, _, _, z⟩ := h
  exact z
/-- the promise of the very def that the name stands for -/
theorem Ok.fn {P : Program} {w : World} {K : PySem.W.Frag} {mg : Str → Option Value} {base : Heap} {k : Nat} {x : Str} {ps : List Str} {sp : Sp} {st : Stmt} {f : Addr} {fd : FuncData} (O : Ok P w K mg base k x ps sp) (g : mg x = some (.ref f)) (F : Fun K x x st f fd) : FnOk P w K mg base (L2.CX P w) k f fd ps sp := by
  obtain ⟨f', fd', g', kp, b, F', oc', od', osl', lk'⟩ := O.ex
  obtain ⟨oc, od, kV, doc, pm, an, cdv, ct, osl, hfd, lk, hcd⟩ := F.ex
  rw [g] at g'
  cases g'
  rw [lk] at lk'
  cases lk'
  exact F'
end Kj

/-! Kj2: statements, over parts of the heap that stand apart. s: the last of a block; q: something behind. -/
namespace Kj
open PySem PySem.Spec PyProof.Rows L2 Evl
section
variable {K : PySem.W.Frag} {mg : Str → Option Value} {σ : L2.St} {H G : Hp} {Ns : List Hp} {ta tb te tx : TE} {tr : TA} {t u : TT} {v : V} {P : Hp → V → Prop} {W : WX} {xn : Str} {fs : List (Str × V)} {D : Ends} {tu tw tz : TS} {g : TG}
theorem s_v {i : Nat} (o : Own Ns H) (h : Ev te σ H v) (k : ∀ H1, Own Ns H1 → D.nx (σ.set i (some v)) H1) : tAsg te (gName i) D σ H := h H (Ex.refl H) _ fun H1 e => k H1 (o.mono e)
theorem q_v {i : Nat} (o : Own Ns H) (h : Ev te σ H v) (k : ∀ H1, Own Ns H1 → tz D (σ.set i (some v)) H1) : tSeq (tAsg te (gName i)) tz D σ H := s_v (D := { D with nx := tz D }) o h k
theorem s_n {i : Nat} (o : Own Ns H) (h : EvP te σ H P) (k : ∀ v H1 N, Own (N :: Ns) H1 → P N v → D.nx (σ.set i (some v)) H1) : tAsg te (gName i) D σ H := h H (Ex.refl H) _ fun v H1 N e e2 f p => k v H1 N (o.add e e2 f) p
theorem q_n {i : Nat} (o : Own Ns H) (h : EvP te σ H P) (k : ∀ v H1 N, Own (N :: Ns) H1 → P N v → tz D (σ.set i (some v)) H1) : tSeq (tAsg te (gName i)) tz D σ H := s_n (D := { D with nx := tz D }) o h k
theorem s_l {i : Nat} {xs : List V} (o : Own Ns H) (h : EvL te σ H xs) (k : ∀ p H1, Own (sing p (.lst xs) :: Ns) H1 → D.nx (σ.set i (some (.ref p))) H1) : tAsg te (gName i) D σ H := h H (Ex.refl H) _ fun p H1 hp e h1 => k p H1 (o.add e (sing_ex h1) (sing_fr hp))
theorem q_l {i : Nat} {xs : List V} (o : Own Ns H) (h : EvL te σ H xs) (k : ∀ p H1, Own (sing p (.lst xs) :: Ns) H1 → tz D (σ.set i (some (.ref p))) H1) : tSeq (tAsg te (gName i)) tz D σ H := s_l (D := { D with nx := tz D }) o h k
theorem s_u {i : Nat} {xs : List V} (o : Own Ns H) (h : EvU te σ H xs) (k : ∀ p H1, Own (sing p (.tup xs) :: Ns) H1 → D.nx (σ.set i (some (.ref p))) H1) : tAsg te (gName i) D σ H := h H (Ex.refl H) _ fun p H1 hp e h1 => k p H1 (o.add e (sing_ex h1) (sing_fr hp))
theorem q_u {i : Nat} {xs : List V} (o : Own Ns H) (h : EvU te σ H xs) (k : ∀ p H1, Own (sing p (.tup xs) :: Ns) H1 → tz D (σ.set i (some (.ref p))) H1) : tSeq (tAsg te (gName i)) tz D σ H := s_u (D := { D with nx := tz D }) o h k
theorem s_er (h : EvErr mg W xn fs te σ H) (k : RaiseX mg xn fs H (WE W σ)) : tAsg te g D σ H := h H (Ex.refl H) k _
theorem q_er (h : EvErr mg W xn fs te σ H) (k : RaiseX mg xn fs H (WE W σ)) : tSeq (tAsg te g) tz D σ H := s_er (D := { D with nx := tz D }) h k
theorem s_dv (o : Own Ns H) (h : EvP te σ H P) (k : ∀ H1, Own Ns H1 → D.nx σ H1) : tDrop te D σ H := h H (Ex.refl H) _ fun v H1 N e _ _ _ => k H1 (o.mono e)
theorem q_dv (o : Own Ns H) (h : EvP te σ H P) (k : ∀ H1, Own Ns H1 → tz D σ H1) : tSeq (tDrop te) tz D σ H := s_dv (D := { D with nx := tz D }) o h k
theorem s_der (h : EvErr mg W xn fs te σ H) (k : RaiseX mg xn fs H (WE W σ)) : tDrop te D σ H := h H (Ex.refl H) k _
theorem q_der (h : EvErr mg W xn fs te σ H) (k : RaiseX mg xn fs H (WE W σ)) : tSeq (tDrop te) tz D σ H := s_der (D := { D with nx := tz D }) h k
theorem s_fi {b : Bool} (o : Own Ns H) (h : EvT t σ H b) (h1 : b = true → ∀ H1, Own Ns H1 → tu D σ H1) (h2 : b = false → ∀ H1, Own Ns H1 → tw D σ H1) : tIfS t tu tw D σ H := h H (Ex.refl H) _ fun H1 e => by
  cases b with
  | true =>
    show tu D σ H1
    exact h1 rfl H1 (o.mono e)
  | false =>
    show tw D σ H1
    exact h2 rfl H1 (o.mono e)
theorem q_fi {b : Bool} (o : Own Ns H) (h : EvT t σ H b) (h1 : b = true → ∀ H1, Own Ns H1 → tu { D with nx := tz D } σ H1) (h2 : b = false → ∀ H1, Own Ns H1 → tw { D with nx := tz D } σ H1) : tSeq (tIfS t tu tw) tz D σ H := s_fi (D := { D with nx := tz D }) o h h1 h2
theorem q_wh {b : Bool} (o : Own Ns H) (h : EvT t σ H b) (h1 : b = true → ∀ H1, Own Ns H1 → tu { D with nx := tz D } σ H1) (h2 : b = false → ∀ H1, Own Ns H1 → tz D σ H1) : tSeq (tIfS t tu tNext) tz D σ H := s_fi (D := { D with nx := tz D }) o h h1 h2
theorem s_wh {b : Bool} (o : Own Ns H) (h : EvT t σ H b) (h1 : b = true → ∀ H1, Own Ns H1 → tu D σ H1) (h2 : b = false → ∀ H1, Own Ns H1 → D.nx σ H1) : tIfS t tu tNext D σ H := s_fi o h h1 h2
theorem s_rv (o : Own Ns H) (h : Ev te σ H v) (k : ∀ H1, Own Ns H1 → D.rt v H1) : tRet te D σ H := h H (Ex.refl H) _ fun H1 e => k H1 (o.mono e)
theorem s_rn (o : Own Ns H) (h : EvP te σ H P) (k : ∀ v H1 N, Own (N :: Ns) H1 → P N v → D.rt v H1) : tRet te D σ H := h H (Ex.refl H) _ fun v H1 N e e2 f p => k v H1 N (o.add e e2 f) p
theorem s_rer (h : EvErr mg W xn fs te σ H) (k : RaiseX mg xn fs H (WE W σ)) : tRet te D σ H := h H (Ex.refl H) k _
theorem s_app {l : Addr} {xs : List V} {j : Nat} (o : Own Ns H) (hj : Ns[j]? = some (sing l (.lst xs))) (ha : Ev ta σ H (.ref l)) (h : Ev te σ H v) (hz : xs.length < 100000) (k : ∀ H1, Own (Ns.set j (sing l (.lst (xs ++ [v])))) H1 → D.nx σ H1) : tDrop (tBM K "list" rAppend ta (tCons te tNil)) D σ H := Evl.s_app (o.at hj) ha h hz fun H1 e => k _ ((o.mono e).set hj)
theorem q_app {l : Addr} {xs : List V} {j : Nat} (o : Own Ns H) (hj : Ns[j]? = some (sing l (.lst xs))) (ha : Ev ta σ H (.ref l)) (h : Ev te σ H v) (hz : xs.length < 100000) (k : ∀ H1, Own (Ns.set j (sing l (.lst (xs ++ [v])))) H1 → tz D σ H1) : tSeq (tDrop (tBM K "list" rAppend ta (tCons te tNil))) tz D σ H := s_app (D := { D with nx := tz D }) o hj ha h hz k
theorem s_appN {l : Addr} {xs : List V} {j : Nat} (o : Own Ns H) (hj : Ns[j]? = some (sing l (.lst xs))) (ha : Ev ta σ H (.ref l)) (h : EvP te σ H P) (hz : xs.length < 100000) (k : ∀ v H1 N, Own (N :: Ns.set j (sing l (.lst (xs ++ [v])))) H1 → P N v → D.nx σ H1) : tDrop (tBM K "list" rAppend ta (tCons te tNil)) D σ H := ha H (Ex.refl H) _ fun H1 e1 =>
  ⟨Or.inl ⟨rfl, xs, sq_of (e1 l _ (o.at hj))⟩, h H1 e1 _ fun v H2 N e2 e3 f p => ⟨l, xs, v, rfl, rfl, e2 l _ (e1 l _ (o.at hj)), sz_lt hz, k v _ N (((o.mono e1).add e2 e3 f).set (j := j + 1) hj) p⟩⟩
theorem q_appN {l : Addr} {xs : List V} {j : Nat} (o : Own Ns H) (hj : Ns[j]? = some (sing l (.lst xs))) (ha : Ev ta σ H (.ref l)) (h : EvP te σ H P) (hz : xs.length < 100000) (k : ∀ v H1 N, Own (N :: Ns.set j (sing l (.lst (xs ++ [v])))) H1 → P N v → tz D σ H1) : tSeq (tDrop (tBM K "list" rAppend ta (tCons te tNil))) tz D σ H := s_appN (D := { D with nx := tz D }) o hj ha h hz k
/-- for x in range(n) -/
theorem s_rg {j : Nat} {n : Int} (o : Own Ns H) (h : EvA tr σ H [.int n]) (hn : n ≤ 100000) (Pv : Nat → L2.St → Hp → Prop) (h0 : ∀ H1, Own Ns H1 → Pv 0 σ H1)
    (hs : ∀ (i : Nat) σ' H', (i : Int) < n → Pv i σ' H' → tu { D with nx := Pv (i + 1), ct := Pv (i + 1), bk := D.nx } (σ'.set j (some (.int (i : Int)))) H') (hd : ∀ σ' H', Pv n.toNat σ' H' → D.nx σ' H') (hm : -100000 ≤ n := by omega) : tFor (iRng1 tr) (gName j) tu D σ H :=
  h H (Ex.refl H) _ fun H1 e => ⟨n, rfl, by omega, by omega, for_range (lo := 0) (n := n.toNat) Pv (h0 H1 (o.mono e)) (fun i σ' H' hi p => by
    have e0 : (0 : Int) + (i : Int) = (i : Int) := Int.zero_add _
    show tu { D with nx := Pv (i + 1), ct := Pv (i + 1), bk := D.nx } (σ'.set j (some (.int ((0 : Int) + (i : Int))))) H'
    rw [e0]
    exact hs i σ' H' (by omega) p) hd⟩
theorem q_rg {j : Nat} {n : Int} (o : Own Ns H) (h : EvA tr σ H [.int n]) (hn : n ≤ 100000) (Pv : Nat → L2.St → Hp → Prop) (h0 : ∀ H1, Own Ns H1 → Pv 0 σ H1)
    (hs : ∀ (i : Nat) σ' H', (i : Int) < n → Pv i σ' H' → tu { D with nx := Pv (i + 1), ct := Pv (i + 1), bk := tz D } (σ'.set j (some (.int (i : Int)))) H') (hd : ∀ σ' H', Pv n.toNat σ' H' → tz D σ' H') (hm : -100000 ≤ n := by omega) : tSeq (tFor (iRng1 tr) (gName j) tu) tz D σ H :=
  s_rg (D := { D with nx := tz D }) o h hn Pv h0 hs hd hm
/-- for x in a list -/
theorem s_fl {a : Addr} {xs : List V} {tl : TE} {j : Nat} (o : Own Ns H) (h : Ev tl σ H (.ref a)) (hx : SqL K H a xs) (Pv : Nat → L2.St → Hp → Prop) (h0 : ∀ H1, Own Ns H1 → Pv 0 σ H1) (hl : ∀ i σ' H', i ≤ xs.length → Pv i σ' H' → SqL K H' a xs)
    (hs : ∀ i x σ' H', xs[i]? = some x → Pv i σ' H' → tu { D with nx := Pv (i + 1), ct := Pv (i + 1), bk := D.nx } (σ'.set j (some x)) H') (hd : ∀ σ' H', Pv xs.length σ' H' → D.nx σ' H') : tFor (iList K tl) (gName j) tu D σ H :=
  h H (Ex.refl H) _ fun H1 e => ⟨a, rfl, ⟨xs, ex_l e hx⟩, for_list Pv (h0 H1 (o.mono e)) hl hs hd⟩
theorem q_fl {a : Addr} {xs : List V} {tl : TE} {j : Nat} (o : Own Ns H) (h : Ev tl σ H (.ref a)) (hx : SqL K H a xs) (Pv : Nat → L2.St → Hp → Prop) (h0 : ∀ H1, Own Ns H1 → Pv 0 σ H1) (hl : ∀ i σ' H', i ≤ xs.length → Pv i σ' H' → SqL K H' a xs)
    (hs : ∀ i x σ' H', xs[i]? = some x → Pv i σ' H' → tu { D with nx := Pv (i + 1), ct := Pv (i + 1), bk := tz D } (σ'.set j (some x)) H') (hd : ∀ σ' H', Pv xs.length σ' H' → tz D σ' H') : tSeq (tFor (iList K tl) (gName j) tu) tz D σ H :=
  s_fl (D := { D with nx := tz D }) o h hx Pv h0 hl hs hd
/-- for x in a new list -/
theorem s_fn {xs : List V} {tl : TE} {j : Nat} (o : Own Ns H) (h : EvL tl σ H xs) (Pv : Nat → Addr → L2.St → Hp → Prop) (h0 : ∀ p H1, Own (sing p (.lst xs) :: Ns) H1 → Pv 0 p σ H1) (hl : ∀ i p σ' H', i ≤ xs.length → Pv i p σ' H' → H' p = some (.lst xs))
    (hs : ∀ i p x σ' H', xs[i]? = some x → Pv i p σ' H' → tu { D with nx := Pv (i + 1) p, ct := Pv (i + 1) p, bk := D.nx } (σ'.set j (some x)) H') (hd : ∀ p σ' H', Pv xs.length p σ' H' → D.nx σ' H') : tFor (iList K tl) (gName j) tu D σ H :=
  h H (Ex.refl H) _ fun p H1 hp e h1 => ⟨p, rfl, ⟨xs, sq_of h1⟩, for_list (fun i σ' H' => Pv i p σ' H') (h0 p H1 (o.add e (sing_ex h1) (sing_fr hp))) (fun i σ' H' hi q => sq_of (hl i p σ' H' hi q)) (fun i x σ' H' hx q => hs i p x σ' H' hx q) (fun σ' H' q => hd p σ' H' q)⟩
theorem q_fn {xs : List V} {tl : TE} {j : Nat} (o : Own Ns H) (h : EvL tl σ H xs) (Pv : Nat → Addr → L2.St → Hp → Prop) (h0 : ∀ p H1, Own (sing p (.lst xs) :: Ns) H1 → Pv 0 p σ H1) (hl : ∀ i p σ' H', i ≤ xs.length → Pv i p σ' H' → H' p = some (.lst xs))
    (hs : ∀ i p x σ' H', xs[i]? = some x → Pv i p σ' H' → tu { D with nx := Pv (i + 1) p, ct := Pv (i + 1) p, bk := tz D } (σ'.set j (some x)) H') (hd : ∀ p σ' H', Pv xs.length p σ' H' → tz D σ' H') : tSeq (tFor (iList K tl) (gName j) tu) tz D σ H :=
  s_fn (D := { D with nx := tz D }) o h Pv h0 hl hs hd
/-- while, by a word and a measure -/
theorem q_wl (Pv : Nat → L2.St → Hp → Prop) (m0 : Nat) (h0 : Pv m0 σ H)
    (hs : ∀ m σ' H', Pv m σ' H' → ∃ b, EvT t σ' H' b ∧ (b = true → ∀ H1, Ex H' H1 → tu { D with nx := fun σ2 H2 => ∃ m', m' < m ∧ Pv m' σ2 H2, ct := fun σ2 H2 => ∃ m', m' < m ∧ Pv m' σ2 H2, bk := tz D } σ' H1) ∧ (b = false → ∀ H1, Ex H' H1 → tz D σ' H1)) : tSeq (tWhile t tu) tz D σ H :=
  q_while Pv m0 h0 fun m σ' H' p => by
    obtain ⟨b, h1, h2, h3⟩ := hs m σ' H' p
    exact ⟨b, h1, fun hb H1 e => ⟨_, fun _ _ q => q, h2 hb H1 e⟩, h3⟩
end
end Kj
namespace Kj
open PySem PySem.Spec PyProof.Rows L2 Evl
theorem s_par {σ : L2.St} {H : Hp} {i j : Nat} {ta : TA} {v w : V} {D : Ends} (h : EvA ta σ H [v, w]) (k : ∀ H1, Ex H H1 → D.nx ((σ.set i (some v)).set j (some w)) H1) : tPar i j ta D σ H := h H (Ex.refl H) _ fun H1 e => ⟨v, w, rfl, k H1 e⟩
section
variable {K : PySem.W.Frag} {mg : Str → Option Value} {Wout : WX} {D : Ends} {l : List (Value × (Addr → Value → Option Addr → TS))} {ts : Addr → Value → Option Addr → TS} {σ : L2.St} {H : Hp} {xn : Str} {fs : List (Str × V)} {C : Addr} {c : Value}
/-- the clause at hand takes the error, or lets it by -/
theorem raise_hit (hC : mg xn = some (.ref C)) (h : PySem.W.exmOne K (.ref C) c = some true) (k : ∀ H' d a, Ex H H' → H' a = none → (fs = [] ∧ d = none ∨ ∃ a, d = some a ∧ H' a = some (.xd fs) ∧ H a = none ∧ fs ≠ []) → ts a (.ref C) d D σ H') :
    RaiseX mg xn fs H (WE (wMany K Wout D ((c, ts) :: l)) σ) := fun H' C' d e g cc => by
  have e1 : C' = C := by
    rw [hC] at g
    cases g
    rfl
  subst e1
  exact ⟨true, h, fun _ a ha => k H' d a e ha cc, fun z => nomatch z⟩
theorem raise_miss (hC : mg xn = some (.ref C)) (h : PySem.W.exmOne K (.ref C) c = some false) (k : RaiseX mg xn fs H (WE (wMany K Wout D l) σ)) : RaiseX mg xn fs H (WE (wMany K Wout D ((c, ts) :: l)) σ) := fun H' C' d e g cc => by
  have e1 : C' = C := by
    rw [hC] at g
    cases g
    rfl
  subst e1
  exact ⟨false, h, (fun z => nomatch z), fun _ => k H' C' d e hC cc⟩
end
end Kj

/-! Kj3: what is walked: an iterator by what it draws; loops and comprehensions over it. -/
namespace Kj
open PySem PySem.Spec PyProof.Rows L2 Evl
/-- J draws n items, the i-th told by Y, in every heap that holds G -/
structure Drw (J : L2.It) (G : Hp) (n : Nat) (Y : Nat → V → Hp → Prop) : Prop where
  go : ∀ i H', Ex G H' → i < n → J.go i H'
  stop : ∀ H', Ex G H' → J.stop n H'
  yld : ∀ i H' x H'', Ex G H' → i < n → J.yld i H' x H'' → Ex H' H'' ∧ Y i x H''
theorem Drw.mono {J : L2.It} {G G' : Hp} {n : Nat} {Y : Nat → V → Hp → Prop} (e : Ex G G') (d : Drw J G n Y) : Drw J G' n Y :=
  ⟨fun i H' a h => d.go i H' (e.trans a) h, fun H' a => d.stop H' (e.trans a), fun i H' x H'' a h y => d.yld i H' x H'' (e.trans a) h y⟩
/-- the iterable is worth an iterator that draws so; G: the part that it reads -/
def EvI (wi : TI) (σ : L2.St) (H G : Hp) (n : Nat) (Y : Nat → V → Hp → Prop) : Prop := ∀ H1, Ex H H1 → ∀ R : L2.It → Hp → Prop, (∀ J H2, Ex H1 H2 → Drw J G n Y → R J H2) → wi σ H1 R
/-- .. a new one, N: what it reads -/
def EvJ (wi : TI) (σ : L2.St) (H : Hp) (n : Nat) (Y : Nat → V → Hp → Prop) : Prop := ∀ H1, Ex H H1 → ∀ R : L2.It → Hp → Prop, (∀ J H2 N, Ex H1 H2 → Ex N H2 → Fr H1 N → Drw J N n Y → R J H2) → wi σ H1 R
theorem drw_list {K : PySem.W.Frag} {G : Hp} {a : Addr} {xs : List V} (h : SqL K G a xs) : Drw (Itl K a) G xs.length fun i x _ => xs[i]? = some x where
  go := fun i H' e hi => ⟨xs, xs[i], ex_l e h, by simp [hi]⟩
  stop := fun H' e => ⟨xs, ex_l e h, Nat.le_refl _⟩
  yld := fun i H' x H'' e hi y => by
    obtain ⟨e1, y⟩ := y
    subst e1
    exact ⟨Ex.refl _, y xs (ex_l e h)⟩
theorem drw_tup {K : PySem.W.Frag} {G : Hp} {a : Addr} {xs : List V} (h : SqT K G a xs) : Drw (Itt K a) G xs.length fun i x _ => xs[i]? = some x where
  go := fun i H' e hi => ⟨xs, xs[i], ex_t e h, by simp [hi]⟩
  stop := fun H' e => ⟨xs, ex_t e h, Nat.le_refl _⟩
  yld := fun i H' x H'' e hi y => by
    obtain ⟨e1, y⟩ := y
    subst e1
    exact ⟨Ex.refl _, y xs (ex_t e h)⟩
theorem drw_rng {G : Hp} {lo : Int} {n : Nat} : Drw (Itr lo n) G n fun i x _ => x = .int (lo + i) where
  go := fun i H' _ hi => hi
  stop := fun H' _ => Nat.le_refl _
  yld := fun i H' x H'' _ hi y => by
    obtain ⟨e1, y⟩ := y
    subst e1
    exact ⟨Ex.refl _, y⟩
theorem drw_str {G : Hp} {w : Str} : Drw (Its w) G w.cps.size fun i x _ => ∃ c, w.cps[i]? = some c ∧ x = .str ⟨#[c]⟩ where
  go := fun i H' _ hi => hi
  stop := fun H' _ => Nat.le_refl _
  yld := fun i H' x H'' _ hi y => by
    obtain ⟨e1, y⟩ := y
    subst e1
    exact ⟨Ex.refl _, y⟩
theorem drw_enum {K : PySem.W.Frag} {G : Hp} {a : Addr} {xs : List V} (h : SqL K G a xs) : Drw (Ite K a) G xs.length fun i x H' => ∃ T y, x = .ref T ∧ H' T = some (.tup [.int (i : Nat), y]) ∧ xs[i]? = some y where
  go := fun i H' e hi => ⟨xs, xs[i], ex_l e h, by simp [hi]⟩
  stop := fun H' e => ⟨xs, ex_l e h, Nat.le_refl _⟩
  yld := fun i H' x H'' e hi y => by
    obtain ⟨T, z, e1, e2, e3, y⟩ := y
    subst e3
    exact ⟨Ex.new e2, T, z, e1, upd_same, y xs (ex_l e h)⟩
theorem drw_zip {K : PySem.W.Frag} {G : Hp} {a b : Addr} {xs ys : List V} (h : SqL K G a xs) (h2 : SqL K G b ys) (hl : xs.length = ys.length) : Drw (Itz K a b) G xs.length fun i x H' => ∃ T y z, x = .ref T ∧ H' T = some (.tup [y, z]) ∧ xs[i]? = some y ∧ ys[i]? = some z where
  go := fun i H' e hi => ⟨xs, ys, xs[i], ys[i], ex_l e h, ex_l e h2, by simp [hi], by simp⟩
  stop := fun H' e => ⟨xs, ys, ex_l e h, ex_l e h2, .inl (Nat.le_refl _)⟩
  yld := fun i H' x H'' e hi y => by
    obtain ⟨T, z, z2, e1, e2, e3, y, y2⟩ := y
    subst e3
    exact ⟨Ex.new e2, T, z, z2, e1, upd_same, y xs (ex_l e h), y2 ys (ex_l e h2)⟩
theorem drw_zipT {K : PySem.W.Frag} {G : Hp} {a b : Addr} {xs ys : List V} (h : SqT K G a xs) (h2 : SqT K G b ys) (hl : xs.length = ys.length) : Drw (RZ.ItzT K a b) G xs.length fun i x H' => ∃ T y z, x = .ref T ∧ H' T = some (.tup [y, z]) ∧ xs[i]? = some y ∧ ys[i]? = some z where
  go := fun i H' e hi => ⟨xs, ys, xs[i], ys[i], ex_t e h, ex_t e h2, by simp [hi], by simp⟩
  stop := fun H' e => ⟨xs, ys, ex_t e h, ex_t e h2, .inl (Nat.le_refl _)⟩
  yld := fun i H' x H'' e hi y => by
    obtain ⟨T, z, z2, e1, e2, e3, y, y2⟩ := y
    subst e3
    exact ⟨Ex.new e2, T, z, z2, e1, upd_same, y xs (ex_t e h), y2 ys (ex_t e h2)⟩
section
variable {K : PySem.W.Frag} {mg : Str → Option Value} {σ : L2.St} {H G : Hp} {Ns : List Hp} {ta tb te tx : TE} {tr : TA} {t tt : TT} {v : V} {P : Hp → V → Prop} {W : WX} {D : Ends} {tu tw tz : TS} {g : TG} {wi : TI} {n : Nat} {Y : Nat → V → Hp → Prop}
theorem ei_list {a : Addr} {xs : List V} (h : Ev te σ H (.ref a)) (hx : SqL K G a xs) (eg : Ex G H) : EvI (iList K te) σ H G xs.length fun i x _ => xs[i]? = some x := fun H1 e R q => h H1 e _ fun H2 e2 => ⟨a, rfl, ⟨xs, ex_l ((eg.trans e).trans e2) hx⟩, q _ H2 e2 (drw_list hx)⟩
theorem ei_tup {a : Addr} {xs : List V} (h : Ev te σ H (.ref a)) (hx : SqT K G a xs) (eg : Ex G H) : EvI (iTup K te) σ H G xs.length fun i x _ => xs[i]? = some x := fun H1 e R q => h H1 e _ fun H2 e2 => ⟨a, rfl, ⟨xs, ex_t ((eg.trans e).trans e2) hx⟩, q _ H2 e2 (drw_tup hx)⟩
theorem ei_rng1 {m : Int} (h : EvA tr σ H [.int m]) (hm : -100000 ≤ m ∧ m ≤ 100000) : EvI (iRng1 tr) σ H G m.toNat fun i x _ => x = .int (i : Nat) := fun H1 e R q => h H1 e _ fun H2 e2 => ⟨m, rfl, by omega, by omega, q _ H2 e2 ⟨drw_rng.go, drw_rng.stop (G := G), fun i H' x H'' a hi y => by
  obtain ⟨z1, z2⟩ := (drw_rng (G := G)).yld i H' x H'' a hi y
  exact ⟨z1, by rw [z2, Int.zero_add]⟩⟩⟩
theorem ei_rng2 {l m : Int} (h : EvA tr σ H [.int l, .int m]) (hm : -100000 ≤ m ∧ m ≤ 100000) (hl : -100000 ≤ l ∧ l ≤ 100000) : EvI (iRng2 tr) σ H G (m - l).toNat fun i x _ => x = .int (l + (i : Nat)) := fun H1 e R q => h H1 e _ fun H2 e2 => ⟨l, m, rfl, ⟨by omega, by omega, by omega, by omega⟩, q _ H2 e2 drw_rng⟩
theorem ei_str {w : Str} (h : Ev te σ H (.str w)) : EvI (iStr te) σ H G w.cps.size fun i x _ => ∃ c, w.cps[i]? = some c ∧ x = .str ⟨#[c]⟩ := fun H1 e R q => h H1 e _ fun H2 e2 => ⟨w, rfl, q _ H2 e2 drw_str⟩
theorem ei_enum {a : Addr} {xs : List V} (h : EvA tr σ H [.ref a]) (hx : SqL K G a xs) (eg : Ex G H) : EvI (iEnum K tr) σ H G xs.length fun i x H' => ∃ T y, x = .ref T ∧ H' T = some (.tup [.int (i : Nat), y]) ∧ xs[i]? = some y := fun H1 e R q => h H1 e _ fun H2 e2 => ⟨a, xs, rfl, ex_l ((eg.trans e).trans e2) hx, q _ H2 e2 (drw_enum hx)⟩
theorem ei_zip {a b : Addr} {xs ys : List V} (h : EvA tr σ H [.ref a, .ref b]) (hx : SqL K G a xs) (hy : SqL K G b ys) (hl : xs.length = ys.length) (eg : Ex G H) : EvI (RZ.iZipA K tr) σ H G xs.length fun i x H' => ∃ T y z, x = .ref T ∧ H' T = some (.tup [y, z]) ∧ xs[i]? = some y ∧ ys[i]? = some z := fun H1 e R q =>
  h H1 e _ fun H2 e2 => ⟨a, b, xs, ys, rfl, .inl ⟨ex_l ((eg.trans e).trans e2) hx, ex_l ((eg.trans e).trans e2) hy, q _ H2 e2 (drw_zip hx hy hl)⟩⟩
theorem ei_zipT {a b : Addr} {xs ys : List V} (h : EvA tr σ H [.ref a, .ref b]) (hx : SqT K G a xs) (hy : SqT K G b ys) (hl : xs.length = ys.length) (eg : Ex G H) : EvI (RZ.iZipA K tr) σ H G xs.length fun i x H' => ∃ T y z, x = .ref T ∧ H' T = some (.tup [y, z]) ∧ xs[i]? = some y ∧ ys[i]? = some z := fun H1 e R q =>
  h H1 e _ fun H2 e2 => ⟨a, b, xs, ys, rfl, .inr ⟨ex_t ((eg.trans e).trans e2) hx, ex_t ((eg.trans e).trans e2) hy, q _ H2 e2 (drw_zipT hx hy hl)⟩⟩
/-- the list walked is new -/
theorem ej_list {xs : List V} (h : EvL te σ H xs) : EvJ (iList K te) σ H xs.length fun i x _ => xs[i]? = some x := fun H1 e R q => h H1 e _ fun p H2 hp e2 h2 => ⟨p, rfl, ⟨xs, sq_of h2⟩, q _ H2 (sing p (.lst xs)) e2 (sing_ex h2) (sing_fr hp) (drw_list (sq_of sing_at))⟩
theorem ej_enum {xs : List V} (h : EvL te σ H xs) : EvJ (iEnum K (tCons te tNil)) σ H xs.length fun i x H' => ∃ T y, x = .ref T ∧ H' T = some (.tup [.int (i : Nat), y]) ∧ xs[i]? = some y := fun H1 e R q => h H1 e _ fun p H2 hp e2 h2 => ⟨p, xs, rfl, sq_of h2, q _ H2 (sing p (.lst xs)) e2 (sing_ex h2) (sing_fr hp) (drw_enum (sq_of sing_at))⟩
/-- any new list, its items told by what holds of the list -/
theorem ej_listP {X : List V → Hp → Prop} (h : EvP te σ H (fun N v => ∃ p xs, v = .ref p ∧ N p = some (.lst xs) ∧ X xs N)) : ∀ H1, Ex H H1 → ∀ R : L2.It → Hp → Prop, (∀ J H2 N xs, Ex H1 H2 → Ex N H2 → Fr H1 N → X xs N → Drw J N xs.length (fun i x _ => xs[i]? = some x) → R J H2) → iList K te σ H1 R := fun H1 e R q =>
  h H1 e _ fun v H2 N e2 e3 f ⟨p, xs, ev, hp, hX⟩ => ⟨p, ev, ⟨xs, sq_of (e3 _ _ hp)⟩, q _ H2 N xs e2 e3 f hX (drw_list (sq_of hp))⟩
/-! ### loops -/
theorem for_drw {J : L2.It} (d : Drw J G n Y) (Pv : Nat → L2.St → Hp → Prop) (h0 : Pv 0 σ H) (hG : ∀ i σ' H', i ≤ n → Pv i σ' H' → Ex G H')
    (hs : ∀ i x σ' H' H'', i < n → Pv i σ' H' → Ex H' H'' → Y i x H'' → g x σ' H'' fun σ2 H2 => tu { D with nx := Pv (i + 1), ct := Pv (i + 1), bk := D.nx } σ2 H2) (hd : ∀ σ' H', Pv n σ' H' → D.nx σ' H') :
    ∃ W : Nat → Nat → L2.St → Hp → Prop, (∃ m, W 0 m σ H) ∧ ∀ i m σ H, W i m σ H →
      (J.stop i H ∧ D.nx σ H) ∨ (J.go i H ∧ ∃ N : L2.St → Hp → Prop, (∀ σ' H', N σ' H' → ∃ m', m' < m ∧ W (i + 1) m' σ' H') ∧ ∀ x H', J.yld i H x H' → g x σ H' fun σ2 H2 => tu { D with nx := N, ct := N, bk := D.nx } σ2 H2) := by
  refine ⟨fun i m σ H => m = n - i ∧ i ≤ n ∧ Pv i σ H, ⟨n, by simp, Nat.zero_le _, h0⟩, ?_⟩
  rintro i m σ H ⟨rfl, hi, p⟩
  have eG := hG i σ H hi p
  by_cases hlt : i < n
  · refine .inr ⟨d.go i H eG hlt, Pv (i + 1), fun σ' H' p' => ⟨n - (i + 1), by omega, rfl, hlt, p'⟩, fun x H' y => ?_⟩
    obtain ⟨e, y⟩ := d.yld i H x H' eG hlt y
    exact hs i x σ H H' hlt p e y
  · have e : i = n := by omega
    subst e
    exact .inl ⟨d.stop H eG, hd σ H p⟩
theorem s_for (o : Own Ns H) (hi : EvI wi σ H G n Y) (Pv : Nat → L2.St → Hp → Prop) (h0 : ∀ H1, Own Ns H1 → Pv 0 σ H1) (hG : ∀ i σ' H', i ≤ n → Pv i σ' H' → Ex G H')
    (hs : ∀ i x σ' H' H'', i < n → Pv i σ' H' → Ex H' H'' → Y i x H'' → g x σ' H'' fun σ2 H2 => tu { D with nx := Pv (i + 1), ct := Pv (i + 1), bk := D.nx } σ2 H2) (hd : ∀ σ' H', Pv n σ' H' → D.nx σ' H') : tFor wi g tu D σ H :=
  hi H (Ex.refl H) _ fun J H1 e d => for_drw d Pv (h0 H1 (o.mono e)) hG hs hd
theorem q_for (o : Own Ns H) (hi : EvI wi σ H G n Y) (Pv : Nat → L2.St → Hp → Prop) (h0 : ∀ H1, Own Ns H1 → Pv 0 σ H1) (hG : ∀ i σ' H', i ≤ n → Pv i σ' H' → Ex G H')
    (hs : ∀ i x σ' H' H'', i < n → Pv i σ' H' → Ex H' H'' → Y i x H'' → g x σ' H'' fun σ2 H2 => tu { D with nx := Pv (i + 1), ct := Pv (i + 1), bk := tz D } σ2 H2) (hd : ∀ σ' H', Pv n σ' H' → tz D σ' H') : tSeq (tFor wi g tu) tz D σ H :=
  s_for (D := { D with nx := tz D }) o hi Pv h0 hG hs hd
/-- over something new: N is told to the word -/
theorem s_forJ (o : Own Ns H) (hi : EvJ wi σ H n Y) (Pv : Hp → Nat → L2.St → Hp → Prop) (h0 : ∀ N H1, Own (N :: Ns) H1 → Pv N 0 σ H1) (hG : ∀ N i σ' H', i ≤ n → Pv N i σ' H' → Ex N H')
    (hs : ∀ N i x σ' H' H'', i < n → Pv N i σ' H' → Ex H' H'' → Y i x H'' → g x σ' H'' fun σ2 H2 => tu { D with nx := Pv N (i + 1), ct := Pv N (i + 1), bk := D.nx } σ2 H2) (hd : ∀ N σ' H', Pv N n σ' H' → D.nx σ' H') : tFor wi g tu D σ H :=
  hi H (Ex.refl H) _ fun J H1 N e e2 f d => for_drw d (Pv N) (h0 N H1 (o.add e e2 f)) (hG N) (hs N) (hd N)
theorem q_forJ (o : Own Ns H) (hi : EvJ wi σ H n Y) (Pv : Hp → Nat → L2.St → Hp → Prop) (h0 : ∀ N H1, Own (N :: Ns) H1 → Pv N 0 σ H1) (hG : ∀ N i σ' H', i ≤ n → Pv N i σ' H' → Ex N H')
    (hs : ∀ N i x σ' H' H'', i < n → Pv N i σ' H' → Ex H' H'' → Y i x H'' → g x σ' H'' fun σ2 H2 => tu { D with nx := Pv N (i + 1), ct := Pv N (i + 1), bk := tz D } σ2 H2) (hd : ∀ N σ' H', Pv N n σ' H' → tz D σ' H') : tSeq (tFor wi g tu) tz D σ H :=
  s_forJ (D := { D with nx := tz D }) o hi Pv h0 hG hs hd
/-! ### comprehensions -/
theorem lc_drw {J : L2.It} {vs : List Nat} {H1 : Hp} {Dl : Addr} {Qd : Hp → Prop} (d : Drw J G n Y) (Pv : Nat → Hp → Prop) (h0 : Pv 0 (upd H1 Dl (.lst []))) (hG : ∀ i H', i ≤ n → Pv i H' → Ex G H')
    (hs : ∀ i x H' H'', i < n → Pv i H' → Ex H' H'' → Y i x H'' → g x (wipe σ vs) H'' fun σ2 H2 => wipe σ2 vs = wipe σ vs ∧ tt σ2 H2 fun b H3 =>
      if b = true then te σ2 H3 fun y H4 => ∃ acc, H4 Dl = some (.lst acc) ∧ acc.length < sizeLine ∧ Pv (i + 1) (upd H4 Dl (.lst (acc ++ [y]))) else Pv (i + 1) H3) (hd : ∀ H', Pv n H' → Qd H') :
    ∃ W : Nat → Nat → Hp → Prop, (∃ m, W 0 m (upd H1 Dl (.lst []))) ∧ ∀ i m H, W i m H →
      (J.stop i H ∧ Qd H) ∨ (J.go i H ∧ ∃ Nx : Hp → Prop, (∀ H', Nx H' → ∃ m', m' < m ∧ W (i + 1) m' H') ∧ ∀ x H', J.yld i H x H' → g x (wipe σ vs) H' fun σ2 H2 => wipe σ2 vs = wipe σ vs ∧ tt σ2 H2 fun b H3 =>
        if b = true then te σ2 H3 fun y H4 => ∃ acc, H4 Dl = some (.lst acc) ∧ acc.length < sizeLine ∧ Nx (upd H4 Dl (.lst (acc ++ [y]))) else Nx H3) := by
  refine ⟨fun i m H => m = n - i ∧ i ≤ n ∧ Pv i H, ⟨n, by simp, Nat.zero_le _, h0⟩, ?_⟩
  rintro i m H ⟨rfl, hi, p⟩
  have eG := hG i H hi p
  by_cases hlt : i < n
  · refine .inr ⟨d.go i H eG hlt, Pv (i + 1), fun H' p' => ⟨n - (i + 1), by omega, rfl, hlt, p'⟩, fun x H' y => ?_⟩
    obtain ⟨e, y⟩ := d.yld i H x H' eG hlt y
    exact hs i x H H' hlt p e y
  · have e : i = n := by omega
    subst e
    exact .inl ⟨d.stop H eG, hd H p⟩
/-- the places that are taken -/
def picks (n : Nat) (f : Nat → Bool) : List Nat := (List.range n).filter f
theorem picks_yes {i : Nat} {f : Nat → Bool} (h : f i = true) : picks (i + 1) f = picks i f ++ [i] := by
  unfold picks
  rw [List.range_succ, List.filter_append, List.filter_cons, if_pos h]
  rfl
theorem picks_no {i : Nat} {f : Nat → Bool} (h : f i = false) : picks (i + 1) f = picks i f := by
  unfold picks
  rw [List.range_succ, List.filter_append, List.filter_cons, if_neg (by rw [h]; decide)]
  exact List.append_nil _
theorem picks_len (n : Nat) (f : Nat → Bool) : (picks n f).length ≤ n := by
  have h := List.length_filter_le f (List.range n)
  rw [List.length_range] at h
  exact h
theorem paired_snoc {α β : Type} {R : α → β → Prop} : ∀ {xs : List α} {ys : List β} {x : α} {y : β}, Paired R xs ys → R x y → Paired R (xs ++ [x]) (ys ++ [y])
  | _, _, _, _, .nil, h => .cons h .nil
  | _, _, _, _, .cons a r, h => .cons a (paired_snoc r h)
theorem paired_imp {α β : Type} {R R' : α → β → Prop} (i : ∀ x y, R x y → R' x y) : ∀ {xs : List α} {ys : List β}, Paired R xs ys → Paired R' xs ys
  | _, _, .nil => .nil
  | _, _, .cons a r => .cons (i _ _ a) (paired_imp i r)
/-- flat values -/
theorem el_lc {vs : List Nat} (S : Nat → L2.St) (f : Nat → Bool) (v : Nat → V) (hi : EvI wi σ H G n Y) (eG : Ex G H) (hn : n ≤ 50000) (hg : ∀ i x H', i < n → Y i x H' → ∀ Q : L2.St → Hp → Prop, Q (S i) H' → g x (wipe σ vs) H' Q) (hw : ∀ i, i < n → wipe (S i) vs = wipe σ vs)
    (ht : ∀ i H1, Ex H H1 → i < n → EvT tt (S i) H1 (f i)) (he : ∀ i H1, Ex H H1 → i < n → f i = true → Ev te (S i) H1 (v i)) : EvL (tLc wi g tt te vs) σ H ((picks n f).map v) := fun H0 e Q q =>
  hi H0 e _ fun J H1 e1 d Dl hD => lc_drw d (fun i H' => Ex H1 H' ∧ H' Dl = some (.lst ((picks i f).map v))) ⟨Ex.new hD, upd_same⟩ (fun i H' _ p => ((eG.trans e).trans e1).trans p.1) (fun i x H' H'' hlt p e2 hy => hg i x H'' hlt hy _ ⟨hw i hlt, by
    refine ht i H'' (((e.trans e1).trans p.1).trans e2) hlt H'' (Ex.refl _) _ fun H3 e3 => ?_
    cases hf : f i with
    | true =>
      show te (S i) H3 _
      refine he i H3 ((((e.trans e1).trans p.1).trans e2).trans e3) hlt hf H3 (Ex.refl _) _ fun H4 e4 => ⟨_, e4 _ _ (e3 _ _ (e2 _ _ p.2)), ?_, Ex.mut (((p.1.trans e2).trans e3).trans e4) hD, ?_⟩
      · rw [List.length_map]
        exact sz_lt (by have := picks_len i f; omega)
      · rw [upd_same, picks_yes hf, List.map_append]
        rfl
    | false =>
      show Ex H1 H3 ∧ H3 Dl = _
      refine ⟨(p.1.trans e2).trans e3, ?_⟩
      rw [picks_no hf]
      exact e3 _ _ (e2 _ _ p.2)⟩) (fun H' p => q Dl H' (fresh_back e1 hD) (e1.trans p.1) p.2)
/-- new values: the list and its items are one new part -/
theorem ep_lc {vs : List Nat} (S : Nat → L2.St) (f : Nat → Bool) (Pe : Nat → Hp → V → Prop) (pm : ∀ i N N' v, Ex N N' → Pe i N v → Pe i N' v) (hi : EvI wi σ H G n Y) (eG : Ex G H) (hn : n ≤ 50000) (hg : ∀ i x H', i < n → Y i x H' → ∀ Q : L2.St → Hp → Prop, Q (S i) H' → g x (wipe σ vs) H' Q) (hw : ∀ i, i < n → wipe (S i) vs = wipe σ vs)
    (ht : ∀ i H1, Ex H H1 → i < n → EvT tt (S i) H1 (f i)) (he : ∀ i H1, Ex H H1 → i < n → f i = true → EvP te (S i) H1 (Pe i)) :
    EvP (tLc wi g tt te vs) σ H (fun N v => ∃ p xs, v = .ref p ∧ N p = some (.lst xs) ∧ Paired (fun i x => Pe i N x) (picks n f) xs) := fun H0 e Q q =>
  hi H0 e _ fun J H1 e1 d Dl hD => lc_drw d (fun i H' => ∃ N xs, Own [sing Dl (.lst xs), N, H1] H' ∧ Paired (fun i x => Pe i N x) (picks i f) xs ∧ xs.length ≤ i)
    ⟨emp, [], ⟨sing_ex upd_same, fun M hM a ha => by
      rcases List.mem_cons.mp hM with z | z
      · subst z; rfl
      · have z : M = H1 := by simpa using z
        subst z
        by_cases qa : a = Dl
        · subst qa; exact hD
        · exact absurd (sing_ne qa) ha, emp_ex, (fun _ _ a ha => absurd rfl ha), Ex.new hD, (fun _ h => nomatch h), trivial⟩, .nil, Nat.le_refl _⟩
    (fun i H' _ ⟨N, xs, o, _⟩ => ((eG.trans e).trans e1).trans o.e2) (fun i x H' H'' hlt ⟨N, xs, o, pr, hl⟩ e2 hy => hg i x H'' hlt hy _ ⟨hw i hlt, by
      have o2 := o.mono e2
      refine ht i H'' ((e.trans e1).trans o2.e2) hlt H'' (Ex.refl _) _ fun H3 e3 => ?_
      have o3 := o2.mono e3
      cases hf : f i with
      | true =>
        show te (S i) H3 _
        refine he i H3 ((e.trans e1).trans o3.e2) hlt hf H3 (Ex.refl _) _ fun y H4 N2 e4 i2 f2 py => ?_
        have o4 : Own [N2, sing Dl (.lst xs), N, H1] H4 := o3.add e4 i2 f2
        refine ⟨xs, o4.at (j := 1) rfl, sz_lt (by omega), uni N N2, xs ++ [y], ?_, ?_, ?_⟩
        · have o5 : Own [N2, sing Dl (.lst (xs ++ [y])), N, H1] (upd H4 Dl (.lst (xs ++ [y]))) := o4.set (j := 1) rfl
          have o6 : Own [sing Dl (.lst (xs ++ [y])), N2, N, H1] (upd H4 Dl (.lst (xs ++ [y]))) := o5.swap
          have o7 : Own [uni N N2, H1] (upd H4 Dl (.lst (xs ++ [y]))) := o6.tail.merge
          refine ⟨o6.1, fun M hM a ha => ?_, o7⟩
          rcases List.mem_cons.mp hM with z | z
          · subst z
            have d1 := o6.dj (i := 0) (j := 1) (by decide) rfl rfl
            have d2 := o6.dj (i := 0) (j := 2) (by decide) rfl rfl
            unfold uni
            rw [d1 a ha]
            exact d2 a ha
          · exact o6.2.1 M (List.mem_cons_of_mem _ (List.mem_cons_of_mem _ z)) a ha
        · rw [picks_yes hf]
          have dN : ∀ a, N2 a ≠ none → N a = none := o4.dj (i := 0) (j := 2) (by decide) rfl rfl
          exact paired_snoc (paired_imp (fun j z h => pm j _ _ _ (uni_l dN) h) pr) (pm i _ _ _ uni_r py)
        · rw [List.length_append, List.length_singleton]
          omega
      | false =>
        show ∃ N xs, _
        refine ⟨N, xs, o3, ?_, by omega⟩
        rw [picks_no hf]
        exact pr⟩) (fun H' ⟨N, xs, o, pr, _⟩ => q (.ref Dl) H' (uni N (sing Dl (.lst xs))) (e1.trans o.e2) (uni_ex o.e1 o.e0) (uni_fr (Fr.back e1 (o.dj (i := 1) (j := 2) (by decide) rfl rfl)) (sing_fr (fresh_back e1 hD))) ⟨Dl, xs, rfl, uni_r _ _ sing_at, paired_imp (fun j z h => pm j _ _ _ (uni_l (o.dj (i := 0) (j := 1) (by decide) rfl rfl)) h) pr⟩)
end
end Kj

/-! Kj4: data: items, kinds, depth; isinstance. -/
namespace Kj
open PySem PySem.Spec PyProof.Rows L2 Evl
section
variable {K : PySem.W.Frag} {H H' : Hp}
theorem dpa_len : ∀ {xs : List V} {ds : List PyData}, DpAll K H xs ds → xs.length = ds.length
  | _, _, .nil => rfl
  | _, _, .cons _ r => by rw [List.length_cons, List.length_cons, dpa_len r]
theorem dpa_get : ∀ {xs : List V} {ds : List PyData} {i : Nat} {x : V}, DpAll K H xs ds → xs[i]? = some x → ∃ d, ds[i]? = some d ∧ Dp K H x d
  | _, _, _, _, .nil, e => by simp at e
  | _, _, 0, _, .cons h _, e => by
    simp at e
    subst e
    exact ⟨_, rfl, h⟩
  | _, _, i + 1, _, .cons _ r, e => by
    obtain ⟨d, h1, h2⟩ := dpa_get (i := i) r (by simpa using e)
    exact ⟨d, by simpa using h1, h2⟩
theorem depthAll_get : ∀ {ds : List PyData} {i : Nat} {d : PyData}, ds[i]? = some d → d.depth ≤ PyData.depthAll ds
  | [], _, _, e => by simp at e
  | x :: r, 0, _, e => by
    simp at e
    subst e
    simp only [PyData.depthAll]
    omega
  | x :: r, i + 1, _, e => by
    have h := depthAll_get (ds := r) (i := i) (by simpa using e)
    simp only [PyData.depthAll]
    omega
/-- the kind of a datum -/
def kindS : PyData → String
  | .none => "NoneType"
  | .bool _ => "bool"
  | .int _ => "int"
  | .str _ => "str"
  | .list _ => "list"
  | .tuple _ => "tuple"
  | .dict _ => "dict"
theorem ty_sqL {a : Addr} {xs : List V} (h : SqL K H a xs) : TyX K H (.ref a) (.type "list") := by
  rcases h with (h | ⟨o, h⟩) | ⟨o, its, n, h1, h2, _⟩
  · exact .base (.lst h)
  · exact .base (.frz h)
  · exact .kList h1 h2
theorem ty_sqT {a : Addr} {xs : List V} (h : SqT K H a xs) : TyX K H (.ref a) (.type "tuple") := by
  rcases h with (h | ⟨o, h⟩) | ⟨o, its, n, h1, h2, _⟩
  · exact .base (.tup h)
  · exact .fTuple h
  · exact .kTuple h1 h2
theorem ty_dp {x : V} {d : PyData} (h : Dp K H x d) : TyX K H x (.type (kindS d)) := by
  cases h with
  | non => exact .base .non
  | bl b => exact .base (.bl b)
  | int i => exact .base (.int i)
  | str s => exact .base (.str s)
  | lst h _ => exact ty_sqL h
  | tup h _ => exact ty_sqT h
/-- isinstance(x, T) of a datum -/
theorem ev_isi {σ : L2.St} {te : TE} {x : V} {d : PyData} {n : String} {b : Bool} (h : Ev te σ H x) (hd : Dp K H x d) (hk : kitB (kindS d) n = some b) : Ev (tCB (rIsiU K) (tCons te (tCons (tC (.ty n)) tNil))) σ H (.bl b) := fun H1 e Q q =>
  h H1 e _ fun H2 e2 => .inl ⟨x, .ty n, .type (kindS d), .type n, b, rfl, .ty n, ty_dp (dp_mono (e.trans e2) hd), kit_ty hk, q H2 e2⟩
/-- isinstance(x, (T1, T2)) -/
theorem ev_isi2 {σ : L2.St} {te : TE} {x : V} {d : PyData} {n1 n2 : String} {b1 b2 : Bool} (h : Ev te σ H x) (hd : Dp K H x d) (hk1 : kitB (kindS d) n1 = some b1) (hk2 : kitB (kindS d) n2 = some b2) :
    Ev (tCB (rIsiU K) (tCons te (tCons (tTup (tCons (tC (.ty n1)) (tCons (tC (.ty n2)) tNil))) tNil))) σ H (.bl (b1 || b2)) := fun H1 e Q q =>
  h H1 e _ fun H2 e2 => ⟨by show 2 ≤ sizeLine; decide, fun p hp => .inr ⟨x, p, [.ty n1, .ty n2], .type (kindS d), [.type n1, .type n2], b1 || b2, rfl, upd_same, .cons (.ty n1) (.cons (.ty n2) .nil), ty_dp (dp_mono ((e.trans e2).trans (Ex.new hp)) hd), by
    refine kitAny_cons (kit_ty hk1) (fun h1 => kitAny_cons (kit_ty hk2) (fun h2 => ?_) (fun h2 => ?_)) (fun h1 => ?_)
    · rw [kitAny_nil, h1, h2]; rfl
    · rw [h2, Bool.or_true]
    · rw [h1, Bool.true_or], q _ (e2.trans (Ex.new hp))⟩⟩
end
mutual
/-- no list in it is too long -/
def smD : PyData → Prop
  | .list ds => ds.length ≤ 40000 ∧ smA ds
  | .tuple ds => ds.length ≤ 40000 ∧ smA ds
  | .none | .bool _ | .int _ | .str _ | .dict _ => True
def smA : List PyData → Prop
  | [] => True
  | d :: r => smD d ∧ smA r
end
theorem smA_all : ∀ {ds : List PyData}, smA ds ↔ ∀ d ∈ ds, smD d
  | [] => by simp [smA]
  | d :: r => by simp [smA, smA_all (ds := r)]
theorem smD_list {ds : List PyData} : smD (.list ds) ↔ ds.length ≤ 40000 ∧ ∀ d ∈ ds, smD d := by simp only [smD, smA_all]
theorem smD_tuple {ds : List PyData} : smD (.tuple ds) ↔ ds.length ≤ 40000 ∧ ∀ d ∈ ds, smD d := by simp only [smD, smA_all]
theorem all_true {α : Type} (l : List α) : (l.map fun _ => true).all id = true := by
  rw [List.all_eq_true]
  intro b hb
  obtain ⟨_, _, rfl⟩ := List.mem_map.mp hb
  rfl
theorem rc_all {K : PySem.W.Frag} {H : Hp} {p : Addr} {bs : List Bool} (h : SqL K H p (bs.map V.bl)) : RC (rAll K) [.ref p] H (.bl (bs.all id)) := fun H1 e _ q => ⟨p, bs, rfl, ex_l e h, q H1 (Ex.refl H1)⟩
theorem rc_any {K : PySem.W.Frag} {H : Hp} {p : Addr} {bs : List Bool} (h : SqL K H p (bs.map V.bl)) : RC (rAny K) [.ref p] H (.bl (bs.any id)) := fun H1 e _ q => ⟨p, bs, rfl, ex_l e h, q H1 (Ex.refl H1)⟩
theorem kit_tt : kitB "tuple" "tuple" = some true := by decide +kernel
theorem kit_ll : kitB "list" "list" = some true := by decide +kernel
theorem kit_ii : kitB "int" "int" = some true := by decide +kernel
theorem kit_ib : kitB "int" "bool" = some false := by decide +kernel
theorem kit_bb : kitB "bool" "bool" = some true := by decide +kernel
theorem kit_bi : kitB "bool" "int" = some true := by decide +kernel
theorem kit_ss : kitB "str" "str" = some true := by decide +kernel
theorem kit_lt : kitB "list" "tuple" = some false := by decide +kernel
theorem kit_tl : kitB "tuple" "list" = some false := by decide +kernel
end Kj

set_option Elab.async false
set_option linter.all false
set_option maxRecDepth 100000
set_option maxHeartbeats 2000000
namespace Kj
open PySem PySem.Spec PyProof.Rows L2 Evl
def topS (i : Nat) : Stmt := PySem.Challenge.pw_kimariji_k01_parts_reckoned.main.body.getD i (.Pass ⟨0, 0, 0, 0⟩)
local macro_rules | `(tactic| wtm_at "sq") => `(tactic| first
  | assumption
  | exact sq_of (by assumption)
  | exact st_of (by assumption)
  | exact sq_of (Own.at (j := 0) (by assumption) (by rfl))
  | exact sq_of (Own.at (j := 1) (by assumption) (by rfl))
  | exact sq_of (Own.at (j := 2) (by assumption) (by rfl))
  | exact sq_of (Own.at (j := 3) (by assumption) (by rfl))
  | exact st_of (Own.at (j := 0) (by assumption) (by rfl))
  | exact st_of (Own.at (j := 1) (by assumption) (by rfl))
  | exact st_of (Own.at (j := 2) (by assumption) (by rfl))
  | exact st_of (Own.at (j := 3) (by assumption) (by rfl))
  | exact ex_l (Own.e0 (by assumption)) (by assumption)
  | exact ex_l (Own.e1 (by assumption)) (by assumption)
  | exact ex_l (Own.e2 (by assumption)) (by assumption)
  | exact ex_l (Own.e3 (by assumption)) (by assumption)
  | exact ex_t (Own.e0 (by assumption)) (by assumption)
  | exact ex_t (Own.e1 (by assumption)) (by assumption)
  | exact ex_t (Own.e2 (by assumption)) (by assumption)
  | exact ex_t (Own.e3 (by assumption)) (by assumption)
  | exact dp_mono (Own.e0 (by assumption)) (by assumption)
  | exact dp_mono (Own.e1 (by assumption)) (by assumption)
  | exact dp_mono (Own.e2 (by assumption)) (by assumption)
  | exact dp_mono (Own.e3 (by assumption)) (by assumption)
  | exact dp_mono (Own.e4 (by assumption)) (by assumption))
local macro_rules | `(tactic| wtm_at "side") => `(tactic| first
  | assumption
  | exact cmul_small (by omega) (by omega)
  | (show (0 : Int) < _; first | decide | omega)
  | exact ⟨by decide, by decide⟩
  | exact ⟨by decide, by decide, by decide⟩
  | decide
  | omega)
local macro_rules | `(tactic| wtm_at "rv") => `(tactic| first
  | exact rv_addI
  | exact rv_I0
  | exact rv_eqI
  | exact rv_neI
  | exact rv_eqT
  | exact rv_neT
  | exact rv_isN
  | exact rv_isnN
  | exact rv_sign
  | exact rv_mulI (by wtm_at "side")
  | exact rv_I (by wtm_at "side")
  | exact rv_ixLs (by wtm_at "sq") (by first | assumption | rfl)
  | exact rv_ixTs (by wtm_at "sq") (by first | assumption | rfl)
  | exact rv_ixSs (by wtm_at "side") (by first | assumption | rfl)
  | exact rc_lenL (by wtm_at "sq")
  | exact rc_lenT (by wtm_at "sq")
  | exact rc_lenS (by wtm_at "side")
  | exact rc_abs
  | exact ru_neg
  | assumption)
local macro_rules | `(tactic| wtm_at "ev") => `(tactic| first
  | exact ev_var rfl
  | exact ev_c
  | exact ea_nil
  | exact eo_none
  | (apply eo_some; wtm_at "ev")
  | (apply ea_cons; wtm_at "ev"; wtm_at "ev")
  | (apply et_test; wtm_at "ev")
  | (apply et_B; wtm_at "ev")
  | (apply ev_op; wtm_at "ev"; wtm_at "ev"; wtm_at "rv")
  | (apply ev_un; wtm_at "ev"; wtm_at "rv")
  | (apply ev_cb; wtm_at "ev"; wtm_at "rv")
  | (apply ev_fld; wtm_at "ev"; wtm_at "obj"; wtm_at "obj"; wtm_at "obj"; wtm_at "obj")
  | (apply el_sl'; wtm_at "ev"; wtm_at "ev"; wtm_at "ev"; wtm_at "sq")
  | (apply el_lst; wtm_at "ev"; exact Nat.le_of_ble_eq_true rfl)
  | (apply eu_tup; wtm_at "ev"; exact Nat.le_of_ble_eq_true rfl)
  | (apply ep_l; wtm_at "ev")
  | (apply ep_u; wtm_at "ev")
  | (apply ev_callO; wtm_at "ev"; wtm_at "call")
  | (apply ep_call; wtm_at "ev"; wtm_at "call")
  | (apply ep_v; wtm_at "ev"))
local macro_rules | `(tactic| wtm_at "call") => `(tactic| assumption)
local macro_rules | `(tactic| wtm_at "obj") => `(tactic| first | assumption | rfl)
abbrev s_measure : Stmt := topS 4
theorem sc_measure : FnScope ["one", "other"] ["one", "other"] (defScope s_measure) := ⟨rfl, rfl, rfl, by decide +kernel, rfl, by decide +kernel, by decide +kernel⟩
abbrev s_part : Stmt := topS 5
theorem sc_part : FnScope ["top", "bottom", "by"] ["top", "bottom"] (defScope s_part) := ⟨rfl, rfl, rfl, by decide +kernel, rfl, by decide +kernel, by decide +kernel⟩
section
variable {P : Program} {w : World} {K : PySem.W.Frag} {mg : Str → Option Value} {base : Heap}
def R_measure : Rl := ⟨fun vs _ r => ∃ a b : Int, vs = [.int a, .int b] ∧ r = .ok (is (.int (Int.gcd a b : Int))), fun _ h => h⟩
theorem gcd_turn (x y : Nat) : Nat.gcd y (x % y) = Nat.gcd x y := by rw [Nat.gcd_comm x y, Nat.gcd_rec y x, Nat.gcd_comm]
theorem ok_measure (B : Bt mg) (D : Df K mg "measure" s_measure ["one", "other"]) : Ok P w K mg base 1 "measure" ["one", "other"] (R_measure.sp mg) := by
  refine D.ok sc_measure (fun vs H Q E h => ?_) (fun f cdv A outer s H vs Q E hr h => ?_)
  · obtain ⟨r, ⟨a, b, rfl, _⟩, _⟩ := h
    rfl
  · obtain ⟨r, ⟨a, b, rfl, rfl⟩, k⟩ := h
    refine ⟨_, (pss_cons (ps_set (i := 0) sc_measure.nd rfl (.inl rfl) (pe_callB call_abs (by rfl) B.abs boot_b_abs (pa_cons (pv 0) pa_nil)))
      (pss_cons (ps_set (i := 1) sc_measure.nd rfl (.inl rfl) (pe_callB call_abs (by rfl) B.abs boot_b_abs (pa_cons (pv 1) pa_nil)))
      (pss_cons (ps_while (passes_of rfl) (pt_cmpR (op_neK K (hu65 hr)) (pv 1) pe_int (nomark _))
        (pss_one (ps_par (i := 0) (j := 1) rfl sc_measure.nd rfl rfl (by decide) rfl rfl (pa_cons (pv 1) (pa_cons (pe_op op_mod (pv 0) (pv 1)) pa_nil)) (by rfl))))
      (pss_one (ps_ret (pv 0)))))), ?_⟩
    refine q_v (Own.one H) (ev_cb (ea_cons (ev_var rfl) ea_nil) rc_abs) fun H1 o => ?_
    refine q_v o (ev_cb (ea_cons (ev_var rfl) ea_nil) rc_abs) fun H1 o => ?_
    refine q_wl (fun m σ H' => ∃ x y : Nat, σ = [some (.int x), some (.int y)] ∧ Own [H] H' ∧ Nat.gcd x y = Int.gcd a b ∧ m = y) b.natAbs ⟨_, _, rfl, o, rfl, rfl⟩ ?_
    rintro m σ H' ⟨x, y, rfl, o, hg, hm⟩
    refine ⟨_, et_test (ev_op (ev_var rfl) ev_c rv_neI), fun hb H1 e => ?_, fun hb H1 e => ?_⟩
    · have hy : ¬ (y : Int) = 0 := by simpa using hb
      refine s_par (ea_cons (ev_var rfl) (ea_cons (ev_op (ev_var rfl) (ev_var rfl) (rv_I (show (0 : Int) < (y : Int) by omega))) ea_nil)) fun H2 e2 => ?_
      exact ⟨x % y, by rw [hm]; exact Nat.mod_lt _ (by omega), y, x % y, rfl, (o.mono e).mono e2, by rw [gcd_turn]; exact hg, rfl⟩
    · have hy : (y : Int) = 0 := by simpa using hb
      have hy : y = 0 := by omega
      subst hy
      refine s_rv (o.mono e) (ev_var rfl) fun H2 o => o.retV k (j := 0) rfl ?_
      rw [← hg, Nat.gcd_zero_right]
/-- a part: lowest terms, the bottom above nought -/
def byOf (t b : Int) : Int := if b < 0 then -(Int.gcd t b : Int) else (Int.gcd t b : Int)
def partM (t b : Int) : Int × Int := (t.fdiv (byOf t b), b.fdiv (byOf t b))
abbrev pPart (p : Int × Int) : Hp → V → Prop := pTup [.int p.1, .int p.2]
def partR (t b : Int) : Res := if b = 0 then .err "NoPart" [] else .ok (pPart (partM t b))
theorem byOf_ne {t b : Int} (hb : b ≠ 0) : byOf t b ≠ 0 := by
  have h := Int.gcd_pos_of_ne_zero_right t hb
  unfold byOf
  split <;> omega
theorem byOf_le {t b : Int} (hb : b ≠ 0) : (byOf t b).natAbs ≤ b.natAbs := by
  have h : Int.gcd t b ≤ b.natAbs := Nat.le_of_dvd (by omega) (Nat.gcd_dvd_right _ _)
  unfold byOf
  split <;> omega
def Bd (n : Nat) (i : Int) : Prop := i.natAbs < 2 ^ n
theorem Bd.div {t b : Int} {n : Nat} (hb : b ≠ 0) (h : Bd n b) (hn : 0 < n ∧ n ≤ 9000) (i : Int) : CDivZ i (byOf t b) :=
  ⟨byOf_ne hb, Nat.lt_of_lt_of_le (PySem.Flt.log2_lt_of hn.1 (Nat.lt_of_le_of_lt (byOf_le hb) h)) hn.2⟩
def R_part : Rl := ⟨fun vs _ r => ∃ t b : Int, vs = [.int t, .int b] ∧ Bd 9000 b ∧ r = partR t b, fun _ h => h⟩
theorem ok_part (B : Bt mg) {C_NoPart : Addr} (X_NoPart : Xc K mg "NoPart" C_NoPart) (O_measure : Ok P w K mg base 1 "measure" ["one", "other"] (R_measure.sp mg)) (D : Df K mg "part" s_part ["top", "bottom"]) : Ok P w K mg base 2 "part" ["top", "bottom"] (R_part.sp mg) := by
  refine D.ok sc_part (fun vs H Q E h => ?_) (fun f cdv A outer s H vs Q E hr h => ?_)
  · obtain ⟨r, ⟨a, b, rfl, _⟩, _⟩ := h
    rfl
  · obtain ⟨r, ⟨t, b, rfl, hB, rfl⟩, k⟩ := h
    refine ⟨_, (pss_cons (ps_if (pt_cmpR (op_eqK K (hu65 hr)) (pv 1) pe_int (nomark _))
        (pss_one (ps_raise rfl (takes_of rfl rfl rfl rfl) (pmk_ex X_NoPart (by rfl))))
        pss_nil)
      (pss_cons (ps_set (i := 2) sc_part.nd rfl (.inl rfl) (pe_callO O_measure (hr.mono (by omega)) (by rfl) (takes_of rfl rfl rfl rfl) (pa_cons (pv 0) (pa_cons (pv 1) pa_nil))))
      (pss_cons (ps_if (pt_cmpR op_lt (pv 1) pe_int (nomark _))
        (pss_one (ps_set (i := 2) sc_part.nd rfl (.inl rfl) (pe_un un_neg (pv 2))))
        pss_nil)
      (pss_one (ps_ret (pe_tup (pa_cons (pe_op op_fdivZ (pv 0) (pv 2)) (pa_cons (pe_op op_fdivZ (pv 1) (pv 2)) pa_nil)))))))), ?_⟩
    refine q_wh (Own.one H) (et_test (ev_op (ev_var rfl) ev_c rv_eqI)) (fun hb H1 o => ?_) (fun hb H1 o => ?_)
    · have hb : b = 0 := by simpa using hb
      unfold partR at k
      rw [if_pos hb] at k
      exact k H1 C_NoPart none (o.ix (i := 0) rfl) X_NoPart.g (.inl ⟨rfl, rfl⟩)
    · have hb : b ≠ 0 := by simpa using hb
      unfold partR at k
      rw [if_neg hb] at k
      refine q_v o (ev_callO (ea_cons (ev_var rfl) (ea_cons (ev_var rfl) ea_nil)) ⟨t, b, rfl, rfl⟩) fun H1 o => ?_
      refine q_wh o (et_test (ev_op (ev_var rfl) ev_c rv_I0)) (fun h0 H1 o => ?_) (fun h0 H1 o => ?_)
      · have e : byOf t b = -(Int.gcd t b : Int) := if_pos (of_decide_eq_true h0)
        refine s_v o (ev_un (ev_var rfl) ru_neg) fun H1 o => ?_
        refine s_rn o (ep_tup (ea_cons (ev_op (ev_var rfl) (ev_var rfl) (rv_I ?_)) (ea_cons (ev_op (ev_var rfl) (ev_var rfl) (rv_I ?_)) ea_nil))) fun v H1 N o p => o.ret k (i := 0) (j := 1) rfl rfl ?_
        · rw [← e]; exact hB.div hb (by decide) _
        · rw [← e]; exact hB.div hb (by decide) _
        · unfold partM; rw [e]; exact p
      · have e : byOf t b = (Int.gcd t b : Int) := if_neg (of_decide_eq_false h0)
        refine s_rn o (ep_tup (ea_cons (ev_op (ev_var rfl) (ev_var rfl) (rv_I ?_)) (ea_cons (ev_op (ev_var rfl) (ev_var rfl) (rv_I ?_)) ea_nil))) fun v H1 N o p => o.ret k (i := 0) (j := 1) rfl rfl ?_
        · rw [← e]; exact hB.div hb (by decide) _
        · rw [← e]; exact hB.div hb (by decide) _
        · unfold partM; rw [e]; exact p
/-- two pairs of ints as arguments -/
def Pr2 (K : PySem.W.Frag) (vs : List V) (H : Hp) (a b c d : Int) : Prop := ∃ p q, vs = [.ref p, .ref q] ∧ SqT K H p [.int a, .int b] ∧ SqT K H q [.int c, .int d]
theorem Pr2.mono {vs : List V} {H H' : Hp} {a b c d : Int} (e : Ex H H') (h : Pr2 K vs H a b c d) : Pr2 K vs H' a b c d := by
  obtain ⟨p, q, h1, h2, h3⟩ := h
  exact ⟨p, q, h1, ex_t e h2, ex_t e h3⟩
def Small4 (a b c d : Int) : Prop := Bd 2000 a ∧ Bd 2000 b ∧ Bd 2000 c ∧ Bd 2000 d
theorem Bd.mul {i j : Int} (hi : Bd 2000 i) (hj : Bd 2000 j) : CMulW i j := wide_mul hi hj (by decide) (by decide) (by decide)
theorem Bd.mul9 {i j : Int} (hi : Bd 2000 i) (hj : Bd 2000 j) : Bd 9000 (i * j) := Nat.lt_of_lt_of_le (wide_lt hi hj) (Nat.pow_le_pow_right (by decide) (by decide))
def plusR (a b c d : Int) : Res := partR (a * d + c * b) (b * d)
def minusR (a b c d : Int) : Res := partR (a * d - c * b) (b * d)
def R_plus (K : PySem.W.Frag) : Rl := ⟨fun vs H r => ∃ a b c d, Pr2 K vs H a b c d ∧ Small4 a b c d ∧ r = plusR a b c d, fun e ⟨a, b, c, d, h, h2⟩ => ⟨a, b, c, d, h.mono e, h2⟩⟩
def R_minus (K : PySem.W.Frag) : Rl := ⟨fun vs H r => ∃ a b c d, Pr2 K vs H a b c d ∧ Small4 a b c d ∧ r = minusR a b c d, fun e ⟨a, b, c, d, h, h2⟩ => ⟨a, b, c, d, h.mono e, h2⟩⟩
theorem Out.call {S : Rl} {W : WX} {σ : L2.St} {tr : TA} {G H : Hp} {Ns : List Hp} {vs : List V} {r : Res} {Q : VK} {E : XK} {D : Ends} {j : Nat} (o : Own Ns H) (hj : Ns[j]? = some G) (k : Out mg r G Q E) (ha : EvA tr σ H vs) (hR : S.R vs H r) (hQ : ∀ v H, Q v H → D.rt v H) (hE : ∀ c d H, E c d H → W c d σ H) : tRet (tCallS (S.sp mg) (WE W) tr) D σ H := by
  cases r with
  | ok P => exact ha H (Ex.refl H) _ fun H1 e => ⟨.ok P, S.mono e hR, fun v H' N e1 e2 f p => hQ _ _ (k v H' N ((o.ix hj).trans (e.trans e1)) e2 (f.back ((o.ix hj).trans e)) p)⟩
  | err x fs => exact ha H (Ex.refl H) _ fun H1 e => ⟨.err x fs, S.mono e hR, fun H' C d e1 g c => hE _ _ _ ((k.fwd ((o.ix hj).trans e)) H' C d e1 g c)⟩
abbrev s_plus : Stmt := topS 6
theorem sc_plus : FnScope ["one", "other"] ["one", "other"] (defScope s_plus) := ⟨rfl, rfl, rfl, by decide +kernel, rfl, by decide +kernel, by decide +kernel⟩
abbrev s_minus : Stmt := topS 7
theorem sc_minus : FnScope ["one", "other"] ["one", "other"] (defScope s_minus) := ⟨rfl, rfl, rfl, by decide +kernel, rfl, by decide +kernel, by decide +kernel⟩
abbrev s_less : Stmt := topS 8
theorem sc_less : FnScope ["one", "other"] ["one", "other"] (defScope s_less) := ⟨rfl, rfl, rfl, by decide +kernel, rfl, by decide +kernel, by decide +kernel⟩
theorem ok_plus (B : Bt mg) (O_part : Ok P w K mg base 2 "part" ["top", "bottom"] (R_part.sp mg)) (D : Df K mg "plus" s_plus ["one", "other"]) : Ok P w K mg base 3 "plus" ["one", "other"] ((R_plus K).sp mg) := by
  refine D.ok sc_plus (fun vs H Q E h => ?_) (fun f cdv A outer s H vs Q E hr h => ?_)
  · obtain ⟨r, ⟨a, b, c, d, ⟨p, q, rfl, _⟩, _⟩, _⟩ := h
    rfl
  · obtain ⟨r, ⟨a, b, c, d, ⟨p, q, rfl, h1, h2⟩, ⟨ba, bb, bc, bd⟩, rfl⟩, k⟩ := h
    refine ⟨_, (pss_one (ps_ret (pe_callO O_part (hr.mono (by omega)) (by rfl) (takes_of rfl rfl rfl rfl) (pa_cons (pe_op (op_addK K) (pe_op op_mulU (pe_ix (ix_seqK K) (pv 0) pe_int (fun _ _ => rfl)) (pe_ix (ix_seqK K) (pv 1) pe_int (fun _ _ => rfl))) (pe_op op_mulU (pe_ix (ix_seqK K) (pv 1) pe_int (fun _ _ => rfl)) (pe_ix (ix_seqK K) (pv 0) pe_int (fun _ _ => rfl)))) (pa_cons (pe_op op_mulU (pe_ix (ix_seqK K) (pv 0) pe_int (fun _ _ => rfl)) (pe_ix (ix_seqK K) (pv 1) pe_int (fun _ _ => rfl))) pa_nil))))), ?_⟩
    exact Out.call (j := 0) (Own.one H) rfl k (ea_cons (ev_op (ev_op (ev_op (ev_var rfl) ev_c (rv_ixTs h1 rfl)) (ev_op (ev_var rfl) ev_c (rv_ixTs h2 rfl)) (rv_mulI (ba.mul bd))) (ev_op (ev_op (ev_var rfl) ev_c (rv_ixTs h2 rfl)) (ev_op (ev_var rfl) ev_c (rv_ixTs h1 rfl)) (rv_mulI (bc.mul bb))) rv_addI)
      (ea_cons (ev_op (ev_op (ev_var rfl) ev_c (rv_ixTs h1 rfl)) (ev_op (ev_var rfl) ev_c (rv_ixTs h2 rfl)) (rv_mulI (bb.mul bd))) ea_nil)) ⟨_, _, rfl, bb.mul9 bd, rfl⟩ (fun _ _ h => h) (fun _ _ _ h => h)
theorem ok_minus (B : Bt mg) (O_part : Ok P w K mg base 2 "part" ["top", "bottom"] (R_part.sp mg)) (D : Df K mg "minus" s_minus ["one", "other"]) : Ok P w K mg base 3 "minus" ["one", "other"] ((R_minus K).sp mg) := by
  refine D.ok sc_minus (fun vs H Q E h => ?_) (fun f cdv A outer s H vs Q E hr h => ?_)
  · obtain ⟨r, ⟨a, b, c, d, ⟨p, q, rfl, _⟩, _⟩, _⟩ := h
    rfl
  · obtain ⟨r, ⟨a, b, c, d, ⟨p, q, rfl, h1, h2⟩, ⟨ba, bb, bc, bd⟩, rfl⟩, k⟩ := h
    refine ⟨_, (pss_one (ps_ret (pe_callO O_part (hr.mono (by omega)) (by rfl) (takes_of rfl rfl rfl rfl) (pa_cons (pe_op op_sub (pe_op op_mulU (pe_ix (ix_seqK K) (pv 0) pe_int (fun _ _ => rfl)) (pe_ix (ix_seqK K) (pv 1) pe_int (fun _ _ => rfl))) (pe_op op_mulU (pe_ix (ix_seqK K) (pv 1) pe_int (fun _ _ => rfl)) (pe_ix (ix_seqK K) (pv 0) pe_int (fun _ _ => rfl)))) (pa_cons (pe_op op_mulU (pe_ix (ix_seqK K) (pv 0) pe_int (fun _ _ => rfl)) (pe_ix (ix_seqK K) (pv 1) pe_int (fun _ _ => rfl))) pa_nil))))), ?_⟩
    exact Out.call (j := 0) (Own.one H) rfl k (ea_cons (ev_op (ev_op (ev_op (ev_var rfl) ev_c (rv_ixTs h1 rfl)) (ev_op (ev_var rfl) ev_c (rv_ixTs h2 rfl)) (rv_mulI (ba.mul bd))) (ev_op (ev_op (ev_var rfl) ev_c (rv_ixTs h2 rfl)) (ev_op (ev_var rfl) ev_c (rv_ixTs h1 rfl)) (rv_mulI (bc.mul bb))) rv_I0)
      (ea_cons (ev_op (ev_op (ev_var rfl) ev_c (rv_ixTs h1 rfl)) (ev_op (ev_var rfl) ev_c (rv_ixTs h2 rfl)) (rv_mulI (bb.mul bd))) ea_nil)) ⟨_, _, rfl, bb.mul9 bd, rfl⟩ (fun _ _ h => h) (fun _ _ _ h => h)
def lessR (a b c d : Int) : Res := if b * d = 0 then .err "NoPart" [] else .ok (is (.bl (decide ((partM (a * d - c * b) (b * d)).1 < 0))))
def R_less (K : PySem.W.Frag) : Rl := ⟨fun vs H r => ∃ a b c d, Pr2 K vs H a b c d ∧ Small4 a b c d ∧ r = lessR a b c d, fun e ⟨a, b, c, d, h, h2⟩ => ⟨a, b, c, d, h.mono e, h2⟩⟩
theorem ok_less (B : Bt mg) (O_minus : Ok P w K mg base 3 "minus" ["one", "other"] ((R_minus K).sp mg)) (D : Df K mg "less" s_less ["one", "other"]) : Ok P w K mg base 4 "less" ["one", "other"] ((R_less K).sp mg) := by
  refine D.ok sc_less (fun vs H Q E h => ?_) (fun f cdv A outer s H vs Q E hr h => ?_)
  · obtain ⟨r, ⟨a, b, c, d, ⟨p, q, rfl, _⟩, _⟩, _⟩ := h
    rfl
  · obtain ⟨r, ⟨a, b, c, d, ⟨p, q, rfl, h1, h2⟩, hs, rfl⟩, k⟩ := h
    refine ⟨_, (pss_one (ps_ret (pe_cmpR op_lt (pe_ix (ix_seqK K) (pe_callO O_minus (hr.mono (by omega)) (by rfl) (takes_of rfl rfl rfl rfl) (pa_cons (pv 0) (pa_cons (pv 1) pa_nil))) pe_int (fun _ _ => rfl)) pe_int (nomark _)))), ?_⟩
    unfold lessR at k
    by_cases h0 : b * d = 0
    · rw [if_pos h0] at k
      exact s_rer (er_op1 (er_op1 (er_call (ea_cons (ev_var rfl) (ea_cons (ev_var rfl) ea_nil)) ⟨a, b, c, d, ⟨p, q, rfl, h1, h2⟩, hs, by unfold minusR partR; rw [if_pos h0]⟩))) k
    · rw [if_neg h0] at k
      refine s_rv (Own.one H) (ev_op (ev_op1 (ep_call (ea_cons (ev_var rfl) (ea_cons (ev_var rfl) ea_nil)) ⟨a, b, c, d, ⟨p, q, rfl, h1, h2⟩, hs, by unfold minusR partR; rw [if_neg h0]⟩) ev_c ?_) ev_c rv_I0) fun H1 o => o.retV k (j := 0) rfl rfl
      rintro v N H1 e i1 ⟨t, rfl, ht⟩
      exact rv_ixTs (st_of (i1 _ _ ht)) rfl
end
section
theorem byOf_abs (x y : Int) : (byOf x y).natAbs = Int.gcd x y := by
  unfold byOf
  split <;> omega
theorem byOf_dvd1 (x y : Int) : byOf x y ∣ x := by
  rw [← Int.natAbs_dvd_natAbs, byOf_abs]
  exact Nat.gcd_dvd_left _ _
theorem byOf_dvd2 (x y : Int) : byOf x y ∣ y := by
  rw [← Int.natAbs_dvd_natAbs, byOf_abs]
  exact Nat.gcd_dvd_right _ _
theorem partM_1 (x y : Int) : byOf x y * (partM x y).1 = x := by
  show byOf x y * x.fdiv (byOf x y) = x
  rw [Int.fdiv_eq_ediv_of_dvd (byOf_dvd1 x y)]
  exact Int.mul_ediv_cancel' (byOf_dvd1 x y)
theorem partM_2 (x y : Int) : byOf x y * (partM x y).2 = y := by
  show byOf x y * y.fdiv (byOf x y) = y
  rw [Int.fdiv_eq_ediv_of_dvd (byOf_dvd2 x y)]
  exact Int.mul_ediv_cancel' (byOf_dvd2 x y)
theorem partM_pos {x y : Int} (hy : y ≠ 0) : 0 < (partM x y).2 := by
  have h := partM_2 x y
  have hg := byOf_ne (t := x) hy
  rcases Int.lt_or_gt_of_ne hy with h0 | h0
  · have g0 : byOf x y < 0 := by
      have e : byOf x y = -(Int.gcd x y : Int) := if_pos h0
      rw [e] at hg ⊢
      omega
    rw [← h] at h0
    exact Int.pos_of_mul_neg_right h0 g0
  · have g0 : 0 < byOf x y := by
      have e : byOf x y = (Int.gcd x y : Int) := if_neg (by omega)
      rw [e] at hg ⊢
      omega
    have h0 : 0 < y := h0
    rw [← h, Int.mul_comm] at h0
    exact Int.pos_of_mul_pos_left h0 g0
theorem partM_cross (x y : Int) : (partM x y).1 * y = x * (partM x y).2 := by
  have h1 := partM_1 x y
  have h2 := partM_2 x y
  generalize (partM x y).1 = t at *
  generalize (partM x y).2 = b at *
  generalize byOf x y = g at *
  rw [← h1, ← h2]
  simp only [Int.mul_assoc, Int.mul_comm, Int.mul_left_comm]
theorem partM_gcd {x y : Int} (hy : y ≠ 0) : Int.gcd (partM x y).1 (partM x y).2 = 1 := by
  have h1 := partM_1 x y
  have h2 := partM_2 x y
  have hp := Int.gcd_pos_of_ne_zero_right x hy
  have e1 : (partM x y).1.natAbs = x.natAbs / Int.gcd x y := by
    have z : x.natAbs = Int.gcd x y * (partM x y).1.natAbs := by
      conv => lhs; rw [← h1]
      rw [Int.natAbs_mul, byOf_abs]
    rw [z, Nat.mul_div_cancel_left _ hp]
  have e2 : (partM x y).2.natAbs = y.natAbs / Int.gcd x y := by
    have z : y.natAbs = Int.gcd x y * (partM x y).2.natAbs := by
      conv => lhs; rw [← h2]
      rw [Int.natAbs_mul, byOf_abs]
    rw [z, Nat.mul_div_cancel_left _ hp]
  show Nat.gcd _ _ = 1
  rw [e1, e2]
  exact Nat.coprime_div_gcd_div_gcd hp
theorem mul_bd {g t x : Int} (h : g * t = x) (hg : g ≠ 0) : t.natAbs ≤ x.natAbs := by
  rw [← h, Int.natAbs_mul]
  exact Nat.le_mul_of_pos_left _ (by omega)
theorem partM_bd1 {x y : Int} (hy : y ≠ 0) : (partM x y).1.natAbs ≤ x.natAbs := mul_bd (partM_1 x y) (byOf_ne hy)
theorem partM_bd2 {x y : Int} (hy : y ≠ 0) : (partM x y).2.natAbs ≤ y.natAbs := mul_bd (partM_2 x y) (byOf_ne hy)
theorem partM_zero {y : Int} (hy : y ≠ 0) : partM 0 y = (0, 1) := by
  have h1 := partM_1 0 y
  have h2 := partM_gcd (x := 0) hy
  have h3 := partM_pos (x := 0) hy
  have hg := byOf_ne (t := 0) hy
  have e1 : (partM 0 y).1 = 0 := (Int.mul_eq_zero.mp h1).resolve_left hg
  have e2 : (partM 0 y).2 = 1 := by
    rw [e1] at h2
    have z : (partM 0 y).2.natAbs = 1 := by simpa [Int.gcd] using h2
    omega
  exact Prod.ext e1 e2
theorem partM_sign {x y : Int} (hy : y ≠ 0) : decide ((partM x y).1 < 0) = decide (x * y < 0) := by
  have hc := partM_cross x y
  have hp := partM_pos (x := x) hy
  have h1 := partM_1 x y
  have h2 := partM_2 x y
  have e : x * y = (byOf x y * byOf x y) * ((partM x y).2 * (partM x y).1) := by
    rw [show x * y = (byOf x y * (partM x y).1) * (byOf x y * (partM x y).2) by rw [h1, h2]]
    simp only [Int.mul_assoc, Int.mul_comm, Int.mul_left_comm]
  have hgg : 0 < byOf x y * byOf x y := by
    have hg := byOf_ne (t := x) hy
    rcases Int.lt_or_gt_of_ne hg with h0 | h0
    · exact Int.mul_pos_of_neg_of_neg h0 h0
    · exact Int.mul_pos h0 h0
  rw [e]
  generalize (partM x y).1 = t at *
  generalize (partM x y).2 = b at *
  generalize byOf x y * byOf x y = g at *
  by_cases ht : t < 0
  · rw [decide_eq_true ht, decide_eq_true]
    exact Int.mul_neg_of_pos_of_neg hgg (Int.mul_neg_of_pos_of_neg hp ht)
  · rw [decide_eq_false ht, decide_eq_false]
    intro z
    have z2 := Int.mul_nonneg (Int.le_of_lt hgg) (Int.mul_nonneg (Int.le_of_lt hp) (show 0 ≤ t by omega))
    omega
end
abbrev s__law_numbers : Stmt := topS 10
theorem sc__law_numbers : FnScope ["_law_script", "_law_many", "_law_row", "_law_seed", "_law_cell", "_law_rest", "_law_k"] ["_law_script", "_law_many"] (defScope s__law_numbers) := ⟨rfl, rfl, rfl, by decide +kernel, rfl, by decide +kernel, by decide +kernel⟩
section
variable {P : Program} {w : World} {K : PySem.W.Frag} {mg : Str → Option Value} {base : Heap}
/-- the law's numbers: so many, each from 0 to 9966 -/
def Nums (n : Nat) (ns : List Int) : Prop := ns.length = n ∧ ∀ x ∈ ns, 0 ≤ x ∧ x < 9967
abbrev pNums (n : Nat) : Hp → V → Prop := fun N v => ∃ (p : Addr) (ns : List Int), v = .ref p ∧ N p = some (.lst (ns.map V.int)) ∧ Nums n ns
def R__law_numbers (K : PySem.W.Frag) : Rl := ⟨fun vs H r => ∃ (a : Addr) (ns : List Int) (m : Int), vs = [.ref a, .int m] ∧ SqL K H a (ns.map V.int) ∧ 0 ≤ m ∧ m ≤ 5000 ∧ r = .ok (pNums m.toNat), fun e ⟨a, ns, m, h1, h2, h3⟩ => ⟨a, ns, m, h1, ex_l e h2, h3⟩⟩
/-- the row so far -/
structure Row (n : Nat) (ns : List Int) : Prop where
  len : ns.length ≤ n
  all : ∀ x ∈ ns, 0 ≤ x ∧ x < 9967
theorem Row.add {n : Nat} {ns : List Int} {x : Int} (h : Row n ns) (hx : 0 ≤ x ∧ x < 9967) : Row (n + 1) (ns ++ [x]) :=
  ⟨by rw [List.length_append, List.length_singleton]; have := h.len; omega, fun y hy => by
    rcases List.mem_append.mp hy with h1 | h1
    · exact h.all y h1
    · rw [List.mem_singleton.mp h1]; exact hx⟩
theorem Row.mono {n m : Nat} {ns : List Int} (h : Row n ns) (l : n ≤ m) : Row m ns := ⟨Nat.le_trans h.len l, h.all⟩
theorem mapI_add (ns : List Int) (x : Int) : ns.map V.int ++ [V.int x] = (ns ++ [x]).map V.int := by rw [List.map_append]; rfl
theorem ok__law_numbers (B : Bt mg) (D : Df K mg "_law_numbers" s__law_numbers ["_law_script", "_law_many"]) : Ok P w K mg base 1 "_law_numbers" ["_law_script", "_law_many"] ((R__law_numbers K).sp mg) := by
  refine D.ok sc__law_numbers (fun vs H Q E h => ?_) (fun f cdv A outer s H vs Q E hr h => ?_)
  · obtain ⟨r, ⟨a, ns, m, rfl, _⟩, _⟩ := h
    rfl
  · obtain ⟨r, ⟨a, ns, m, rfl, hS, h0, hm, rfl⟩, k⟩ := h
    refine ⟨_, (pss_cons (ps_set (i := 2) sc__law_numbers.nd rfl (.inl rfl) (pe_lst pa_nil))
      (pss_cons (ps_set (i := 3) sc__law_numbers.nd rfl (.inl rfl) pe_int)
      (pss_cons (ps_for (passes_of rfl) rfl (pi_listK K (pe_slice (sl_K K) (pv 0) po_none (po_some pe_int))) (pg_name (i := 4) sc__law_numbers.nd rfl (.inl rfl))
        (pss_cons (ps_set (i := 3) sc__law_numbers.nd rfl (.inl rfl) (pe_op op_mod (pe_op (op_addK K) (pe_op (op_addK K) (pe_op op_mulU (pv 3) pe_int) (pe_op op_mod (pv 4) pe_int)) pe_int) pe_int))
        (pss_cons (ps_set (i := 5) sc__law_numbers.nd rfl (.inl rfl) (pe_op op_sub (pv 4) (pe_op op_pow pe_int pe_int)))
        (Evl.pss_cut (ps_if (pt_cmpR op_lt (pv 5) pe_int (nomark _))
          (pss_one (ps_expr (pe_bmK K PySem.F.plainAttrs_list PySem.F.slot_list_append PySem.F.type_list_append mt_append (pv 2) (pa_cons (pe_op op_mod (pv 4) pe_int) pa_nil))))
          pss_nil)
        (pss_one (ps_for (passes_of rfl) rfl (pi_range1 (by rfl) B.range (pa_cons pe_int pa_nil)) (pg_name (i := 6) sc__law_numbers.nd rfl (.inl rfl))
          (pss_one (ps_if (pt_cmpR op_gt (pv 5) pe_int (nomark _))
            (pss_cons (ps_expr (pe_bmK K PySem.F.plainAttrs_list PySem.F.slot_list_append PySem.F.type_list_append mt_append (pv 2) (pa_cons (pe_op op_mod (pv 5) pe_int) pa_nil)))
            (pss_one (ps_set (i := 5) sc__law_numbers.nd rfl (.inl rfl) (pe_op op_fdivZ (pv 5) pe_int))))
            pss_nil))))))))
      (pss_cons (ps_while (passes_of rfl) (pt_cmpR op_lt (pe_callB (call_lenK K) (by rfl) B.len boot_b_len (pa_cons (pv 2) pa_nil)) (pv 1) (nomark _))
        (pss_cons (ps_set (i := 3) sc__law_numbers.nd rfl (.inl rfl) (pe_op op_mod (pe_op (op_addK K) (pe_op (op_addK K) (pe_op (op_addK K) (pe_op op_mulU (pv 3) (pv 3)) (pe_op op_mulU pe_int (pv 3))) (pe_op op_mulU pe_int (pe_callB (call_lenK K) (by rfl) B.len boot_b_len (pa_cons (pv 2) pa_nil)))) pe_int) pe_int))
        (pss_one (ps_expr (pe_bmK K PySem.F.plainAttrs_list PySem.F.slot_list_append PySem.F.type_list_append mt_append (pv 2) (pa_cons (pe_op op_mod (pe_op op_fdivZ (pv 3) pe_int) pe_int) pa_nil))))))
      (pss_one (ps_ret (pe_slice (sl_K K) (pv 2) po_none (po_some (pv 1))))))))), ?_⟩
    refine q_l (Own.one H) (by wtm_at "ev") fun l H1 o => ?_
    refine q_v o (by wtm_at "ev") fun H1 o => ?_
    refine q_fn o (by wtm_at "ev") (fun i p σ H' => ∃ xs seed y4 y5 y6, σ = [some (.ref a), some (.int m), some (.ref l), some (.int seed), y4, y5, y6] ∧ Own [sing p (.lst (cutV (ns.map V.int) none (some 63))), sing l (.lst (xs.map V.int)), H] H' ∧ Row (61 * i) xs ∧ 0 ≤ seed ∧ seed < 4294967296)
      (fun p H1 o => ⟨[], 41, _, _, _, rfl, o, ⟨Nat.zero_le _, fun _ h => nomatch h⟩, by decide, by decide⟩) (fun i p σ H' _ ⟨xs, seed, y4, y5, y6, _, o, _⟩ => o.at (j := 0) rfl) ?_ ?_
    · rintro i p x σ H' hx ⟨xs, seed, y4, y5, y6, rfl, o, hrow, hs1, hs2⟩
      have e63 : cutV (ns.map V.int) none (some 63) = (ns.map V.int).take 63 := cutV_take 63
      rw [e63] at hx
      have hi : i < 63 := by
        have := (List.getElem?_eq_some_iff.mp hx).1
        rw [List.length_take] at this
        omega
      obtain ⟨c, rfl⟩ : ∃ c, x = V.int c := by
        rw [List.getElem?_take, if_pos hi, List.getElem?_map] at hx
        cases e : ns[i]? with
        | none => rw [e] at hx; cases hx
        | some u => rw [e] at hx; exact ⟨u, (Option.some.inj hx).symm⟩
      have hl := hrow.len
      refine q_v o (by wtm_at "ev") fun H1 o => ?_
      refine q_v o (by wtm_at "ev") fun H1 o => ?_
      generalize hsd : ((seed * 40014 + c % 999983 + 17) % 2147483563) = seed'
      have hs1' : 0 ≤ seed' := by omega
      have hs2' : seed' < 4294967296 := by omega
      generalize (c - 10 ^ (18 : Int).toNat) = rest
      -- if rest < 0: row.append(cell % 9967)
      refine q_cut (M := fun σ H' => ∃ xs, σ = [some (.ref a), some (.int m), some (.ref l), some (.int seed'), some (.int c), some (.int rest), y6] ∧ Own [sing p (.lst (cutV (ns.map V.int) none (some 63))), sing l (.lst (xs.map V.int)), H] H' ∧ Row (61 * i + 1) xs) ?_ ?_
      · refine s_wh o (by wtm_at "ev") (fun hb H1 o => ?_) (fun hb H1 o => ?_)
        · refine s_app (j := 1) o rfl (by wtm_at "ev") (by wtm_at "ev") (by rw [List.length_map]; omega) fun H1 o => ?_
          rw [mapI_add] at o
          exact ⟨_, rfl, o, hrow.add (by omega)⟩
        · exact ⟨xs, rfl, o, hrow.mono (by omega)⟩
      · rintro σ H2 ⟨xs, rfl, o, hrow⟩
        refine s_rg o (by wtm_at "ev") (by decide) (fun j σ H' => ∃ xs rest y6, σ = [some (.ref a), some (.int m), some (.ref l), some (.int seed'), some (.int c), some (.int rest), y6] ∧ Own [sing p (.lst (cutV (ns.map V.int) none (some 63))), sing l (.lst (xs.map V.int)), H] H' ∧ Row (61 * i + 1 + j) xs)
          (fun H1 o => ⟨xs, rest, y6, rfl, o, hrow⟩) ?_ ?_
        · rintro j σ H' hj ⟨xs, rest, y6, rfl, o, hrow⟩
          have hl := hrow.len
          refine s_wh o (by wtm_at "ev") (fun hb H1 o => ?_) (fun hb H1 o => ?_)
          · refine q_app (j := 1) o rfl (by wtm_at "ev") (by wtm_at "ev") (by rw [List.length_map]; omega) fun H1 o => ?_
            rw [mapI_add] at o
            refine s_v o (by wtm_at "ev") fun H1 o => ?_
            exact ⟨_, _, _, rfl, o, hrow.add (by omega)⟩
          · exact ⟨xs, rest, _, rfl, o, hrow.mono (by omega)⟩
        · rintro σ H' ⟨xs, rest, y6, rfl, o, hrow⟩
          exact ⟨xs, seed', _, _, _, rfl, o, hrow.mono (by show 61 * i + 1 + 60 ≤ 61 * (i + 1); omega), hs1', hs2'⟩
    · rintro p σ H' ⟨xs, seed, y4, y5, y6, rfl, o, hrow, hs1, hs2⟩
      have hl : xs.length ≤ 3843 := by
        have h1 := hrow.len
        have h2 : (cutV (ns.map V.int) none (some 63)).length ≤ 63 := by
          rw [show cutV (ns.map V.int) none (some 63) = (ns.map V.int).take 63 from cutV_take 63, List.length_take]
          omega
        omega
      refine q_wl (fun q σ H' => ∃ xs seed, σ = [some (.ref a), some (.int m), some (.ref l), some (.int seed), y4, y5, y6] ∧ Own [sing p (.lst (cutV (ns.map V.int) none (some 63))), sing l (.lst (xs.map V.int)), H] H' ∧ Row 10000 xs ∧ 0 ≤ seed ∧ seed < 4294967296 ∧ q = 5000 - xs.length ∧ xs.length ≤ 5000) (5000 - xs.length) ⟨xs, seed, rfl, o, ⟨by omega, hrow.all⟩, hs1, hs2, rfl, by omega⟩ ?_
      rintro q σ H' ⟨xs, seed, rfl, o, hrow, hs1, hs2, hq, hl5⟩
      refine ⟨_, by wtm_at "ev", fun hb H1 e => ?_, fun hb H1 e => ?_⟩
      · have o := o.mono e
        have hb : ((xs.map V.int).length : Int) < m := of_decide_eq_true hb
        rw [List.length_map] at hb
        have hlm : (xs.map V.int).length = xs.length := List.length_map ..
        refine q_v o (by wtm_at "ev") fun H1 o => ?_
        have hs3 : 0 ≤ (seed * seed + 52774 * seed + 11 * (((xs.map V.int).length : Nat) : Int) + 3) % 2147483629 := Int.emod_nonneg _ (by decide)
        have hs4 : (seed * seed + 52774 * seed + 11 * (((xs.map V.int).length : Nat) : Int) + 3) % 2147483629 < 2147483629 := Int.emod_lt_of_pos _ (by decide)
        generalize ((seed * seed + 52774 * seed + 11 * (((xs.map V.int).length : Nat) : Int) + 3) % 2147483629) = seed' at hs3 hs4 ⊢
        refine s_app (j := 1) o rfl (by wtm_at "ev") (by wtm_at "ev") (by rw [List.length_map]; omega) fun H1 o => ?_
        rw [mapI_add] at o
        refine ⟨5000 - (xs.length + 1), by omega, _, _, rfl, o, ⟨?_, (hrow.add (by omega)).all⟩, hs3, by omega, ?_, ?_⟩
        · rw [List.length_append, List.length_singleton]; omega
        · rw [List.length_append, List.length_singleton]
        · rw [List.length_append, List.length_singleton]; omega
      · have hb : ¬ ((xs.map V.int).length : Int) < m := of_decide_eq_false hb
        rw [List.length_map] at hb
        obtain ⟨n, rfl⟩ : ∃ n : Nat, m = n := ⟨m.toNat, by omega⟩
        have o := o.mono e
        refine s_rn o (ep_l (by wtm_at "ev")) fun v H1 N o hp => o.ret k (i := 0) (j := 3) rfl rfl ?_
        obtain ⟨q, rfl, hp⟩ := hp
        rw [cutV_take, ← List.map_take] at hp
        refine ⟨q, xs.take n, rfl, hp, ?_, fun x hx => hrow.all x (List.mem_of_mem_take hx)⟩
        rw [List.length_take]
        omega
end
abbrev s__law_great : Stmt := topS 13
theorem sc__law_great : FnScope ["_law_d", "_law_number"] ["_law_d"] (defScope s__law_great) := ⟨rfl, rfl, rfl, by decide +kernel, rfl, by decide +kernel, by decide +kernel⟩
abbrev s__law_pair : Stmt := topS 14
theorem sc__law_pair : FnScope ["_law_d", "_law_bottom"] ["_law_d"] (defScope s__law_pair) := ⟨rfl, rfl, rfl, by decide +kernel, rfl, by decide +kernel, by decide +kernel⟩
section
variable {P : Program} {w : World} {K : PySem.W.Frag} {mg : Str → Option Value} {base : Heap}
abbrev pInt (C : Int → Prop) : Hp → V → Prop := fun _ v => ∃ i, v = .int i ∧ C i
def tens (k : Int) : Bool := match PySem.intText? (("1" : Str) ++ Txt.mul ("0" : Str) k) with
  | some n => decide (0 ≤ n ∧ n ≤ 10000000000000000000) && decide ((("1" : Str) ++ Txt.mul ("0" : Str) k).length ≤ 640) && decide (("1" : Str).length + (Txt.mul ("0" : Str) k).length ≤ 640)
  | none => false
theorem tens_all : ((List.range 20).all fun k => tens (k : Int)) = true := by decide +kernel
theorem tens_ok {k : Int} (h0 : 0 ≤ k) (h1 : k < 20) : ∃ n, PySem.intText? (("1" : Str) ++ Txt.mul ("0" : Str) k) = some n ∧ 0 ≤ n ∧ n ≤ 10000000000000000000 ∧ (("1" : Str) ++ Txt.mul ("0" : Str) k).length ≤ 640 ∧ ("1" : Str).length + (Txt.mul ("0" : Str) k).length ≤ 640 := by
  have h := List.all_eq_true.mp tens_all k.toNat (List.mem_range.mpr (by omega))
  rw [show ((k.toNat : Nat) : Int) = k by omega] at h
  unfold tens at h
  cases e : PySem.intText? (("1" : Str) ++ Txt.mul ("0" : Str) k) with
  | none => rw [e] at h; cases h
  | some n =>
    rw [e] at h
    simp only [Bool.and_eq_true, decide_eq_true_eq] at h
    exact ⟨n, rfl, h.1.1.1, h.1.1.2, h.1.2, h.2⟩
theorem mulOk_zero {k : Int} (h0 : 0 ≤ k) (h1 : k < 20) : MulOk ("0" : Str) k := by
  have e1 : ("0" : Str).length = 1 := by decide
  refine ⟨?_, fun h2 _ => ?_, fun h2 _ => ?_⟩
  · rw [decide_eq_false (by omega), decide_eq_false (by omega)]; rfl
  · rw [e1]
    have h3 : (2 ^ 63 - 1 : Int) = 9223372036854775807 := by decide
    rw [h3]
    have h4 : (9223372036854775807 : Int) / 20 ≤ 9223372036854775807 / k := by
      rw [Int.le_ediv_iff_mul_le (by omega)]
      omega
    show ¬ (1 : Int) > _
    omega
  · rw [e1]
    have h5 : k.toNat < 20 := by omega
    exact decide_eq_false (by have := sizeLine_eq; omega)
/-- a list of ints from 0 on -/
def Pos (ns : List Int) : Prop := ∀ x ∈ ns, 0 ≤ x
def R__law_great (K : PySem.W.Frag) : Rl := ⟨fun vs H r => ∃ (p : Addr) (ns : List Int), vs = [.ref p] ∧ SqL K H p (ns.map V.int) ∧ 3 ≤ ns.length ∧ r = .ok (pInt (Bd 100)), fun e ⟨a, ns, h1, h2, h3⟩ => ⟨a, ns, h1, ex_l e h2, h3⟩⟩
theorem atI_map {ns : List Int} {j : Nat} (h : j < ns.length) : atI (ns.map V.int) (j : Int) = some (V.int ns[j]) := atI_nat (by rw [List.getElem?_map, List.getElem?_eq_getElem h]; rfl)
theorem ok__law_great (B : Bt mg) (D : Df K mg "_law_great" s__law_great ["_law_d"]) : Ok P w K mg base 1 "_law_great" ["_law_d"] ((R__law_great K).sp mg) := by
  refine D.ok sc__law_great (fun vs H Q E h => ?_) (fun f cdv A outer s H vs Q E hr h => ?_)
  · obtain ⟨r, ⟨a, ns, rfl, _⟩, _⟩ := h
    rfl
  · obtain ⟨r, ⟨a, ns, rfl, hS, hl, rfl⟩, k⟩ := h
    refine ⟨_, (pss_cons (ps_set (i := 1) sc__law_great.nd rfl (.inl rfl) (pe_op (op_addK K) (pe_op op_mulU (pe_op op_mod (pe_ix (ix_seqK K) (pv 0) pe_int (fun _ _ => rfl)) pe_int) (pe_callTy call_intU (by rfl) B.int boot_ty_int (pa_cons (pe_op (op_addK K) pe_str (pe_op op_mulU pe_str (pe_op op_mod (pe_ix (ix_seqK K) (pv 0) pe_int (fun _ _ => rfl)) pe_int))) pa_nil))) (pe_op op_mod (pe_ix (ix_seqK K) (pv 0) pe_int (fun _ _ => rfl)) pe_int)))
      (pss_one (ps_ret (pe_ifExp (pt_cmpR (op_eqK K (hu65 hr)) (pe_op op_mod (pe_ix (ix_seqK K) (pv 0) pe_int (fun _ _ => rfl)) pe_int) pe_int (nomark _)) (pe_un un_neg (pv 1)) (pv 1))))), ?_⟩
    have a0 := atI_map (ns := ns) (j := 0) (by omega)
    have a1 := atI_map (ns := ns) (j := 1) (by omega)
    have a2 := atI_map (ns := ns) (j := 2) (by omega)
    obtain ⟨n, hn, hn0, hn1, hl1, hl2⟩ := tens_ok (k := ns[1] % 20) (by omega) (by omega)
    have mo := mulOk_zero (k := ns[1] % 20) (by omega) (by omega)
    refine q_v (Own.one H) (ev_op (ev_op (ev_op (ev_op (ev_var rfl) ev_c (rv_ixLs hS a0)) ev_c (rv_I (by decide))) (ev_cb (ea_cons (ev_op ev_c (ev_op ev_c (ev_op (ev_op (ev_var rfl) ev_c (rv_ixLs hS a1)) ev_c (rv_I (by decide))) (rv_mulS mo)) (rv_addS (Nat.le_trans hl2 (by decide)))) ea_nil) (rc_int hn hl1)) (rv_mulI (cmul_small (by omega) (by omega))))
      (ev_op (ev_op (ev_var rfl) ev_c (rv_ixLs hS a2)) ev_c (rv_I (by decide))) rv_addI) fun H1 o => ?_
    have hb : Bd 100 (ns[0] % 1000 * n + ns[2] % 7) := by
      have h1 : 0 ≤ ns[0] % 1000 ∧ ns[0] % 1000 < 1000 := by omega
      have h2 : 0 ≤ ns[2] % 7 ∧ ns[2] % 7 < 7 := by omega
      have h3 : 0 ≤ ns[0] % 1000 * n := Int.mul_nonneg h1.1 hn0
      have h4 : ns[0] % 1000 * n ≤ 1000 * 10000000000000000000 := Int.mul_le_mul (by omega) hn1 hn0 (by decide)
      generalize ns[0] % 1000 * n = y at h3 h4 ⊢
      unfold Bd
      have e : (2 : Nat) ^ 100 = 1267650600228229401496703205376 := by decide
      rw [e]
      omega
    generalize (ns[0] % 1000 * n + ns[2] % 7) = z at hb ⊢
    refine s_rn o (ep_if (et_test (ev_op (ev_op (ev_op (ev_var rfl) ev_c (rv_ixLs (ex_l o.e0 hS) a1)) ev_c (rv_I (by decide))) ev_c rv_eqI)) (fun _ => ep_imp (ep_v (ev_un (ev_var rfl) ru_neg)) fun N v p => ?_) (fun _ => ep_imp (ep_v (ev_var rfl)) fun N v p => ?_)) fun v H1 N o p => o.ret k (i := 0) (j := 1) rfl rfl p
    · exact ⟨_, p, by unfold Bd at hb ⊢; omega⟩
    · exact ⟨_, p, hb⟩
def R__law_pair (K : PySem.W.Frag) : Rl := ⟨fun vs H r => ∃ (p : Addr) (ns : List Int), vs = [.ref p] ∧ SqL K H p (ns.map V.int) ∧ 7 ≤ ns.length ∧ r = .ok (fun N v => ∃ a b, pTup [.int a, .int b] N v ∧ Bd 100 a ∧ Bd 100 b ∧ b ≠ 0), fun e ⟨a, ns, h1, h2, h3⟩ => ⟨a, ns, h1, ex_l e h2, h3⟩⟩
theorem ok__law_pair (B : Bt mg) (O__law_great : Ok P w K mg base 1 "_law_great" ["_law_d"] ((R__law_great K).sp mg)) (D : Df K mg "_law_pair" s__law_pair ["_law_d"]) : Ok P w K mg base 2 "_law_pair" ["_law_d"] ((R__law_pair K).sp mg) := by
  refine D.ok sc__law_pair (fun vs H Q E h => ?_) (fun f cdv A outer s H vs Q E hr h => ?_)
  · obtain ⟨r, ⟨a, ns, rfl, _⟩, _⟩ := h
    rfl
  · obtain ⟨r, ⟨a, ns, rfl, hS, hl, rfl⟩, k⟩ := h
    refine ⟨_, (pss_cons (ps_set (i := 1) sc__law_pair.nd rfl (.inl rfl) (pe_callO O__law_great (hr.mono (by omega)) (by rfl) (takes_of rfl rfl rfl rfl) (pa_cons (pe_slice (sl_K K) (pv 0) (po_some pe_int) po_none) pa_nil)))
      (pss_cons (ps_if (pt_cmpR op_gt (pe_op op_mod (pe_ix (ix_seqK K) (pv 0) pe_int (fun _ _ => rfl)) pe_int) pe_int (nomark _))
        (pss_one (ps_ret (pe_tup (pa_cons (pe_op op_sub (pe_op op_mod (pe_ix (ix_seqK K) (pv 0) pe_int (fun _ _ => rfl)) pe_int) pe_int) (pa_cons (pe_op (op_addK K) pe_int (pe_op op_mod (pe_ix (ix_seqK K) (pv 0) pe_int (fun _ _ => rfl)) pe_int)) pa_nil)))))
        pss_nil)
      (pss_one (ps_ret (pe_tup (pa_cons (pe_callO O__law_great (hr.mono (by omega)) (by rfl) (takes_of rfl rfl rfl rfl) (pa_cons (pv 0) pa_nil)) (pa_cons (pe_ifExp (pt_cmpR (op_eqK K (hu65 hr)) (pv 1) pe_int (nomark _)) pe_int (pv 1)) pa_nil))))))), ?_⟩
    have a0 := atI_map (ns := ns) (j := 0) (by omega)
    have a3 := atI_map (ns := ns) (j := 3) (by omega)
    have a6 := atI_map (ns := ns) (j := 6) (by omega)
    refine q_n (P := pInt (Bd 100)) (Own.one H) (ep_callN (eps_cons (ep_l (el_sl' (ev_var rfl) (eo_some ev_c) eo_none hS)) eps_nil) ?_) fun v H1 N o p => ?_
    · intro vs H1 e al
      cases al with
      | cons h r =>
        cases r
        obtain ⟨N, hN, q, rfl, hq⟩ := h
        rw [show cutV (ns.map V.int) (some 3) none = (ns.drop 3).map V.int by rw [show cutV (ns.map V.int) (some 3) none = (ns.map V.int).drop 3 from cutV_drop 3, List.map_drop]] at hq
        exact ⟨q, ns.drop 3, rfl, sq_of (hN _ _ hq), by rw [List.length_drop]; omega, rfl⟩
    · obtain ⟨b, rfl, hb⟩ := p
      refine q_wh o (by wtm_at "ev") (fun _ H1 o => ?_) (fun _ H1 o => ?_)
      · refine s_rn o (ep_tup (by wtm_at "ev")) fun v H1 N o p => o.ret k (i := 0) (j := 2) rfl rfl ⟨_, _, p, ?_, ?_, ?_⟩
        · have e : (2 : Nat) ^ 100 = 1267650600228229401496703205376 := by decide
          unfold Bd; rw [e]; omega
        · have e : (2 : Nat) ^ 100 = 1267650600228229401496703205376 := by decide
          unfold Bd; rw [e]; omega
        · omega
      · have hS1 := ex_l o.e1 hS
        refine s_rn o (P := fun N v => ∃ a b, pTup [.int a, .int b] N v ∧ Bd 100 a ∧ Bd 100 b ∧ b ≠ 0) ?_ fun v H1 N o p => o.ret k (i := 0) (j := 2) rfl rfl p
        refine ep_tupP (P1 := pInt (Bd 100)) (P2 := pInt fun b => Bd 100 b ∧ b ≠ 0) (ep_call (ea_cons (ev_var rfl) ea_nil) ⟨a, ns, rfl, hS1, by omega, rfl⟩) (ep_if (by wtm_at "ev") (fun hb0 => ep_imp (ep_v ev_c) ?_) (fun hb0 => ep_imp (ep_v (ev_var rfl)) ?_)) ?_
        · rintro N v rfl
          exact ⟨1, rfl, by unfold Bd; decide, by decide⟩
        · rintro N v rfl
          exact ⟨b, rfl, hb, by simpa using hb0⟩
        · rintro N v1 v2 p ⟨x, rfl, hx⟩ ⟨y, rfl, hy, hy0⟩ hp
          exact ⟨x, y, ⟨p, rfl, hp⟩, hx, hy, hy0⟩
end
abbrev s__law_same : Stmt := topS 11
theorem sc__law_same : FnScope ["_law_found", "_law_due", "_law_one", "_law_other"] ["_law_found", "_law_due"] (defScope s__law_same) := ⟨rfl, rfl, rfl, by decide +kernel, rfl, by decide +kernel, by decide +kernel⟩
section
variable {P : Program} {w : World} {K : PySem.W.Frag} {mg : Str → Option Value} {base : Heap}
/-- two of the same data are found the same -/
def R__law_same (K : PySem.W.Frag) (n : Nat) : Rl := ⟨fun vs H r => ∃ (x y : V) (d : PyData), vs = [x, y] ∧ Dp K H x d ∧ Dp K H y d ∧ smD d ∧ d.depth < n ∧ r = .ok (is (.bl true)), fun e ⟨x, y, d, h1, h2, h3, h4⟩ => ⟨x, y, d, h1, dp_mono e h2, dp_mono e h3, h4⟩⟩
theorem Df.none {x : Str} {st : Stmt} {ps : List Str} {N : List Str} {S : Rl} (D : Df K mg x st ps) (sc : FnScope N ps (defScope st)) (h : ∀ vs H r, ¬ S.R vs H r) : Ok P w K mg base 0 x ps (S.sp mg) := by
  obtain ⟨f, fd, g, F, b⟩ := D.ex
  obtain ⟨oc, od, kV, doc, pm, an, cdv, ct, osl, hfd, lk, hcd⟩ := F.ex
  exact ⟨f, fd, g, F.kp, b, ⟨fun vs H Q E ⟨r, hr, _⟩ => absurd hr (h vs H r), fun _ _ _ _ _ _ _ _ _ _ _ _ _ ⟨r, hr, _⟩ => absurd hr (h _ _ r)⟩, oc, od, osl, lk⟩
theorem ok__law_same (B : Bt mg) (D : Df K mg "_law_same" s__law_same ["_law_found", "_law_due"]) : ∀ n, Ok P w K mg base n "_law_same" ["_law_found", "_law_due"] ((R__law_same K n).sp mg)
  | 0 => D.none sc__law_same fun vs H r ⟨_, _, d, _, _, _, _, h, _⟩ => absurd h (Nat.not_lt_zero _)
  | n + 1 => by
    have O__law_same := ok__law_same B D n
    refine D.ok sc__law_same (fun vs H Q E h => ?_) (fun f cdv A outer s H vs Q E hr h => ?_)
    · obtain ⟨r, ⟨x, y, d, rfl, _⟩, _⟩ := h
      rfl
    · obtain ⟨r, ⟨x, y, d, rfl, hx, hy, hsm, hd, rfl⟩, k⟩ := h
      refine ⟨_, (pss_cons (ps_if (pt_cmpR op_isN (pv 1) pe_non (nomark _))
        (pss_one (ps_ret (pe_cmpR op_isN (pv 0) pe_non (nomark _))))
        pss_nil)
      (pss_cons (ps_if (pt_val (pe_callB (call_isiK' K) (by rfl) B.isinstance boot_b_isinstance (pa_cons (pv 1) (pa_cons (pe_tup (pa_cons (pe_bltn (v := .ty "list") (by rfl) B.list boot_ty_list rfl) (pa_cons (pe_bltn (v := .ty "tuple") (by rfl) B.tuple boot_ty_tuple rfl) pa_nil))) pa_nil))))
        (pss_cons (ps_if (PW.pt (pw_or (pt_cmpR (op_neK K (hu65 hr)) (pe_callB (call_isiK' K) (by rfl) B.isinstance boot_b_isinstance (pa_cons (pv 0) (pa_cons (pe_bltn (v := .ty "list") (by rfl) B.list boot_ty_list rfl) pa_nil))) (pe_callB (call_isiK' K) (by rfl) B.isinstance boot_b_isinstance (pa_cons (pv 1) (pa_cons (pe_bltn (v := .ty "list") (by rfl) B.list boot_ty_list rfl) pa_nil))) (nomark _)) (pw_or1 (pt_cmpR (op_neK K (hu65 hr)) (pe_callB (call_isiK' K) (by rfl) B.isinstance boot_b_isinstance (pa_cons (pv 0) (pa_cons (pe_bltn (v := .ty "tuple") (by rfl) B.tuple boot_ty_tuple rfl) pa_nil))) (pe_callB (call_isiK' K) (by rfl) B.isinstance boot_b_isinstance (pa_cons (pv 1) (pa_cons (pe_bltn (v := .ty "tuple") (by rfl) B.tuple boot_ty_tuple rfl) pa_nil))) (nomark _)))))
          (pss_one (ps_ret pe_bl))
          pss_nil)
        (pss_one (ps_ret (pe_and (pe_cmpR (op_eqK K (hu65 hr)) (pe_callB (call_lenK K) (by rfl) B.len boot_b_len (pa_cons (pv 0) pa_nil)) (pe_callB (call_lenK K) (by rfl) B.len boot_b_len (pa_cons (pv 1) pa_nil)) (nomark _)) (pe_one (pe_callB (cr_allK K rfl) (by rfl) B.all boot_b_all (pa_cons (pe_lc (own := [("_law_one", 2), ("_law_other", 3)]) rfl sc__law_same.nd (pi_zipK K (by rfl) B.zip (pa_cons (pv 0) (pa_cons (pv 1) pa_nil))) (blkOk_by (N := ["_law_found", "_law_due", "_law_one", "_law_other"]) (sc := defScope s__law_same) (by decide +kernel)) (fun _ _ _ _ _ => (pg_tupK K (n := 2) rfl (pgs_cons (pg_name (i := 2) sc__law_same.nd rfl (.inl rfl)) (pgs_cons (pg_name (i := 3) sc__law_same.nd rfl (.inl rfl)) pgs_nil)))) (fun _ _ _ _ _ => pts_nil) (fun _ _ _ _ _ => (pe_callO O__law_same (hr.mono (by omega)) (by rfl) takes0 (pa_cons (pv 2) (pa_cons (pv 3) pa_nil))))) pa_nil)))))))
        pss_nil)
      (pss_cons (ps_if (PW.pt (pw_or (pt_cmpR (op_neK K (hu65 hr)) (pe_callB (call_isiK' K) (by rfl) B.isinstance boot_b_isinstance (pa_cons (pv 0) (pa_cons (pe_bltn (v := .ty "bool") (by rfl) B.bool boot_ty_bool rfl) pa_nil))) (pe_callB (call_isiK' K) (by rfl) B.isinstance boot_b_isinstance (pa_cons (pv 1) (pa_cons (pe_bltn (v := .ty "bool") (by rfl) B.bool boot_ty_bool rfl) pa_nil))) (nomark _)) (pw_or1 (pt_cmpR (op_neK K (hu65 hr)) (pe_callB (call_isiK' K) (by rfl) B.isinstance boot_b_isinstance (pa_cons (pv 0) (pa_cons (pe_bltn (v := .ty "str") (by rfl) B.str boot_ty_str rfl) pa_nil))) (pe_callB (call_isiK' K) (by rfl) B.isinstance boot_b_isinstance (pa_cons (pv 1) (pa_cons (pe_bltn (v := .ty "str") (by rfl) B.str boot_ty_str rfl) pa_nil))) (nomark _)))))
        (pss_one (ps_ret pe_bl))
        pss_nil)
      (pss_one (ps_ret (pe_and (pe_cmpR (op_eqK K (hu65 hr)) (pe_callB (call_isiK' K) (by rfl) B.isinstance boot_b_isinstance (pa_cons (pv 0) (pa_cons (pe_bltn (v := .ty "int") (by rfl) B.int boot_ty_int rfl) pa_nil))) (pe_callB (call_isiK' K) (by rfl) B.isinstance boot_b_isinstance (pa_cons (pv 1) (pa_cons (pe_bltn (v := .ty "int") (by rfl) B.int boot_ty_int rfl) pa_nil))) (nomark _)) (pe_one (pe_cmpR (op_eqK K (hu65 hr)) (pv 0) (pv 1) (nomark _))))))))), ?_⟩
      refine q_wh (Own.one H) (by wtm_at "ev") (fun hb H1 o => ?_) (fun hb H1 o => ?_)
      · have hb : y = .non := by simpa using hb
        subst hb
        cases hy
        cases hx
        exact s_rv o (by wtm_at "ev") fun H1 o => o.retV k (j := 0) rfl rfl
      · have hb : ¬ y = .non := by simpa using hb
        have hx1 := dp_mono o.e0 hx
        have hy1 := dp_mono o.e0 hy
        -- a list or a tuple; else a number, a text, a bool
        have cls : (∃ (ds : List PyData) (xs ys : List V) (a b : Addr), x = .ref a ∧ y = .ref b ∧ d.depth = PyData.depthAll ds + 1 ∧ DpAll K H xs ds ∧ DpAll K H ys ds ∧ ds.length ≤ 40000 ∧ (∀ z ∈ ds, smD z) ∧ (SqL K H a xs ∧ SqL K H b ys ∧ kindS d = "list" ∨ SqT K H a xs ∧ SqT K H b ys ∧ kindS d = "tuple")) ∨
            ((∃ i, x = .int i ∧ y = .int i ∧ kindS d = "int") ∨ (∃ i, x = .str i ∧ y = .str i ∧ kindS d = "str") ∨ ∃ i, x = .bl i ∧ y = .bl i ∧ kindS d = "bool") := by
          cases hx with
          | non => cases hy; exact absurd rfl hb
          | bl i => cases hy; exact .inr (.inr (.inr ⟨i, rfl, rfl, rfl⟩))
          | int i => cases hy; exact .inr (.inl ⟨i, rfl, rfl, rfl⟩)
          | str i => cases hy; exact .inr (.inr (.inl ⟨i, rfl, rfl, rfl⟩))
          | lst h1 h2 =>
            cases hy with
            | lst h3 h4 => exact .inl ⟨_, _, _, _, _, rfl, rfl, by simp only [PyData.depth], h2, h4, (smD_list.mp hsm).1, (smD_list.mp hsm).2, .inl ⟨h1, h3, rfl⟩⟩
          | tup h1 h2 =>
            cases hy with
            | tup h3 h4 => exact .inl ⟨_, _, _, _, _, rfl, rfl, by simp only [PyData.depth], h2, h4, (smD_tuple.mp hsm).1, (smD_tuple.mp hsm).2, .inr ⟨h1, h3, rfl⟩⟩
        rcases cls with ⟨ds, xs, ys, a, b, ex, ey, hdd, ha, hb2, hl40, hsa, hq⟩ | sc
        · subst ex ey
          have kd : ∃ b1 b2, kitB (kindS d) "list" = some b1 ∧ kitB (kindS d) "tuple" = some b2 ∧ (b1 || b2) = true := by
            rcases hq with ⟨_, _, e⟩ | ⟨_, _, e⟩
            · rw [e]; exact ⟨true, false, by decide +kernel, by decide +kernel, rfl⟩
            · rw [e]; exact ⟨false, true, by decide +kernel, by decide +kernel, rfl⟩
          obtain ⟨b1, b2, k1, k2, k12⟩ := kd
          have lx := dpa_len ha
          have ly := dpa_len hb2
          refine q_fi (b := true) o (et_is (et_B (ev_isi2 (ev_var rfl) hy1 k1 k2)) k12) (fun _ H1 o => ?_) (fun h => nomatch h)
          have hx1 := dp_mono o.e0 hx
          have hy1 := dp_mono o.e0 hy
          refine q_wh (b := false) o (et_is (et_or (et_test (ev_op (ev_isi (ev_var rfl) hx1 k1) (ev_isi (ev_var rfl) hy1 k1) (rv_neS (by cases b1 <;> rfl)))) fun _ => et_test (ev_op (ev_isi (ev_var rfl) hx1 k2) (ev_isi (ev_var rfl) hy1 k2) (rv_neS (by cases b2 <;> rfl)))) (by simp)) (fun h => nomatch h) (fun _ H1 o => ?_)
          have EZ : EvI (RZ.iZipA K (tCons (tVar 0) (tCons (tVar 1) tNil))) [some (.ref a), some (.ref b), none, none] H1 H1 xs.length (fun i x H' => ∃ T y z, x = .ref T ∧ H' T = some (.tup [y, z]) ∧ xs[i]? = some y ∧ ys[i]? = some z) := by
            rcases hq with ⟨q1, q2, _⟩ | ⟨q1, q2, _⟩
            · exact ei_zip (by wtm_at "ev") (ex_l o.e0 q1) (ex_l o.e0 q2) (by omega) (Ex.refl _)
            · exact ei_zipT (by wtm_at "ev") (ex_t o.e0 q1) (ex_t o.e0 q2) (by omega) (Ex.refl _)
          have LX : RC (rLenU K) [.ref a] H1 (.int (xs.length : Int)) ∧ RC (rLenU K) [.ref b] H1 (.int (ys.length : Int)) := by
            rcases hq with ⟨q1, q2, _⟩ | ⟨q1, q2, _⟩
            · exact ⟨rc_lenL (ex_l o.e0 q1), rc_lenL (ex_l o.e0 q2)⟩
            · exact ⟨rc_lenT (ex_t o.e0 q1), rc_lenT (ex_t o.e0 q2)⟩
          refine s_rv o (v := .bl true) (ev_is (ev_andV (b := true) (ev_op (ev_cb (by wtm_at "ev") LX.1) (ev_cb (by wtm_at "ev") LX.2) rv_eqI) fun _ => ev_cb1 (ep_l (el_lc (fun i => [some (.ref a), some (.ref b), xs[i]?.map id, ys[i]?.map id]) (fun _ => true) (fun _ => .bl true) EZ (Ex.refl _) (by omega) ?_ ?_ ?_ ?_)) (fun v N H2 e2 i2 ⟨p, ev, hp⟩ => ?_)) ?_) fun H1 o => o.retV k (j := 0) rfl rfl
          · rintro i x H' hi ⟨T, y, z, rfl, hT, g1, g2⟩ Q hQ
            refine ⟨T, [y, z], rfl, st_of hT, rfl, y, [z], rfl, z, [], rfl, rfl, ?_⟩
            rw [g1, g2] at hQ
            exact hQ
          · intro i hi
            rfl
          · intro i H2 e2 hi H3 e3 Q q
            exact q H3 (Ex.refl _)
          · intro i H2 e2 hi _
            obtain ⟨y, hy2⟩ : ∃ y, xs[i]? = some y := ⟨_, List.getElem?_eq_getElem hi⟩
            obtain ⟨z, hz2⟩ : ∃ z, ys[i]? = some z := ⟨_, List.getElem?_eq_getElem (by omega)⟩
            obtain ⟨d1, g1, p1⟩ := dpa_get ha hy2
            obtain ⟨d2, g2, p2⟩ := dpa_get hb2 hz2
            rw [g1] at g2
            cases g2
            have dl := depthAll_get g1
            refine ev_callO (vs := [y, z]) (ea_cons (ev_var (by rw [hy2]; rfl)) (ea_cons (ev_var (by rw [hz2]; rfl)) ea_nil)) ⟨y, z, d1, rfl, dp_mono (o.e0.trans e2) p1, dp_mono (o.e0.trans e2) p2, hsa _ (List.mem_of_getElem? g1), by omega, rfl⟩
          · subst ev
            have hp : N p = some (.lst (((picks xs.length fun _ => true).map fun _ => true).map V.bl)) := by
              rw [hp, List.map_map]
              rfl
            have z := rc_all (K := K) (sq_of (i2 _ _ hp))
            rw [all_true] at z
            exact z
          · rw [lx, ly]
            simp
        · have kd : x = y ∧ scal x y = true ∧ kitB (kindS d) "list" = some false ∧ kitB (kindS d) "tuple" = some false ∧ ∃ b3 b4 b5, kitB (kindS d) "bool" = some b3 ∧ kitB (kindS d) "str" = some b4 ∧ kitB (kindS d) "int" = some b5 := by
            rcases sc with ⟨i, rfl, rfl, e⟩ | ⟨i, rfl, rfl, e⟩ | ⟨i, rfl, rfl, e⟩
            · rw [e]; exact ⟨rfl, rfl, by decide +kernel, by decide +kernel, false, false, true, by decide +kernel, by decide +kernel, by decide +kernel⟩
            · rw [e]; exact ⟨rfl, rfl, by decide +kernel, by decide +kernel, false, true, false, by decide +kernel, by decide +kernel, by decide +kernel⟩
            · rw [e]; exact ⟨rfl, rfl, by decide +kernel, by decide +kernel, true, false, true, by decide +kernel, by decide +kernel, by decide +kernel⟩
          obtain ⟨rfl, hsc, k1, k2, b3, b4, b5, k3, k4, k5⟩ := kd
          refine q_wh (b := false) o (et_is (et_B (ev_isi2 (ev_var rfl) hy1 k1 k2)) rfl) (fun h => nomatch h) (fun _ H1 o => ?_)
          have hx1 := dp_mono o.e0 hx
          refine q_wh (b := false) o (et_is (et_or (et_test (ev_op (ev_isi (ev_var rfl) hx1 k3) (ev_isi (ev_var rfl) hx1 k3) (rv_neS (by cases b3 <;> rfl)))) fun _ => et_test (ev_op (ev_isi (ev_var rfl) hx1 k4) (ev_isi (ev_var rfl) hx1 k4) (rv_neS (by cases b4 <;> rfl)))) (by simp)) (fun h => nomatch h) (fun _ H1 o => ?_)
          have hx1 := dp_mono o.e0 hx
          exact s_rv o (v := .bl true) (ev_is (ev_andV (ev_op (ev_isi (ev_var rfl) hx1 k5) (ev_isi (ev_var rfl) hx1 k5) (rv_eqS (by cases b5 <;> rfl))) fun _ => ev_op (ev_var rfl) (ev_var rfl) (rv_eqS hsc)) (by simp)) fun H1 o => o.retV k (j := 0) rfl rfl
end
abbrev s__law_measure : Stmt := topS 12
theorem sc__law_measure : FnScope ["_law_one", "_law_other"] ["_law_one", "_law_other"] (defScope s__law_measure) := ⟨rfl, rfl, rfl, by decide +kernel, rfl, by decide +kernel, by decide +kernel⟩
abbrev s__law_lowest : Stmt := topS 15
theorem sc__law_lowest : FnScope ["_law_found", "_law_due", "_law_number"] ["_law_found", "_law_due"] (defScope s__law_lowest) := ⟨rfl, rfl, rfl, by decide +kernel, rfl, by decide +kernel, by decide +kernel⟩
abbrev s_law : Stmt := topS 16
theorem sc_law : FnScope ["_law_script", "_law_numbers_here", "_law_one", "_law_other", "_law_by", "_law_added", "_law_taken", "_law_below"] ["_law_script"] (defScope s_law) := ⟨rfl, rfl, rfl, by decide +kernel, rfl, by decide +kernel, by decide +kernel⟩
section
variable {P : Program} {w : World} {K : PySem.W.Frag} {mg : Str → Option Value} {base : Heap}
theorem ok__law_measure (B : Bt mg) (D : Df K mg "_law_measure" s__law_measure ["_law_one", "_law_other"]) : Ok P w K mg base 1 "_law_measure" ["_law_one", "_law_other"] (R_measure.sp mg) := by
  refine D.ok sc__law_measure (fun vs H Q E h => ?_) (fun f cdv A outer s H vs Q E hr h => ?_)
  · obtain ⟨r, ⟨a, b, rfl, _⟩, _⟩ := h
    rfl
  · obtain ⟨r, ⟨a, b, rfl, rfl⟩, k⟩ := h
    refine ⟨_, (pss_cons (ps_set (i := 0) sc__law_measure.nd rfl (.inl rfl) (pe_callB call_abs (by rfl) B.abs boot_b_abs (pa_cons (pv 0) pa_nil)))
      (pss_cons (ps_set (i := 1) sc__law_measure.nd rfl (.inl rfl) (pe_callB call_abs (by rfl) B.abs boot_b_abs (pa_cons (pv 1) pa_nil)))
      (pss_cons (ps_while (passes_of rfl) (pt_cmpR (op_neK K (hu65 hr)) (pv 1) pe_int (nomark _))
        (pss_one (ps_par (i := 0) (j := 1) rfl sc__law_measure.nd rfl rfl (by decide) rfl rfl (pa_cons (pv 1) (pa_cons (pe_op op_mod (pv 0) (pv 1)) pa_nil)) (by rfl))))
      (pss_one (ps_ret (pv 0)))))), ?_⟩
    refine q_v (Own.one H) (ev_cb (ea_cons (ev_var rfl) ea_nil) rc_abs) fun H1 o => ?_
    refine q_v o (ev_cb (ea_cons (ev_var rfl) ea_nil) rc_abs) fun H1 o => ?_
    refine q_wl (fun m σ H' => ∃ x y : Nat, σ = [some (.int x), some (.int y)] ∧ Own [H] H' ∧ Nat.gcd x y = Int.gcd a b ∧ m = y) b.natAbs ⟨_, _, rfl, o, rfl, rfl⟩ ?_
    rintro m σ H' ⟨x, y, rfl, o, hg, hm⟩
    refine ⟨_, et_test (ev_op (ev_var rfl) ev_c rv_neI), fun hb H1 e => ?_, fun hb H1 e => ?_⟩
    · have hy : ¬ (y : Int) = 0 := by simpa using hb
      refine s_par (ea_cons (ev_var rfl) (ea_cons (ev_op (ev_var rfl) (ev_var rfl) (rv_I (show (0 : Int) < (y : Int) by omega))) ea_nil)) fun H2 e2 => ?_
      exact ⟨x % y, by rw [hm]; exact Nat.mod_lt _ (by omega), y, x % y, rfl, (o.mono e).mono e2, by rw [gcd_turn]; exact hg, rfl⟩
    · have hy : (y : Int) = 0 := by simpa using hb
      have hy : y = 0 := by omega
      subst hy
      refine s_rv (o.mono e) (ev_var rfl) fun H2 o => o.retV k (j := 0) rfl ?_
      rw [← hg, Nat.gcd_zero_right]
def R__law_lowest (K : PySem.W.Frag) : Rl := ⟨fun vs H r => ∃ t b x y, Pr2 K vs H t b x y ∧ Small4 t b x y ∧ 0 < b ∧ t * y = x * b ∧ Int.gcd t b = 1 ∧ r = .ok (is (.bl true)), fun e ⟨t, b, x, y, h, h2⟩ => ⟨t, b, x, y, h.mono e, h2⟩⟩
theorem ok__law_lowest (B : Bt mg) (O__law_measure : Ok P w K mg base 1 "_law_measure" ["_law_one", "_law_other"] (R_measure.sp mg)) (D : Df K mg "_law_lowest" s__law_lowest ["_law_found", "_law_due"]) : Ok P w K mg base 2 "_law_lowest" ["_law_found", "_law_due"] ((R__law_lowest K).sp mg) := by
  refine D.ok sc__law_lowest (fun vs H Q E h => ?_) (fun f cdv A outer s H vs Q E hr h => ?_)
  · obtain ⟨r, ⟨t, b, x, y, ⟨p, q, rfl, _⟩, _⟩, _⟩ := h
    rfl
  · obtain ⟨r, ⟨t, b, x, y, ⟨p, q, rfl, h1, h2⟩, ⟨bt, bb, bx, by_⟩, hb, hc, hg, rfl⟩, k⟩ := h
    refine ⟨_, (pss_cons (ps_if (PW.pt (pw_or (pt_not (pt_val (pe_callB (call_isiK' K) (by rfl) B.isinstance boot_b_isinstance (pa_cons (pv 0) (pa_cons (pe_bltn (v := .ty "tuple") (by rfl) B.tuple boot_ty_tuple rfl) pa_nil))))) (pw_or1 (pt_cmpR (op_neK K (hu65 hr)) (pe_callB (call_lenK K) (by rfl) B.len boot_b_len (pa_cons (pv 0) pa_nil)) pe_int (nomark _)))))
        (pss_one (ps_ret pe_bl))
        pss_nil)
      (pss_cons (ps_for (passes_of rfl) rfl (pi_tupK K (pv 0)) (pg_name (i := 2) sc__law_lowest.nd rfl (.inl rfl))
        (pss_one (ps_if (PW.pt (pw_or (pt_not (pt_val (pe_callB (call_isiK' K) (by rfl) B.isinstance boot_b_isinstance (pa_cons (pv 2) (pa_cons (pe_bltn (v := .ty "int") (by rfl) B.int boot_ty_int rfl) pa_nil))))) (pw_or1 (pt_val (pe_callB (call_isiK' K) (by rfl) B.isinstance boot_b_isinstance (pa_cons (pv 2) (pa_cons (pe_bltn (v := .ty "bool") (by rfl) B.bool boot_ty_bool rfl) pa_nil)))))))
          (pss_one (ps_ret pe_bl))
          pss_nil)))
      (pss_one (ps_ret (pe_and (pe_cmpR op_gt (pe_ix (ix_seqK K) (pv 0) pe_int (fun _ _ => rfl)) pe_int (nomark _)) (pe_and (pe_cmpR (op_eqK K (hu65 hr)) (pe_op op_mulU (pe_ix (ix_seqK K) (pv 0) pe_int (fun _ _ => rfl)) (pe_ix (ix_seqK K) (pv 1) pe_int (fun _ _ => rfl))) (pe_op op_mulU (pe_ix (ix_seqK K) (pv 1) pe_int (fun _ _ => rfl)) (pe_ix (ix_seqK K) (pv 0) pe_int (fun _ _ => rfl))) (nomark _)) (pe_one (pe_cmpR (op_eqK K (hu65 hr)) (pe_callO O__law_measure (hr.mono (by omega)) (by rfl) (takes_of rfl rfl rfl rfl) (pa_cons (pe_ix (ix_seqK K) (pv 0) pe_int (fun _ _ => rfl)) (pa_cons (pe_ix (ix_seqK K) (pv 0) pe_int (fun _ _ => rfl)) pa_nil))) pe_int (nomark _))))))))), ?_⟩
    have hd : Dp K H (.ref p) (.tuple [.int t, .int b]) := .tup h1 (.cons (.int t) (.cons (.int b) .nil))
    refine q_wh (b := false) (Own.one H) (et_or (et_not (et_B (ev_isi (ev_var rfl) hd kit_tt))) fun _ => et_test (ev_op (ev_cb (by wtm_at "ev") (rc_lenT h1)) ev_c rv_neI)) (fun h => nomatch h) (fun _ H1 o => ?_)
    refine q_for o (ei_tup (ev_var rfl) h1 o.e0) (fun i σ H' => ∃ y2, σ = [some (.ref p), some (.ref q), y2] ∧ Own [H] H') (fun H1 o => ⟨_, rfl, o⟩) (fun i σ H' _ ⟨_, _, o⟩ => o.e0) ?_ ?_
    · rintro i v σ H1 H2 hi ⟨y2, rfl, o⟩ e hv
      obtain ⟨z, rfl⟩ : ∃ z, v = V.int z := by
        match i, hv with
        | 0, hv => exact ⟨t, (Option.some.inj hv).symm⟩
        | 1, hv => exact ⟨b, (Option.some.inj hv).symm⟩
      have o := o.mono e
      refine s_wh (b := false) o (et_or (et_not (et_B (ev_isi (d := .int z) (ev_var rfl) (.int z) kit_ii))) fun _ => et_B (ev_isi (d := .int z) (ev_var rfl) (.int z) kit_ib)) (fun h => nomatch h) (fun _ H1 o => ⟨_, rfl, o⟩)
    · rintro σ H' ⟨y2, rfl, o⟩
      have h1 := ex_t o.e0 h1
      have h2 := ex_t o.e0 h2
      refine s_rv o (v := .bl true) (ev_is (ev_andV (ev_op (ev_op (ev_var rfl) ev_c (rv_ixTs h1 rfl)) ev_c rv_I0) fun _ => ev_andV (ev_op (ev_op (ev_op (ev_var rfl) ev_c (rv_ixTs h1 rfl)) (ev_op (ev_var rfl) ev_c (rv_ixTs h2 rfl)) (rv_mulI (bt.mul by_))) (ev_op (ev_op (ev_var rfl) ev_c (rv_ixTs h2 rfl)) (ev_op (ev_var rfl) ev_c (rv_ixTs h1 rfl)) (rv_mulI (bx.mul bb))) rv_eqI) fun _ => ev_op (ev_callO (ea_cons (ev_op (ev_var rfl) ev_c (rv_ixTs h1 rfl)) (ea_cons (ev_op (ev_var rfl) ev_c (rv_ixTs h1 rfl)) ea_nil)) ⟨t, b, rfl, rfl⟩) ev_c rv_eqI) ?_) fun H1 o => o.retV k (j := 0) rfl rfl
      rw [decide_eq_true hb, decide_eq_true hc, hg]
      rfl
theorem Bd.up {n m : Nat} {i : Int} (h : Bd n i) (l : n ≤ m) : Bd m i := Nat.lt_of_lt_of_le h (Nat.pow_le_pow_right (by decide) l)
theorem Bd.of {n : Nat} {i j : Int} (h : Bd n j) (l : i.natAbs ≤ j.natAbs) : Bd n i := Nat.lt_of_le_of_lt l h
theorem Bd.add {n : Nat} {i j : Int} (h1 : Bd n i) (h2 : Bd n j) : Bd (n + 1) (i + j) := by
  unfold Bd at *
  rw [Nat.pow_succ]
  omega
theorem Bd.sub {n : Nat} {i j : Int} (h1 : Bd n i) (h2 : Bd n j) : Bd (n + 1) (i - j) := by
  unfold Bd at *
  rw [Nat.pow_succ]
  omega
theorem Bd.times {n m : Nat} {i j : Int} (h1 : Bd n i) (h2 : Bd m j) : Bd (n + m) (i * j) := wide_lt h1 h2
/-- what the law asks of a pair told by a part -/
theorem low_of {K : PySem.W.Frag} {H : Hp} {p q : Addr} {x y : Int} (hy : y ≠ 0) (bx : Bd 2000 x) (by_ : Bd 2000 y) (h1 : SqT K H p [.int (partM x y).1, .int (partM x y).2]) (h2 : SqT K H q [.int x, .int y]) : (R__law_lowest K).R [.ref p, .ref q] H (.ok (is (.bl true))) :=
  ⟨_, _, x, y, ⟨p, q, rfl, h1, h2⟩, ⟨bx.of (partM_bd1 hy), by_.of (partM_bd2 hy), bx, by_⟩, partM_pos hy, partM_cross x y, partM_gcd hy, rfl⟩
theorem ev_low {K : PySem.W.Frag} {mg : Str → Option Value} {σ : L2.St} {H : Hp} {te ta : TE} {q : Addr} {x y : Int} {E : L2.St → XK} (hy : y ≠ 0) (bx : Bd 2000 x) (by_ : Bd 2000 y) (h : EvP te σ H (pPart (partM x y))) (ha : Ev ta σ H (.ref q)) (h2 : SqT K H q [.int x, .int y]) :
    Ev (tCallS ((R__law_lowest K).sp mg) E (tCons te (tCons ta tNil))) σ H (.bl true) := ev_callN (eps_cons h (eps_cons (ep_v ha) eps_nil)) fun vs H1 e al => by
  cases al with
  | cons h r =>
    cases r with
    | cons h3 r =>
      cases r
      obtain ⟨N, hN, p, rfl, hp⟩ := h
      obtain ⟨_, _, h3⟩ := h3
      have h3 : _ = V.ref q := h3
      subst h3
      exact low_of hy bx by_ (st_of (hN _ _ hp)) (ex_t e h2)
theorem partR_ok {t b : Int} (hb : b ≠ 0) : partR t b = .ok (pPart (partM t b)) := if_neg hb
theorem eqv_01 : PyData.eqv (.tuple [.int 0, .int 1]) (.tuple [.int 0, .int 1]) = true := by decide +kernel
theorem ok_law (B : Bt mg) (O__law_numbers : Ok P w K mg base 1 "_law_numbers" ["_law_script", "_law_many"] ((R__law_numbers K).sp mg)) (O__law_pair : Ok P w K mg base 2 "_law_pair" ["_law_d"] ((R__law_pair K).sp mg))
    (O_part : Ok P w K mg base 2 "part" ["top", "bottom"] (R_part.sp mg)) (O_plus : Ok P w K mg base 3 "plus" ["one", "other"] ((R_plus K).sp mg)) (O_minus : Ok P w K mg base 3 "minus" ["one", "other"] ((R_minus K).sp mg)) (O_less : Ok P w K mg base 4 "less" ["one", "other"] ((R_less K).sp mg))
    (O__law_lowest : Ok P w K mg base 2 "_law_lowest" ["_law_found", "_law_due"] ((R__law_lowest K).sp mg)) (O__law_same : ∀ n, Ok P w K mg base n "_law_same" ["_law_found", "_law_due"] ((R__law_same K n).sp mg)) (D : Df K mg "law" s_law ["_law_script"]) : Ok P w K mg base 5 "law" ["_law_script"] (spLaw K) := by
  have O__law_same := O__law_same 1
  refine D.ok sc_law (fun vs H Q E h => ?_) (fun f cdv A outer s H vs Q E hr h => ?_)
  · obtain ⟨a, ns, rfl, _⟩ := h
    rfl
  · obtain ⟨a, ns, rfl, hS, hl, k⟩ := h
    refine ⟨_, (pss_cons (ps_set (i := 1) sc_law.nd rfl (.inl rfl) (pe_callO O__law_numbers (hr.mono (by omega)) (by rfl) (takes_of rfl rfl rfl rfl) (pa_cons (pv 0) (pa_cons pe_int pa_nil))))
      (pss_cons (ps_set (i := 2) sc_law.nd rfl (.inl rfl) (pe_callO O__law_pair (hr.mono (by omega)) (by rfl) (takes_of rfl rfl rfl rfl) (pa_cons (pv 1) pa_nil)))
      (pss_cons (ps_set (i := 3) sc_law.nd rfl (.inl rfl) (pe_callO O__law_pair (hr.mono (by omega)) (by rfl) (takes_of rfl rfl rfl rfl) (pa_cons (pe_slice (sl_K K) (pv 1) (po_some pe_int) po_none) pa_nil)))
      (Evl.pss_cut (ps_if (pt_cmpR (op_eqK K (hu65 hr)) (pe_op op_mod (pe_ix (ix_seqK K) (pv 1) pe_int (fun _ _ => rfl)) pe_int) pe_int (nomark _))
        (pss_cons (ps_set (i := 4) sc_law.nd rfl (.inl rfl) (pe_op (op_addK K) pe_int (pe_op op_mod (pe_ix (ix_seqK K) (pv 1) pe_int (fun _ _ => rfl)) pe_int)))
        (pss_one (ps_set (i := 3) sc_law.nd rfl (.inl rfl) (pe_tup (pa_cons (pe_op op_mulU (pe_ix (ix_seqK K) (pv 2) pe_int (fun _ _ => rfl)) (pv 4)) (pa_cons (pe_op op_mulU (pe_ix (ix_seqK K) (pv 2) pe_int (fun _ _ => rfl)) (pv 4)) pa_nil))))))
        pss_nil)
      (pss_cons (ps_set (i := 5) sc_law.nd rfl (.inl rfl) (pe_tup (pa_cons (pe_op (op_addK K) (pe_op op_mulU (pe_ix (ix_seqK K) (pv 2) pe_int (fun _ _ => rfl)) (pe_ix (ix_seqK K) (pv 3) pe_int (fun _ _ => rfl))) (pe_op op_mulU (pe_ix (ix_seqK K) (pv 3) pe_int (fun _ _ => rfl)) (pe_ix (ix_seqK K) (pv 2) pe_int (fun _ _ => rfl)))) (pa_cons (pe_op op_mulU (pe_ix (ix_seqK K) (pv 2) pe_int (fun _ _ => rfl)) (pe_ix (ix_seqK K) (pv 3) pe_int (fun _ _ => rfl))) pa_nil))))
      (pss_cons (ps_set (i := 6) sc_law.nd rfl (.inl rfl) (pe_tup (pa_cons (pe_op op_sub (pe_op op_mulU (pe_ix (ix_seqK K) (pv 2) pe_int (fun _ _ => rfl)) (pe_ix (ix_seqK K) (pv 3) pe_int (fun _ _ => rfl))) (pe_op op_mulU (pe_ix (ix_seqK K) (pv 3) pe_int (fun _ _ => rfl)) (pe_ix (ix_seqK K) (pv 2) pe_int (fun _ _ => rfl)))) (pa_cons (pe_op op_mulU (pe_ix (ix_seqK K) (pv 2) pe_int (fun _ _ => rfl)) (pe_ix (ix_seqK K) (pv 3) pe_int (fun _ _ => rfl))) pa_nil))))
      (pss_cons (ps_if (PW.pt (pw_or (pt_not (pt_val (pe_callO O__law_lowest (hr.mono (by omega)) (by rfl) (takes_of rfl rfl rfl rfl) (pa_cons (pe_callO O_part (hr.mono (by omega)) (by rfl) (takes_of rfl rfl rfl rfl) (pa_cons (pe_ix (ix_seqK K) (pv 2) pe_int (fun _ _ => rfl)) (pa_cons (pe_ix (ix_seqK K) (pv 2) pe_int (fun _ _ => rfl)) pa_nil))) (pa_cons (pv 2) pa_nil))))) (pw_or1 (pt_not (pt_val (pe_callO O__law_lowest (hr.mono (by omega)) (by rfl) (takes_of rfl rfl rfl rfl) (pa_cons (pe_callO O_part (hr.mono (by omega)) (by rfl) (takes_of rfl rfl rfl rfl) (pa_cons (pe_ix (ix_seqK K) (pv 3) pe_int (fun _ _ => rfl)) (pa_cons (pe_ix (ix_seqK K) (pv 3) pe_int (fun _ _ => rfl)) pa_nil))) (pa_cons (pv 3) pa_nil))))))))
        (pss_one (ps_ret pe_bl))
        pss_nil)
      (pss_cons (ps_if (PW.pt (pw_or (pt_not (pt_val (pe_callO O__law_lowest (hr.mono (by omega)) (by rfl) (takes_of rfl rfl rfl rfl) (pa_cons (pe_callO O_plus (hr.mono (by omega)) (by rfl) (takes_of rfl rfl rfl rfl) (pa_cons (pv 2) (pa_cons (pv 3) pa_nil))) (pa_cons (pv 5) pa_nil))))) (pw_or1 (pt_not (pt_val (pe_callO O__law_lowest (hr.mono (by omega)) (by rfl) (takes_of rfl rfl rfl rfl) (pa_cons (pe_callO O_minus (hr.mono (by omega)) (by rfl) (takes_of rfl rfl rfl rfl) (pa_cons (pv 2) (pa_cons (pv 3) pa_nil))) (pa_cons (pv 6) pa_nil))))))))
        (pss_one (ps_ret pe_bl))
        pss_nil)
      (pss_cons (ps_if (PW.pt (pw_or (pt_cmpR (op_neK K (hu65 hr)) (pe_callO O_part (hr.mono (by omega)) (by rfl) (takes_of rfl rfl rfl rfl) (pa_cons pe_int (pa_cons (pe_ix (ix_seqK K) (pv 2) pe_int (fun _ _ => rfl)) pa_nil))) (pe_tup (pa_cons pe_int (pa_cons pe_int pa_nil))) (nomark _)) (pw_or1 (pt_cmpR (op_neK K (hu65 hr)) (pe_callO O_minus (hr.mono (by omega)) (by rfl) (takes_of rfl rfl rfl rfl) (pa_cons (pv 2) (pa_cons (pv 2) pa_nil))) (pe_tup (pa_cons pe_int (pa_cons pe_int pa_nil))) (nomark _)))))
        (pss_one (ps_ret pe_bl))
        pss_nil)
      (pss_cons (ps_set (i := 7) sc_law.nd rfl (.inl rfl) (pe_op op_mulU (pe_ix (ix_seqK K) (pv 6) pe_int (fun _ _ => rfl)) (pe_ix (ix_seqK K) (pv 6) pe_int (fun _ _ => rfl))))
      (pss_one (ps_ret (pe_and (pe_callO O__law_same (hr.mono (by omega)) (by rfl) (takes_of rfl rfl rfl rfl) (pa_cons (pe_callO O_less (hr.mono (by omega)) (by rfl) (takes_of rfl rfl rfl rfl) (pa_cons (pv 2) (pa_cons (pv 3) pa_nil))) (pa_cons (pe_cmpR op_lt (pv 7) pe_int (nomark _)) pa_nil))) (pe_one (pe_callO O__law_same (hr.mono (by omega)) (by rfl) (takes_of rfl rfl rfl rfl) (pa_cons (pe_callO O_less (hr.mono (by omega)) (by rfl) (takes_of rfl rfl rfl rfl) (pa_cons (pv 3) (pa_cons (pv 2) pa_nil))) (pa_cons (pe_cmpR op_gt (pv 7) pe_int (nomark _)) pa_nil))))))))))))))))), ?_⟩
    refine q_n (P := pNums 24) (Own.one H) (ep_call (by wtm_at "ev") ⟨a, ns, 24, rfl, hS, by decide, by decide, rfl⟩) fun v H1 N1 o hp => ?_
    obtain ⟨nb, ms, rfl, hb, hms, hall⟩ := hp
    have hB := sq_of (K := K) hb
    have a14 := atI_map (ns := ms) (j := 14) (by omega)
    have a15 := atI_map (ns := ms) (j := 15) (by omega)
    refine q_n (P := fun N v => ∃ a b, pTup [.int a, .int b] N v ∧ Bd 100 a ∧ Bd 100 b ∧ b ≠ 0) o (ep_call (by wtm_at "ev") ⟨nb, ms, rfl, ex_l o.e0 hB, by omega, rfl⟩) fun v H1 N2 o hp => ?_
    obtain ⟨x, y, ⟨p1, rfl, hp1⟩, hx, hy, hy0⟩ := hp
    refine q_n (P := fun N v => ∃ a b, pTup [.int a, .int b] N v ∧ Bd 100 a ∧ Bd 100 b ∧ b ≠ 0) o (ep_callN (eps_cons (ep_l (el_sl' (ev_var rfl) (eo_some ev_c) eo_none (ex_l o.e1 hB))) eps_nil) ?_) fun v H1 N3 o hp => ?_
    · intro vs H1 e al
      cases al with
      | cons h r =>
        cases r
        obtain ⟨N, hN, q, rfl, hq⟩ := h
        rw [show cutV (ms.map V.int) (some 7) none = (ms.drop 7).map V.int by rw [show cutV (ms.map V.int) (some 7) none = (ms.map V.int).drop 7 from cutV_drop 7, List.map_drop]] at hq
        exact ⟨q, ms.drop 7, rfl, sq_of (hN _ _ hq), by rw [List.length_drop]; omega, rfl⟩
    obtain ⟨u0, v0, ⟨p20, rfl, hp20⟩, hu0, hv0, hv00⟩ := hp
    -- the second pair, as it is in the end
    refine q_cut (M := fun σ H' => ∃ p2 u v y5 N4, σ = [some (.ref a), some (.ref nb), some (.ref p1), some (.ref p2), y5, none, none, none] ∧ Own [N4, N2, N1, H] H' ∧ N4 p2 = some (.tup [.int u, .int v]) ∧ Bd 110 u ∧ Bd 110 v ∧ v ≠ 0) ?_ ?_
    · refine s_wh o (by wtm_at "ev") (fun hb H1 o => ?_) (fun hb H1 o => ⟨p20, u0, v0, _, N3, rfl, o, hp20, hu0.up (by decide), hv0.up (by decide), hv00⟩)
      refine q_v o (by wtm_at "ev") fun H1 o => ?_
      have hby : Bd 4 (1 + ms[15] % 5) ∧ 1 + ms[15] % 5 ≠ 0 := by
        refine ⟨?_, by omega⟩
        unfold Bd
        show _ < 16
        omega
      generalize 1 + ms[15] % 5 = z at hby ⊢
      have h1 := st_of (K := K) (o.e1 _ _ hp1)
      refine s_n (P := pTup [.int (x * z), .int (y * z)]) o (ep_tup (ea_cons (ev_op (ev_op (ev_var rfl) ev_c (rv_ixTs h1 rfl)) (ev_var rfl) (rv_mulI (wide_mul hx hby.1 (by decide) (by decide) (by decide)))) (ea_cons (ev_op (ev_op (ev_var rfl) ev_c (rv_ixTs h1 rfl)) (ev_var rfl) (rv_mulI (wide_mul hy hby.1 (by decide) (by decide) (by decide)))) ea_nil))) fun v H1 N4 o hp => ?_
      obtain ⟨p2, rfl, hp2⟩ := hp
      exact ⟨p2, _, _, _, N4, rfl, ⟨o.1, fun M hM => o.2.1 M (List.mem_cons_of_mem _ hM), o.2.2.2.2⟩, hp2, (hx.times hby.1).up (by decide), (hy.times hby.1).up (by decide), Int.mul_ne_zero hy0 hby.2⟩
    rintro σ H2 ⟨p2, u, v, y5, N4, rfl, o, hp2, hu, hv, hv0⟩
    have hT : ∀ {H3 : Hp} {Ms : List Hp} {i j : Nat}, Own Ms H3 → Ms[i]? = some N2 → Ms[j]? = some N4 → SqT K H3 p1 [.int x, .int y] ∧ SqT K H3 p2 [.int u, .int v] := fun o h1 h2 => ⟨st_of (o.ix h1 _ _ hp1), st_of (o.ix h2 _ _ hp2)⟩
    have X : Bd 2000 x := hx.up (by decide)
    have Y : Bd 2000 y := hy.up (by decide)
    have U : Bd 2000 u := hu.up (by decide)
    have V' : Bd 2000 v := hv.up (by decide)
    have hyv : y * v ≠ 0 := Int.mul_ne_zero hy0 hv0
    have YV : Bd 2000 (y * v) := (hy.times hv).up (by decide)
    have XVU : Bd 2000 (x * v + u * y) := (((hx.times hv).up (m := 300) (by decide)).add ((hu.times hy).up (m := 300) (by decide))).up (by decide)
    have XVM : Bd 2000 (x * v - u * y) := (((hx.times hv).up (m := 300) (by decide)).sub ((hu.times hy).up (m := 300) (by decide))).up (by decide)
    -- added, taken
    have h1 := (hT o (i := 1) (j := 0) rfl rfl).1
    have h2 := (hT o (i := 1) (j := 0) rfl rfl).2
    have ixs : ∀ {H3 : Hp} {σ : L2.St}, SqT K H3 p1 [.int x, .int y] → SqT K H3 p2 [.int u, .int v] → σ[2]? = some (some (.ref p1)) → σ[3]? = some (some (.ref p2)) →
        Ev (tOp (rIx K) (tVar 2) (tC (.int 0))) σ H3 (.int x) ∧ Ev (tOp (rIx K) (tVar 2) (tC (.int 1))) σ H3 (.int y) ∧ Ev (tOp (rIx K) (tVar 3) (tC (.int 0))) σ H3 (.int u) ∧ Ev (tOp (rIx K) (tVar 3) (tC (.int 1))) σ H3 (.int v) :=
      fun h1 h2 e1 e2 => ⟨ev_op (ev_var e1) ev_c (rv_ixTs h1 rfl), ev_op (ev_var e1) ev_c (rv_ixTs h1 rfl), ev_op (ev_var e2) ev_c (rv_ixTs h2 rfl), ev_op (ev_var e2) ev_c (rv_ixTs h2 rfl)⟩
    obtain ⟨i0, i1, i2, i3⟩ := ixs h1 h2 (σ := [some (.ref a), some (.ref nb), some (.ref p1), some (.ref p2), y5, none, none, none]) rfl rfl
    refine q_n (P := pTup [.int (x * v + u * y), .int (y * v)]) o (ep_tup (ea_cons (ev_op (ev_op i0 i3 (rv_mulI (X.mul V'))) (ev_op i2 i1 (rv_mulI (U.mul Y))) rv_addI) (ea_cons (ev_op i1 i3 (rv_mulI (Y.mul V'))) ea_nil))) fun w1 H1 N5 o hp => ?_
    obtain ⟨p5, rfl, hp5⟩ := hp
    obtain ⟨h1, h2⟩ := hT o (i := 2) (j := 1) rfl rfl
    obtain ⟨i0, i1, i2, i3⟩ := ixs h1 h2 (σ := [some (.ref a), some (.ref nb), some (.ref p1), some (.ref p2), y5, some (.ref p5), none, none]) rfl rfl
    refine q_n (P := pTup [.int (x * v - u * y), .int (y * v)]) o (ep_tup (ea_cons (ev_op (ev_op i0 i3 (rv_mulI (X.mul V'))) (ev_op i2 i1 (rv_mulI (U.mul Y))) rv_I0) (ea_cons (ev_op i1 i3 (rv_mulI (Y.mul V'))) ea_nil))) fun w2 H1 N6 o hp => ?_
    obtain ⟨p6, rfl, hp6⟩ := hp
    have hT6 : ∀ {H3}, Own [N6, N5, N4, N2, N1, H] H3 → SqT K H3 p1 [.int x, .int y] ∧ SqT K H3 p2 [.int u, .int v] ∧ SqT K H3 p5 [.int (x * v + u * y), .int (y * v)] ∧ SqT K H3 p6 [.int (x * v - u * y), .int (y * v)] :=
      fun o => ⟨(hT o (i := 3) (j := 2) rfl rfl).1, (hT o (i := 3) (j := 2) rfl rfl).2, st_of (o.e1 _ _ hp5), st_of (o.e0 _ _ hp6)⟩
    have B9 : ∀ {i : Int}, Bd 2000 i → Bd 9000 i := fun h => h.up (by decide)
    -- part of each
    obtain ⟨h1, h2, h5, h6⟩ := hT6 o
    obtain ⟨i0, i1, i2, i3⟩ := ixs h1 h2 (σ := [some (.ref a), some (.ref nb), some (.ref p1), some (.ref p2), y5, some (.ref p5), some (.ref p6), none]) rfl rfl
    refine q_wh (b := false) o (et_or (et_not (et_B (ev_low hy0 X Y (ep_call (S := R_part) (ea_cons i0 (ea_cons i1 ea_nil)) ⟨x, y, rfl, B9 Y, (partR_ok hy0).symm⟩) (ev_var rfl) h1))) fun _ => et_not (et_B (ev_low hv0 U V' (ep_call (S := R_part) (ea_cons i2 (ea_cons i3 ea_nil)) ⟨u, v, rfl, B9 V', (partR_ok hv0).symm⟩) (ev_var rfl) h2))) (fun h => nomatch h) (fun _ H1 o => ?_)
    obtain ⟨h1, h2, h5, h6⟩ := hT6 o
    have S4 : Small4 x y u v := ⟨X, Y, U, V'⟩
    refine q_wh (b := false) o (et_or (et_not (et_B (ev_low hyv XVU YV (ep_call (S := R_plus K) (vs := [.ref p1, .ref p2]) (by wtm_at "ev") ⟨x, y, u, v, ⟨p1, p2, rfl, h1, h2⟩, S4, (partR_ok hyv).symm⟩) (ev_var rfl) h5))) fun _ => et_not (et_B (ev_low hyv XVM YV (ep_call (S := R_minus K) (vs := [.ref p1, .ref p2]) (by wtm_at "ev") ⟨x, y, u, v, ⟨p1, p2, rfl, h1, h2⟩, S4, (partR_ok hyv).symm⟩) (ev_var rfl) h6))) (fun h => nomatch h) (fun _ H1 o => ?_)
    obtain ⟨h1, h2, h5, h6⟩ := hT6 o
    -- nought
    have zero : ∀ {te : TE} {σ : L2.St}, EvP te σ H1 (pPart (0, 1)) → EvT (tTest (tOp (rNeU K) te (tTup (tCons (tC (.int 0)) (tCons (tC (.int 1)) tNil))))) σ H1 false := fun h => et_test (ev_opN h (ep_tup (ea_cons ev_c (ea_cons ev_c ea_nil))) fun v1 v2 N1 N2 H2 _ j1 j2 ⟨q1, e1, g1⟩ ⟨q2, e2, g2⟩ => by
      subst e1 e2
      have z := rv_neD (K := K) (H := H2) (Dp.tup (st_of (j1 _ _ g1)) (.cons (.int 0) (.cons (.int 1) .nil))) (Dp.tup (st_of (j2 _ _ g2)) (.cons (.int 0) (.cons (.int 1) .nil))) (by decide) (by decide)
      rw [eqv_01] at z
      exact z)
    refine q_wh (b := false) o (et_or (zero (ep_imp (P := pPart (partM 0 y)) (ep_call (S := R_part) (vs := [.int 0, .int y]) (ea_cons ev_c (ea_cons (ixs h1 h2 rfl rfl).2.1 ea_nil)) ⟨0, y, rfl, B9 Y, (partR_ok hy0).symm⟩) fun N v h => by rw [partM_zero hy0] at h; exact h)) fun _ => zero (ep_imp (P := pPart (partM (x * y - x * y) (y * y))) (ep_call (S := R_minus K) (vs := [.ref p1, .ref p1]) (by wtm_at "ev") ⟨x, y, x, y, ⟨p1, p1, rfl, h1, h1⟩, ⟨X, Y, X, Y⟩, (partR_ok (Int.mul_ne_zero hy0 hy0)).symm⟩) fun N v h => by
      rw [show x * y - x * y = 0 by omega, partM_zero (Int.mul_ne_zero hy0 hy0)] at h; exact h)) (fun h => nomatch h) (fun _ H1 o => ?_)
    obtain ⟨h1, h2, h5, h6⟩ := hT6 o
    refine q_v o (ev_op (ev_op (ev_var rfl) ev_c (rv_ixTs h6 rfl)) (ev_op (ev_var rfl) ev_c (rv_ixTs h6 rfl)) (rv_mulI (XVM.mul YV))) fun H1 o => ?_
    obtain ⟨h1, h2, h5, h6⟩ := hT6 o
    have e1 : lessR x y u v = .ok (is (.bl (decide ((x * v - u * y) * (y * v) < 0)))) := by
      unfold lessR
      rw [if_neg hyv, partM_sign hyv]
    have e2 : lessR u v x y = .ok (is (.bl (decide (0 < (x * v - u * y) * (y * v))))) := by
      have hvy : v * y ≠ 0 := Int.mul_ne_zero hv0 hy0
      unfold lessR
      rw [if_neg hvy, partM_sign hvy, show (u * y - x * v) * (v * y) = -((x * v - u * y) * (y * v)) by rw [Int.mul_comm v y, ← Int.neg_mul]; congr 1; omega]
      congr 4
      simp
    have sameB : ∀ (b : Bool) {H3 : Hp}, (R__law_same K 1).R [.bl b, .bl b] H3 (.ok (is (.bl true))) := fun b {_} => ⟨_, _, .bool b, rfl, .bl b, .bl b, by simp [smD], by simp [PyData.depth], rfl⟩
    exact s_rv o (v := .bl true) (ev_is (ev_andV (ev_callO (S := R__law_same K 1) (ea_cons (ev_callO (S := R_less K) (vs := [.ref p1, .ref p2]) (by wtm_at "ev") ⟨x, y, u, v, ⟨p1, p2, rfl, h1, h2⟩, S4, e1.symm⟩) (ea_cons (ev_op (ev_var rfl) ev_c rv_I0) ea_nil)) (sameB _)) fun _ => ev_callO (S := R__law_same K 1) (ea_cons (ev_callO (S := R_less K) (vs := [.ref p2, .ref p1]) (by wtm_at "ev") ⟨u, v, x, y, ⟨p2, p1, rfl, h2, h1⟩, ⟨U, V', X, Y⟩, e2.symm⟩) (ea_cons (ev_op (ev_var rfl) ev_c rv_I0) ea_nil)) (sameB _)) rfl) fun H1 _ => k H1
end
theorem all_mk {l : PySem.W.OpenLaw} {w : World} {K : PySem.W.Frag} {h : Heap} {mg : Str → Option Value} {fa : Addr} (X : K.In h) (G : h.Ns mainGlobals mg) (hfa : mg "law" = some (.ref fa))
    {C_NoPart : Addr}
    {f_measure : Addr} {od_measure an_measure : Option Addr} {sl_measure : Array (Option Value)} {oc_measure kV_measure dc_measure pm_measure cd_measure ct_measure : Value}
    {f_part : Addr} {od_part an_part : Option Addr} {sl_part : Array (Option Value)} {oc_part kV_part dc_part pm_part cd_part ct_part : Value}
    {f_plus : Addr} {od_plus an_plus : Option Addr} {sl_plus : Array (Option Value)} {oc_plus kV_plus dc_plus pm_plus cd_plus ct_plus : Value}
    {f_minus : Addr} {od_minus an_minus : Option Addr} {sl_minus : Array (Option Value)} {oc_minus kV_minus dc_minus pm_minus cd_minus ct_minus : Value}
    {f_less : Addr} {od_less an_less : Option Addr} {sl_less : Array (Option Value)} {oc_less kV_less dc_less pm_less cd_less ct_less : Value}
    {f__law_numbers : Addr} {od__law_numbers an__law_numbers : Option Addr} {sl__law_numbers : Array (Option Value)} {oc__law_numbers kV__law_numbers dc__law_numbers pm__law_numbers cd__law_numbers ct__law_numbers : Value}
    {f__law_great : Addr} {od__law_great an__law_great : Option Addr} {sl__law_great : Array (Option Value)} {oc__law_great kV__law_great dc__law_great pm__law_great cd__law_great ct__law_great : Value}
    {f__law_pair : Addr} {od__law_pair an__law_pair : Option Addr} {sl__law_pair : Array (Option Value)} {oc__law_pair kV__law_pair dc__law_pair pm__law_pair cd__law_pair ct__law_pair : Value}
    {f__law_same : Addr} {od__law_same an__law_same : Option Addr} {sl__law_same : Array (Option Value)} {oc__law_same kV__law_same dc__law_same pm__law_same cd__law_same ct__law_same : Value}
    {f__law_measure : Addr} {od__law_measure an__law_measure : Option Addr} {sl__law_measure : Array (Option Value)} {oc__law_measure kV__law_measure dc__law_measure pm__law_measure cd__law_measure ct__law_measure : Value}
    {f__law_lowest : Addr} {od__law_lowest an__law_lowest : Option Addr} {sl__law_lowest : Array (Option Value)} {oc__law_lowest kV__law_lowest dc__law_lowest pm__law_lowest cd__law_lowest ct__law_lowest : Value}
    {f_law : Addr} {od_law an_law : Option Addr} {sl_law : Array (Option Value)} {oc_law kV_law dc_law pm_law cd_law ct_law : Value}
    (z_abs : PySem.W.nsIn K mainGlobals "abs" = some none)
    (z_all : PySem.W.nsIn K mainGlobals "all" = some none)
    (z_any : PySem.W.nsIn K mainGlobals "any" = some none)
    (z_dict : PySem.W.nsIn K mainGlobals "dict" = some none)
    (z_enumerate : PySem.W.nsIn K mainGlobals "enumerate" = some none)
    (z_int : PySem.W.nsIn K mainGlobals "int" = some none)
    (z_isinstance : PySem.W.nsIn K mainGlobals "isinstance" = some none)
    (z_len : PySem.W.nsIn K mainGlobals "len" = some none)
    (z_list : PySem.W.nsIn K mainGlobals "list" = some none)
    (z_max : PySem.W.nsIn K mainGlobals "max" = some none)
    (z_min : PySem.W.nsIn K mainGlobals "min" = some none)
    (z_range : PySem.W.nsIn K mainGlobals "range" = some none)
    (z_sorted : PySem.W.nsIn K mainGlobals "sorted" = some none)
    (z_str : PySem.W.nsIn K mainGlobals "str" = some none)
    (z_sum : PySem.W.nsIn K mainGlobals "sum" = some none)
    (z_tuple : PySem.W.nsIn K mainGlobals "tuple" = some none)
    (z_zip : PySem.W.nsIn K mainGlobals "zip" = some none)
    (z_bool : PySem.W.nsIn K mainGlobals "bool" = some none)
    (z_set : PySem.W.nsIn K mainGlobals "set" = some none)
    (g_NoPart : PySem.W.nsIn K mainGlobals "NoPart" = some (some (.ref C_NoPart)))
    (xi_NoPart : PySem.W.excIn K C_NoPart [.type "ValueError", .type "Exception", .type "BaseException", .type "object"] "ValueError.__new__" = true)
    (kp_NoPart : PySem.W.keepIn K (.ref C_NoPart) = true)
    (sb_NoPart : PySem.W.subIn K (.ref C_NoPart) (.type "BaseException") = some true)
    (ty_NoPart : PySem.W.typeIn K (.ref C_NoPart) = some (.type "type"))
    (ic_NoPart : PySem.W.isClsIn K C_NoPart = true)
    (a_measure : PySem.W.nsIn K mainGlobals "measure" = some (some (.ref f_measure)))
    (l_measure : K.lookup f_measure = some ⟨oc_measure, od_measure, .func (PySem.W.fnOf "measure" "measure" (defArgs s_measure) (defBody s_measure) (defScope s_measure) .none kV_measure dc_measure pm_measure an_measure cd_measure ct_measure), sl_measure⟩)
    (c_measure : PySem.W.codeIn K cd_measure "measure" = true)
    (k_measure : PySem.W.keepIn K (.ref f_measure) = true)
    (a_part : PySem.W.nsIn K mainGlobals "part" = some (some (.ref f_part)))
    (l_part : K.lookup f_part = some ⟨oc_part, od_part, .func (PySem.W.fnOf "part" "part" (defArgs s_part) (defBody s_part) (defScope s_part) .none kV_part dc_part pm_part an_part cd_part ct_part), sl_part⟩)
    (c_part : PySem.W.codeIn K cd_part "part" = true)
    (k_part : PySem.W.keepIn K (.ref f_part) = true)
    (a_plus : PySem.W.nsIn K mainGlobals "plus" = some (some (.ref f_plus)))
    (l_plus : K.lookup f_plus = some ⟨oc_plus, od_plus, .func (PySem.W.fnOf "plus" "plus" (defArgs s_plus) (defBody s_plus) (defScope s_plus) .none kV_plus dc_plus pm_plus an_plus cd_plus ct_plus), sl_plus⟩)
    (c_plus : PySem.W.codeIn K cd_plus "plus" = true)
    (k_plus : PySem.W.keepIn K (.ref f_plus) = true)
    (a_minus : PySem.W.nsIn K mainGlobals "minus" = some (some (.ref f_minus)))
    (l_minus : K.lookup f_minus = some ⟨oc_minus, od_minus, .func (PySem.W.fnOf "minus" "minus" (defArgs s_minus) (defBody s_minus) (defScope s_minus) .none kV_minus dc_minus pm_minus an_minus cd_minus ct_minus), sl_minus⟩)
    (c_minus : PySem.W.codeIn K cd_minus "minus" = true)
    (k_minus : PySem.W.keepIn K (.ref f_minus) = true)
    (a_less : PySem.W.nsIn K mainGlobals "less" = some (some (.ref f_less)))
    (l_less : K.lookup f_less = some ⟨oc_less, od_less, .func (PySem.W.fnOf "less" "less" (defArgs s_less) (defBody s_less) (defScope s_less) .none kV_less dc_less pm_less an_less cd_less ct_less), sl_less⟩)
    (c_less : PySem.W.codeIn K cd_less "less" = true)
    (k_less : PySem.W.keepIn K (.ref f_less) = true)
    (a__law_numbers : PySem.W.nsIn K mainGlobals "_law_numbers" = some (some (.ref f__law_numbers)))
    (l__law_numbers : K.lookup f__law_numbers = some ⟨oc__law_numbers, od__law_numbers, .func (PySem.W.fnOf "_law_numbers" "_law_numbers" (defArgs s__law_numbers) (defBody s__law_numbers) (defScope s__law_numbers) .none kV__law_numbers dc__law_numbers pm__law_numbers an__law_numbers cd__law_numbers ct__law_numbers), sl__law_numbers⟩)
    (c__law_numbers : PySem.W.codeIn K cd__law_numbers "_law_numbers" = true)
    (k__law_numbers : PySem.W.keepIn K (.ref f__law_numbers) = true)
    (a__law_great : PySem.W.nsIn K mainGlobals "_law_great" = some (some (.ref f__law_great)))
    (l__law_great : K.lookup f__law_great = some ⟨oc__law_great, od__law_great, .func (PySem.W.fnOf "_law_great" "_law_great" (defArgs s__law_great) (defBody s__law_great) (defScope s__law_great) .none kV__law_great dc__law_great pm__law_great an__law_great cd__law_great ct__law_great), sl__law_great⟩)
    (c__law_great : PySem.W.codeIn K cd__law_great "_law_great" = true)
    (k__law_great : PySem.W.keepIn K (.ref f__law_great) = true)
    (a__law_pair : PySem.W.nsIn K mainGlobals "_law_pair" = some (some (.ref f__law_pair)))
    (l__law_pair : K.lookup f__law_pair = some ⟨oc__law_pair, od__law_pair, .func (PySem.W.fnOf "_law_pair" "_law_pair" (defArgs s__law_pair) (defBody s__law_pair) (defScope s__law_pair) .none kV__law_pair dc__law_pair pm__law_pair an__law_pair cd__law_pair ct__law_pair), sl__law_pair⟩)
    (c__law_pair : PySem.W.codeIn K cd__law_pair "_law_pair" = true)
    (k__law_pair : PySem.W.keepIn K (.ref f__law_pair) = true)
    (a__law_same : PySem.W.nsIn K mainGlobals "_law_same" = some (some (.ref f__law_same)))
    (l__law_same : K.lookup f__law_same = some ⟨oc__law_same, od__law_same, .func (PySem.W.fnOf "_law_same" "_law_same" (defArgs s__law_same) (defBody s__law_same) (defScope s__law_same) .none kV__law_same dc__law_same pm__law_same an__law_same cd__law_same ct__law_same), sl__law_same⟩)
    (c__law_same : PySem.W.codeIn K cd__law_same "_law_same" = true)
    (k__law_same : PySem.W.keepIn K (.ref f__law_same) = true)
    (a__law_measure : PySem.W.nsIn K mainGlobals "_law_measure" = some (some (.ref f__law_measure)))
    (l__law_measure : K.lookup f__law_measure = some ⟨oc__law_measure, od__law_measure, .func (PySem.W.fnOf "_law_measure" "_law_measure" (defArgs s__law_measure) (defBody s__law_measure) (defScope s__law_measure) .none kV__law_measure dc__law_measure pm__law_measure an__law_measure cd__law_measure ct__law_measure), sl__law_measure⟩)
    (c__law_measure : PySem.W.codeIn K cd__law_measure "_law_measure" = true)
    (k__law_measure : PySem.W.keepIn K (.ref f__law_measure) = true)
    (a__law_lowest : PySem.W.nsIn K mainGlobals "_law_lowest" = some (some (.ref f__law_lowest)))
    (l__law_lowest : K.lookup f__law_lowest = some ⟨oc__law_lowest, od__law_lowest, .func (PySem.W.fnOf "_law_lowest" "_law_lowest" (defArgs s__law_lowest) (defBody s__law_lowest) (defScope s__law_lowest) .none kV__law_lowest dc__law_lowest pm__law_lowest an__law_lowest cd__law_lowest ct__law_lowest), sl__law_lowest⟩)
    (c__law_lowest : PySem.W.codeIn K cd__law_lowest "_law_lowest" = true)
    (k__law_lowest : PySem.W.keepIn K (.ref f__law_lowest) = true)
    (a_law : PySem.W.nsIn K mainGlobals "law" = some (some (.ref f_law)))
    (l_law : K.lookup f_law = some ⟨oc_law, od_law, .func (PySem.W.fnOf "law" "law" (defArgs s_law) (defBody s_law) (defScope s_law) .none kV_law dc_law pm_law an_law cd_law ct_law), sl_law⟩)
    (c_law : PySem.W.codeIn K cd_law "law" = true)
    (k_law : PySem.W.keepIn K (.ref f_law) = true)
    : ∃ fd : FuncData, (∀ (s : Shared) (v : Value), BindsTo s fd ⟨[v], []⟩ [("_law_script", v)]) ∧ ∀ base : Heap, K.In base → base.Ns mainGlobals mg → FnOk l.prog w K mg base (L2.CX l.prog w) 5 fa fd ["_law_script"] (spLaw K) := by
  have B : Bt mg := ⟨PySem.W.mg_none_of X G z_abs, PySem.W.mg_none_of X G z_all, PySem.W.mg_none_of X G z_any, PySem.W.mg_none_of X G z_dict, PySem.W.mg_none_of X G z_enumerate, PySem.W.mg_none_of X G z_int, PySem.W.mg_none_of X G z_isinstance, PySem.W.mg_none_of X G z_len, PySem.W.mg_none_of X G z_list, PySem.W.mg_none_of X G z_max, PySem.W.mg_none_of X G z_min, PySem.W.mg_none_of X G z_range, PySem.W.mg_none_of X G z_sorted, PySem.W.mg_none_of X G z_str, PySem.W.mg_none_of X G z_sum, PySem.W.mg_none_of X G z_tuple, PySem.W.mg_none_of X G z_zip, PySem.W.mg_none_of X G z_bool, PySem.W.mg_none_of X G z_set⟩
  have X_NoPart : Xc K mg "NoPart" C_NoPart := ⟨PySem.W.mg_of X G g_NoPart, xi_NoPart, kp_NoPart, sb_NoPart, ty_NoPart⟩
  have D_measure : Df K mg "measure" s_measure ["one", "other"] := ⟨f_measure, _, PySem.W.mg_of X G a_measure, fun_mk l_measure c_measure k_measure, (fun_mk l_measure c_measure k_measure).binds fun _ _ _ _ _ _ us hl => match us, hl with | [_, _], _ => rfl⟩
  have D_part : Df K mg "part" s_part ["top", "bottom"] := ⟨f_part, _, PySem.W.mg_of X G a_part, fun_mk l_part c_part k_part, (fun_mk l_part c_part k_part).binds fun _ _ _ _ _ _ us hl => match us, hl with | [_, _], _ => rfl⟩
  have D_plus : Df K mg "plus" s_plus ["one", "other"] := ⟨f_plus, _, PySem.W.mg_of X G a_plus, fun_mk l_plus c_plus k_plus, (fun_mk l_plus c_plus k_plus).binds fun _ _ _ _ _ _ us hl => match us, hl with | [_, _], _ => rfl⟩
  have D_minus : Df K mg "minus" s_minus ["one", "other"] := ⟨f_minus, _, PySem.W.mg_of X G a_minus, fun_mk l_minus c_minus k_minus, (fun_mk l_minus c_minus k_minus).binds fun _ _ _ _ _ _ us hl => match us, hl with | [_, _], _ => rfl⟩
  have D_less : Df K mg "less" s_less ["one", "other"] := ⟨f_less, _, PySem.W.mg_of X G a_less, fun_mk l_less c_less k_less, (fun_mk l_less c_less k_less).binds fun _ _ _ _ _ _ us hl => match us, hl with | [_, _], _ => rfl⟩
  have D__law_numbers : Df K mg "_law_numbers" s__law_numbers ["_law_script", "_law_many"] := ⟨f__law_numbers, _, PySem.W.mg_of X G a__law_numbers, fun_mk l__law_numbers c__law_numbers k__law_numbers, (fun_mk l__law_numbers c__law_numbers k__law_numbers).binds fun _ _ _ _ _ _ us hl => match us, hl with | [_, _], _ => rfl⟩
  have D__law_great : Df K mg "_law_great" s__law_great ["_law_d"] := ⟨f__law_great, _, PySem.W.mg_of X G a__law_great, fun_mk l__law_great c__law_great k__law_great, (fun_mk l__law_great c__law_great k__law_great).binds fun _ _ _ _ _ _ us hl => match us, hl with | [_], _ => rfl⟩
  have D__law_pair : Df K mg "_law_pair" s__law_pair ["_law_d"] := ⟨f__law_pair, _, PySem.W.mg_of X G a__law_pair, fun_mk l__law_pair c__law_pair k__law_pair, (fun_mk l__law_pair c__law_pair k__law_pair).binds fun _ _ _ _ _ _ us hl => match us, hl with | [_], _ => rfl⟩
  have D__law_same : Df K mg "_law_same" s__law_same ["_law_found", "_law_due"] := ⟨f__law_same, _, PySem.W.mg_of X G a__law_same, fun_mk l__law_same c__law_same k__law_same, (fun_mk l__law_same c__law_same k__law_same).binds fun _ _ _ _ _ _ us hl => match us, hl with | [_, _], _ => rfl⟩
  have D__law_measure : Df K mg "_law_measure" s__law_measure ["_law_one", "_law_other"] := ⟨f__law_measure, _, PySem.W.mg_of X G a__law_measure, fun_mk l__law_measure c__law_measure k__law_measure, (fun_mk l__law_measure c__law_measure k__law_measure).binds fun _ _ _ _ _ _ us hl => match us, hl with | [_, _], _ => rfl⟩
  have D__law_lowest : Df K mg "_law_lowest" s__law_lowest ["_law_found", "_law_due"] := ⟨f__law_lowest, _, PySem.W.mg_of X G a__law_lowest, fun_mk l__law_lowest c__law_lowest k__law_lowest, (fun_mk l__law_lowest c__law_lowest k__law_lowest).binds fun _ _ _ _ _ _ us hl => match us, hl with | [_, _], _ => rfl⟩
  have D_law : Df K mg "law" s_law ["_law_script"] := ⟨f_law, _, PySem.W.mg_of X G a_law, fun_mk l_law c_law k_law, (fun_mk l_law c_law k_law).binds fun _ _ _ _ _ _ us hl => match us, hl with | [_], _ => rfl⟩
  have e := hfa.symm.trans (PySem.W.mg_of X G a_law)
  cases e
  refine ⟨PySem.W.fnOf "law" "law" (defArgs s_law) (defBody s_law) (defScope s_law) .none kV_law dc_law pm_law an_law cd_law ct_law, fun s v => .of_eq rfl, fun base _ _ => ?_⟩
  have O_measure := ok_measure (P := l.prog) (w := w) (base := base) B D_measure
  have O_part := ok_part (P := l.prog) (w := w) (base := base) B X_NoPart O_measure D_part
  have O_plus := ok_plus (P := l.prog) (w := w) (base := base) B O_part D_plus
  have O_minus := ok_minus (P := l.prog) (w := w) (base := base) B O_part D_minus
  have O_less := ok_less (P := l.prog) (w := w) (base := base) B O_minus D_less
  have O__law_numbers := ok__law_numbers (P := l.prog) (w := w) (base := base) B D__law_numbers
  have O__law_great := ok__law_great (P := l.prog) (w := w) (base := base) B D__law_great
  have O__law_pair := ok__law_pair (P := l.prog) (w := w) (base := base) B O__law_great D__law_pair
  have O__law_same := ok__law_same (P := l.prog) (w := w) (base := base) B D__law_same
  have O__law_measure := ok__law_measure (P := l.prog) (w := w) (base := base) B D__law_measure
  have O__law_lowest := ok__law_lowest (P := l.prog) (w := w) (base := base) B O__law_measure D__law_lowest
  have O_law := ok_law (P := l.prog) (w := w) (base := base) B O__law_numbers O__law_pair O_part O_plus O_minus O_less O__law_lowest O__law_same D_law
  exact Ok.fn O_law (PySem.W.mg_of X G a_law) (fun_mk l_law c_law k_law)
end Kj
open PySem PySem.W PyProof.Rows
set_option maxHeartbeats 0 in
theorem PySem.Challenge.cw_kimariji_k01_parts_reckoned_holds : PySem.Challenge.rw_kimariji_k01_parts_reckoned.Holds := by
  w_on; o_law; k_head; (case hw => w_witness2)
  k_fill
  refine L2.walk_of (l := PySem.Challenge.rw_kimariji_k01_parts_reckoned) (n := 63) (k := 5) (x := "_law_script") (CX := fun w => L2.CX PySem.Challenge.rw_kimariji_k01_parts_reckoned.prog w) (sp := fun w => Kj.spLaw _) rfl (by decide) rfl ⟨rfl, by decide, by decide⟩ (fun w h Y => PySem.W.kIn_of Y) ?F (fun _ _ a ns hl _ hS => ⟨a, ns, rfl, hS, hl, fun _ => rfl⟩) (fun _ _ _ _ _ h => Kj.cx_none h)
  case F =>
    intro w mg fa h KX G hmg
    refine' Kj.all_mk KX G hmg ?z_abs ?z_all ?z_any ?z_dict ?z_enumerate ?z_int ?z_isinstance ?z_len ?z_list ?z_max ?z_min ?z_range ?z_sorted ?z_str ?z_sum ?z_tuple ?z_zip ?z_bool ?z_set ?g_NoPart ?xi_NoPart ?kp_NoPart ?sb_NoPart ?ty_NoPart ?ic_NoPart ?a_measure ?l_measure ?c_measure ?k_measure ?a_part ?l_part ?c_part ?k_part ?a_plus ?l_plus ?c_plus ?k_plus ?a_minus ?l_minus ?c_minus ?k_minus ?a_less ?l_less ?c_less ?k_less ?a__law_numbers ?l__law_numbers ?c__law_numbers ?k__law_numbers ?a__law_great ?l__law_great ?c__law_great ?k__law_great ?a__law_pair ?l__law_pair ?c__law_pair ?k__law_pair ?a__law_same ?l__law_same ?c__law_same ?k__law_same ?a__law_measure ?l__law_measure ?c__law_measure ?k__law_measure ?a__law_lowest ?l__law_lowest ?c__law_lowest ?k__law_lowest ?a_law ?l_law ?c_law ?k_law
    (case z_abs => k_is)
    (case z_all => k_is)
    (case z_any => k_is)
    (case z_dict => k_is)
    (case z_enumerate => k_is)
    (case z_int => k_is)
    (case z_isinstance => k_is)
    (case z_len => k_is)
    (case z_list => k_is)
    (case z_max => k_is)
    (case z_min => k_is)
    (case z_range => k_is)
    (case z_sorted => k_is)
    (case z_str => k_is)
    (case z_sum => k_is)
    (case z_tuple => k_is)
    (case z_zip => k_is)
    (case z_bool => k_is)
    (case z_set => k_is)
    (case g_NoPart => k_is)
    (case xi_NoPart => k_exc)
    (case kp_NoPart => k_is)
    (case sb_NoPart => k_is)
    (case ty_NoPart => k_is)
    (case ic_NoPart => k_is)
    (case a_measure => k_is)
    (case l_measure => k_is)
    (case c_measure => k_is)
    (case k_measure => k_is)
    (case a_part => k_is)
    (case l_part => k_is)
    (case c_part => k_is)
    (case k_part => k_is)
    (case a_plus => k_is)
    (case l_plus => k_is)
    (case c_plus => k_is)
    (case k_plus => k_is)
    (case a_minus => k_is)
    (case l_minus => k_is)
    (case c_minus => k_is)
    (case k_minus => k_is)
    (case a_less => k_is)
    (case l_less => k_is)
    (case c_less => k_is)
    (case k_less => k_is)
    (case a__law_numbers => k_is)
    (case l__law_numbers => k_is)
    (case c__law_numbers => k_is)
    (case k__law_numbers => k_is)
    (case a__law_great => k_is)
    (case l__law_great => k_is)
    (case c__law_great => k_is)
    (case k__law_great => k_is)
    (case a__law_pair => k_is)
    (case l__law_pair => k_is)
    (case c__law_pair => k_is)
    (case k__law_pair => k_is)
    (case a__law_same => k_is)
    (case l__law_same => k_is)
    (case c__law_same => k_is)
    (case k__law_same => k_is)
    (case a__law_measure => k_is)
    (case l__law_measure => k_is)
    (case c__law_measure => k_is)
    (case k__law_measure => k_is)
    (case a__law_lowest => k_is)
    (case l__law_lowest => k_is)
    (case c__law_lowest => k_is)
    (case k__law_lowest => k_is)
    (case a_law => k_is)
    (case l_law => k_is)
    (case c_law => k_is)
    (case k_law => k_is)
#print axioms PySem.Challenge.cw_kimariji_k01_parts_reckoned_holds
