import PyProof.Rows.All
import Wide.All
import OpenK.AllK
import Wide.FinOn
import PySem.Challenge.RW_kimariji_k36_chances_by_rivals
import HandS.ForMost
import HandS.ForExc
import HandS.Evl
import HandS.Wide
import HandS.IsInst
import HandS.TryMany
import HandS.TryOnly
import HandS.SortInts
import HandS.Deep
import HandS.RaiseMore
import HandS.Conv
import HandS.Zip
import HandS.ExcInit
import HandS.ExcField
import HandS.TupAny
import HandS.Style
import HandS.SortKw
import KE.DatumOrd
import KE.KDictZip
import KE.KItemsList
import HandS.ListItems
import HandS.SetFor
set_option Elab.async false
set_option linter.all false
set_option maxRecDepth 100000
set_option maxHeartbeats 2000000
/-! Kj0: one rule a construct, whatever the kinds of its values; defs, methods and classes by their promises alone. -/
namespace Kj
open PySem PySem.Spec PyProof.Rows L2 Evl
/-! ### operators, whatever the kinds -/
section
variable {X : Cx}
def rAddS : R2 := fun x y H Q => ∃ i j, x = .str i ∧ y = .str j ∧ i.length + j.length ≤ sizeLine ∧ Q (.str (i ++ j)) H
def rAddU (K : PySem.W.Frag) : R2 := fun x y H Q => (rI0 (fun i j => .int (i + j)) x y H Q ∨ rAddS x y H Q) ∨ (rCat x y H Q ∨ rCatT K x y H Q)
theorem op_addU : OpR X (binaryOp .Add) (rAddU X.K) := (OpR.or op_add op_add_str).or (OpR.or op_cat op_catT)
def rMulS : R2 := fun x y H Q => ∃ a n, x = .str a ∧ y = .int n ∧ MulOk a n ∧ Q (.str (Txt.mul a n)) H
theorem op_mulS : OpR X (binaryOp .Mult) rMulS := by
  intro pins s σ H x y v u Q I rx ry h
  obtain ⟨a, n, rfl, rfl, hc, q⟩ := h
  obtain ⟨t, rfl⟩ := rx
  obtain ⟨t', rfl⟩ := ry
  exact SB.mul hc fun t' k => ⟨.str (Txt.mul a n), H, I.tok _, ⟨_, rfl⟩, q⟩
def rMulU : R2 := fun x y H Q => (rI CMulW (fun i j => .int (i * j)) x y H Q ∨ rRep x y H Q) ∨ rMulS x y H Q
theorem op_mulU : OpR X (binaryOp .Mult) rMulU := (OpR.or op_mulW op_rep).or op_mulS
def rIntS : List V → Hp → VK → Prop := fun xs H Q => ∃ a n, xs = [.str a] ∧ PySem.intText? a = some n ∧ a.length ≤ 640 ∧ Q (.int n) H
theorem call_intU : CallR X (.type "int") rIntS := call_int_str
/-- // by a divisor that is not 0 and below 2 ^ 9000, on either side of it -/
def CDivZ (_ j : Int) : Prop := j ≠ 0 ∧ j.natAbs.log2 < 9000
theorem op_fdivZ : OpR X (binaryOp .FloorDiv) (rI CDivZ fun i j => .int (i.fdiv j)) := opI fun i j _ _ _ _ _ hc q => floordiv_int hc.1 q (.inl (PyProof.noPylong_of_log2 hc.2))
def rEqU (K : PySem.W.Frag) : R2 := fun x y H Q => rEq x y H Q ∨ rEqD K x y H Q
def rNeU (K : PySem.W.Frag) : R2 := fun x y H Q => rNe x y H Q ∨ rNeD K x y H Q
theorem op_eqU (hu : X.A.units + 65 < cLine) : OpR X (compareOp .Eq) (rEqU X.K) := OpR.or op_eq (op_eqD (by omega))
theorem op_neU (hu : X.A.units + 65 < cLine) : OpR X (compareOp .NotEq) (rNeU X.K) := OpR.or op_ne (op_neD (by omega))
def rSign : R2 := fun x y H Q => ∃ (c : Nat) (z : Str), x = .str ⟨#[c]⟩ ∧ y = .str z ∧ Q (.bl (decide (c ∈ z.cps.toList))) H
def rNotSign : R2 := fun x y H Q => ∃ (c : Nat) (z : Str), x = .str ⟨#[c]⟩ ∧ y = .str z ∧ Q (.bl (!decide (c ∈ z.cps.toList))) H
def rInU (K : PySem.W.Frag) : R2 := fun x y H Q => (rIn K false x y H Q ∨ rSign x y H Q) ∨ rInD K x y H Q
def rNotInU (K : PySem.W.Frag) : R2 := fun x y H Q => (rIn K true x y H Q ∨ rNotSign x y H Q) ∨ rNotInD K x y H Q
theorem op_inU (hu : X.A.units + 65 < cLine) : OpR X (compareOp .In) (rInU X.K) := (OpR.or op_in_seq op_in_sign).or (op_inD hu)
theorem op_notinU (hu : X.A.units + 65 < cLine) : OpR X (compareOp .NotIn) (rNotInU X.K) := (OpR.or op_notIn_seq op_notIn_sign).or (op_notInD hu)
def rSlU (K : PySem.W.Frag) : V → Option Int → Option Int → Hp → VK → Prop := fun x lo hi H Q => (rSlL K x lo hi H Q ∨ rSlA K x lo hi H Q) ∨ rSlS x lo hi H Q
theorem sl_U : SlR X (rSlU X.K) := (SlR.or sl_list sl_tupA).or sl_str
def rLenU (K : PySem.W.Frag) : List V → Hp → VK → Prop := fun xs H Q => rLenS K xs H Q ∨ ∃ z, xs = [V.str z] ∧ z.length ≤ sizeLine ∧ Q (.int z.length) H
theorem call_lenU : CallR X (.builtin "len") (rLenU X.K) := CallR.or call_len_seq call_len_str
end
/-! ### the same, the written part told by name (a try's body and a comprehension's block have contexts of their own) -/
section
variable {X : Cx} (K : PySem.W.Frag)
theorem k_op {f : Value → Value → Sem Value} {r : PySem.W.Frag → R2} (h : OpR X f (r X.K)) (hK : X.K = K) : OpR X f (r K) := hK ▸ h
theorem op_addK (hK : X.K = K := by rfl) : OpR X (binaryOp .Add) (rAddU K) := k_op K op_addU hK
theorem op_eqK (hu : X.A.units + 65 < cLine) (hK : X.K = K := by rfl) : OpR X (compareOp .Eq) (rEqU K) := k_op K (op_eqU hu) hK
theorem op_neK (hu : X.A.units + 65 < cLine) (hK : X.K = K := by rfl) : OpR X (compareOp .NotEq) (rNeU K) := k_op K (op_neU hu) hK
theorem op_inK (hu : X.A.units + 65 < cLine) (hK : X.K = K := by rfl) : OpR X (compareOp .In) (rInU K) := k_op K (op_inU hu) hK
theorem op_notinK (hu : X.A.units + 65 < cLine) (hK : X.K = K := by rfl) : OpR X (compareOp .NotIn) (rNotInU K) := k_op K (op_notinU hu) hK
theorem ix_seqK (hK : X.K = K := by rfl) : IxR X (rIx K) := by subst hK; exact ix_seq
theorem sl_K (hK : X.K = K := by rfl) : SlR X (rSlU K) := by subst hK; exact sl_U
theorem call_lenK (hK : X.K = K := by rfl) : CallR X (.builtin "len") (rLenU K) := by subst hK; exact call_lenU
theorem cr_sumK (hc : X.calm = true) (hK : X.K = K := by rfl) : CallR X (.builtin "sum") (rSum K) := by subst hK; exact cr_sum hc
theorem cr_maxK (hc : X.calm = true) (hK : X.K = K := by rfl) : CallR X (.builtin "max") (rMax K) := by subst hK; exact cr_max hc
theorem cr_minK' (hc : X.calm = true) (hK : X.K = K := by rfl) : CallR X (.builtin "min") (rMin K) := by subst hK; exact cr_min hc
theorem cr_anyK (hc : X.calm = true) (hK : X.K = K := by rfl) : CallR X (.builtin "any") (rAny K) := by subst hK; exact cr_any hc
theorem cr_allK (hc : X.calm = true) (hK : X.K = K := by rfl) : CallR X (.builtin "all") (rAll K) := by subst hK; exact cr_all hc
theorem cr_sortedK (hK : X.K = K := by rfl) : CallR X (.builtin "sorted") (rSortedI K) := by subst hK; exact cr_sortedI
def rIsiU (K : PySem.W.Frag) : List V → Hp → VK → Prop := fun xs H Q => rIsi K xs H Q ∨ rIsiT K xs H Q
theorem call_isiK' (hK : X.K = K := by rfl) : CallR X (.builtin "isinstance") (rIsiU K) := by subst hK; exact CallR.or call_isi call_isiT
theorem call_listK (hK : X.K = K := by rfl) : CallR X (.type "list") (rListS K) := by subst hK; exact call_list_of
def rTupS (K : PySem.W.Frag) : List V → Hp → VK → Prop := fun xs H Q => ∃ p ys, xs = [.ref p] ∧ ((SqL K H p ys ∧ ∀ l, H l = none → Q (.ref l) (upd H l (.tup ys))) ∨ (SqT K H p ys ∧ Q (.ref p) H))
theorem call_tupleK (hK : X.K = K := by rfl) : CallR X (.type "tuple") (rTupS K) := by subst hK; exact call_tuple_of
theorem mt_indexK (hK : X.K = K := by rfl) : MtR X "list.index" (rIndex K) := by subst hK; exact mt_index
def rJoin (K : PySem.W.Frag) : V → List V → Hp → VK → Prop := fun x xs H Q => ∃ a p, ∃ ys : List Str, x = .str a ∧ xs = [.ref p] ∧ (SqL K H p (ys.map V.str) ∨ SqT K H p (ys.map V.str)) ∧ (ys.map (·.length)).sum + ys.length * a.length ≤ 16777216 ∧ Q (.str (Txt.join a ys)) H
theorem mt_joinK (hK : X.K = K := by rfl) : MtR X "str.join" (rJoin K) := by subst hK; exact mt_join
theorem pi_listK {tg l : Expr} {tl : TE} (hl : PE X l tl) (hK : X.K = K := by rfl) : PI X tg l (iList K tl) := by subst hK; exact pi_list hl
theorem pi_tupK {tg l : Expr} {tl : TE} (hl : PE X l tl) (hK : X.K = K := by rfl) : PI X tg l (iTup K tl) := by subst hK; exact pi_tup hl
theorem pi_enumK {e : Expr} {ta : TA} {p pos tpos : Pos} {elts : List Expr} {kk : Nat} (hg : Gl X "enumerate") (hm : X.mg "enumerate" = none) (ha : PA X [e] ta) (hs : starEach [e] X.env = [(false, eval e X.env)] := by rfl) (hK : X.K = K := by rfl) :
    PI X (.Tuple elts kk tpos) (.Call (.Name "enumerate" p) [e] [] pos) (iEnum K ta) := by subst hK; exact pi_enum hg hm ha hs
theorem pi_zipK {e e2 : Expr} {ta : TA} {p pos tpos : Pos} {elts : List Expr} {kk : Nat} (hg : Gl X "zip") (hm : X.mg "zip" = none) (ha : PA X [e, e2] ta)
    (hs : starEach [e, e2] X.env = (false, eval e X.env) :: starEach [e2] X.env := by rfl) (hpl : (backTo pos (starEach [e2] X.env)).any (·.1) = false := by rfl) (hK : X.K = K := by rfl) :
    PI X (.Tuple elts kk tpos) (.Call (.Name "zip" p) [e, e2] [] pos) (RZ.iZipA K ta) := by subst hK; exact RZ.pi_zipA hg hm ha hs hpl
theorem pg_tupK {es : List Expr} {k : Nat} {t : TGs} {n : Nat} {pos : Pos} (hc : X.calm = true) (h : PGs X es t)
    (hn : (assignEach es X.env).length = n := by rfl) (hst : (assignEach es X.env).findIdx? (·.1) = none := by rfl) (hK : X.K = K := by rfl) : PG X (.Tuple es k pos) (gTup K n t) := by subst hK; exact pg_tup hc h hn hst
theorem pe_fldK {e : Expr} {f : Str} {ta : TE} {pos : Pos} (he : PE X e ta) (hb : attributeBase e f X.env (eval e X.env) = eval e X.env := by rfl) (hK : X.K = K := by rfl) : PE X (.Attribute e f pos) (tFld K ta f) := by subst hK; exact pe_fld he hb
theorem pe_bmK0 {o : Expr} {name : Str} {T id : String} {r : V → List V → Hp → VK → Prop} {to : TE} {apos cpos : Pos} (pa : PlainAttrs T) (slot : Slot T name id) (hty : typeOf (.builtin id) = pure (.type "method_descriptor")) (hm : MtR X id r) (ho : PE X o to)
    (hbase : attributeBase o name X.env (eval o X.env) = eval o X.env := by rfl) (hline : (apos.endLine == cpos.line) = true := by rfl) (hK : X.K = K := by rfl) : PE X (.Call (.Attribute o name apos) [] [] cpos) (tBM0 K T r to) := by subst hK; exact pe_bm0 pa slot hty hm ho hbase hline
theorem pe_bmK {o e : Expr} {es : List Expr} {name : Str} {T id : String} {r : V → List V → Hp → VK → Prop} {to : TE} {t : TA} {apos cpos : Pos} (pa : PlainAttrs T) (slot : Slot T name id) (hty : typeOf (.builtin id) = pure (.type "method_descriptor")) (hm : MtR X id r) (ho : PE X o to) (ha : PA X (e :: es) t)
    (hbase : attributeBase o name X.env (eval o X.env) = eval o X.env := by rfl)
    (hfew : ((backTo cpos (starEach (e :: es) X.env)).all (fun x => !x.1) && (backToKw cpos (keywordEach [] X.env)).all (fun x => x.1.isSome)
      && decide ((e :: es).length + ([] : List Keyword).length + (if ([] : List Keyword).isEmpty then 0 else 1) < 30)) = true := by rfl)
    (hline : (apos.endLine == cpos.line) = true := by rfl) (hs : starEach (e :: es) X.env = (false, eval e X.env) :: starEach es X.env := by rfl) (hplain : (backTo cpos (starEach es X.env)).any (·.1) = false := by rfl) (hK : X.K = K := by rfl) :
    PE X (.Call (.Attribute o name apos) (e :: es) [] cpos) (tBM K T r to t) := by subst hK; exact pe_bm pa slot hty hm ho ha hbase hfew hline hs hplain
theorem ps_fldK {o value : Expr} {f : Str} {ta tv : TE} {pos pos' : Pos} (ha : PE X o ta) (hv : PE X value tv) (hs : swapsWith value (some (.Attribute o f pos')) pos.line X.env = pure false := by rfl) (hK : X.K = K := by rfl) : PS X (.Assign [.Attribute o f pos'] value pos) (sFld K ta tv f) := by subst hK; exact ps_fld ha hv hs
end
/-! ### room -/
theorem hu65 {A : Around} {k : Nat} (hr : Room k A) : A.units + 65 < cLine := by have := hr.un; omega
/-! ### builtin names that the text leaves as they are -/
structure Bt (mg : Str → Option Value) : Prop where
  abs : mg "abs" = none
  all : mg "all" = none
  any : mg "any" = none
  dict : mg "dict" = none
  enumerate : mg "enumerate" = none
  int : mg "int" = none
  isinstance : mg "isinstance" = none
  len : mg "len" = none
  list : mg "list" = none
  max : mg "max" = none
  min : mg "min" = none
  range : mg "range" = none
  sorted : mg "sorted" = none
  str : mg "str" = none
  sum : mg "sum" = none
  tuple : mg "tuple" = none
  zip : mg "zip" = none
  bool : mg "bool" = none
  set : mg "set" = none
theorem boot_b_abs : bootBuiltins "abs" = some (.builtin "abs") := by decide +kernel
theorem boot_b_all : bootBuiltins "all" = some (.builtin "all") := by decide +kernel
theorem boot_b_any : bootBuiltins "any" = some (.builtin "any") := by decide +kernel
theorem boot_b_len : bootBuiltins "len" = some (.builtin "len") := by decide +kernel
theorem boot_b_max : bootBuiltins "max" = some (.builtin "max") := by decide +kernel
theorem boot_b_min : bootBuiltins "min" = some (.builtin "min") := by decide +kernel
theorem boot_b_sum : bootBuiltins "sum" = some (.builtin "sum") := by decide +kernel
theorem boot_b_sorted : bootBuiltins "sorted" = some (.builtin "sorted") := by decide +kernel
theorem boot_b_isinstance : bootBuiltins "isinstance" = some (.builtin "isinstance") := by decide +kernel
theorem boot_ty_int : bootBuiltins "int" = some (.type "int") := by decide +kernel
theorem boot_ty_list : bootBuiltins "list" = some (.type "list") := by decide +kernel
theorem boot_ty_str : bootBuiltins "str" = some (.type "str") := by decide +kernel
theorem boot_ty_tuple : bootBuiltins "tuple" = some (.type "tuple") := by decide +kernel
theorem boot_ty_dict : bootBuiltins "dict" = some (.type "dict") := by decide +kernel
theorem boot_ty_bool : bootBuiltins "bool" = some (.type "bool") := by decide +kernel
theorem boot_ty_set : bootBuiltins "set" = some (.type "set") := by decide +kernel
/-! ### defs by their promises -/
/-- the def that stands behind the name x keeps sp -/
structure Ok (P : Program) (w : World) (K : PySem.W.Frag) (mg : Str → Option Value) (base : Heap) (k : Nat) (x : Str) (ps : List Str) (sp : Sp) : Prop where
  ex : ∃ f fd, mg x = some (.ref f) ∧ PySem.W.keepIn K (.ref f) = true ∧ Binds K fd ps [] ∧ FnOk P w K mg base (L2.CX P w) k f fd ps sp ∧ ∃ oc od osl, K.lookup f = some ⟨oc, od, .func fd, osl⟩
/-- a def of the text -/
structure Df (K : PySem.W.Frag) (mg : Str → Option Value) (x : Str) (st : Stmt) (ps : List Str) : Prop where
  ex : ∃ f fd, mg x = some (.ref f) ∧ Fun K x x st f fd ∧ Binds K fd ps []
/-- the method m of the class at C keeps sp -/
structure OkM (P : Program) (w : World) (K : PySem.W.Frag) (mg : Str → Option Value) (base : Heap) (k : Nat) (C : Addr) (m : Str) (ps : List Str) (sp : Sp) : Prop where
  cls : Cls K C
  ex : ∃ f fd, Meth K C m f ∧ Binds K fd ps [] ∧ FnOk P w K mg base (L2.CX P w) k f fd ps sp
/-- a method of the text -/
structure Dm (K : PySem.W.Frag) (C : Addr) (m q : Str) (st : Stmt) (ps : List Str) : Prop where
  cls : Cls K C
  ex : ∃ f fd, Meth K C m f ∧ Fun K m q st f fd ∧ Binds K fd ps []
/-- the class behind the name x is made by an __init__ that keeps sp -/
structure OkC (P : Program) (w : World) (K : PySem.W.Frag) (mg : Str → Option Value) (base : Heap) (k : Nat) (C : Addr) (x : Str) (ps : List Str) (sp : Sp) : Prop where
  g : mg x = some (.ref C)
  ex : ∃ f fd, Mk K C f ∧ Binds K fd ps [] ∧ FnOk P w K mg base (L2.CX P w) k f fd ps sp
section
variable {P : Program} {w : World} {K : PySem.W.Frag} {mg : Str → Option Value} {base : Heap}
theorem Df.ok {x : Str} {st : Stmt} {N ps : List Str} {k : Nat} {sp : Sp} (D : Df K mg x st ps) (S : FnScope N ps (defScope st)) (len : ∀ vs H Q E, sp vs H Q E → vs.length = ps.length)
    (hbody : ∀ (f : Addr) (cdv : Value) (A : Around) (outer : List Env) (s : Shared) (H : Hp) (vs : List V) (Q : VK) (E : XK), Room k (A.deeper (envOfC x (defScope st) s.heap.objs.size f cdv)) → sp vs H Q E →
      ∃ t, PSs (cxOf (L2.CX P w) P w K mg base N x (defScope st) f cdv A outer s H E) (defBody st) t ∧ t { nx := fun _ H' => Q .non H', rt := Q } (start N vs) H) : Ok P w K mg base (k + 1) x ps sp := by
  obtain ⟨f, fd, g, F, b⟩ := D.ex
  obtain ⟨oc, od, kV, doc, pm, an, cdv, ct, osl, hfd, lk, hcd⟩ := F.ex
  exact ⟨f, fd, g, F.kp, b, F.okX S len fun cdv A outer s H vs Q E hr h => hbody f cdv A outer s H vs Q E hr h, oc, od, osl, lk⟩
theorem Dm.ok {C : Addr} {m q : Str} {st : Stmt} {N ps : List Str} {k : Nat} {sp : Sp} (D : Dm K C m q st ps) (S : FnScope N ps (defScope st)) (len : ∀ vs H Q E, sp vs H Q E → vs.length = ps.length)
    (hbody : ∀ (f : Addr) (cdv : Value) (A : Around) (outer : List Env) (s : Shared) (H : Hp) (vs : List V) (Q : VK) (E : XK), Room k (A.deeper (envOfC q (defScope st) s.heap.objs.size f cdv)) → sp vs H Q E →
      ∃ t, PSs (cxOf (L2.CX P w) P w K mg base N q (defScope st) f cdv A outer s H E) (defBody st) t ∧ t { nx := fun _ H' => Q .non H', rt := Q } (start N vs) H) : OkM P w K mg base (k + 1) C m ps sp := by
  obtain ⟨f, fd, g, F, b⟩ := D.ex
  exact ⟨D.cls, f, fd, g, b, F.okX S len fun cdv A outer s H vs Q E hr h => hbody f cdv A outer s H vs Q E hr h⟩
theorem OkM.make {C : Addr} {ps : List Str} {k : Nat} {sp : Sp} {x : Str} (O : OkM P w K mg base k C "__init__" ps sp) (g : mg x = some (.ref C)) (mk : PySem.W.makesIn K C = true) (kc : PySem.W.keepIn K (.ref C) = true) : OkC P w K mg base k C x ps sp := by
  obtain ⟨f, fd, m, b, F⟩ := O.ex
  exact ⟨g, f, fd, ⟨mk, m.at_, m.fn, kc⟩, b, F⟩
theorem Ok.mono {x : Str} {ps : List Str} {j k : Nat} {sp : Sp} (O : Ok P w K mg base j x ps sp) (h : j ≤ k) : Ok P w K mg base k x ps sp := by
  obtain ⟨f, fd, g, kp, b, F, l⟩ := O.ex
  exact ⟨f, fd, g, kp, b, F.mono h, l⟩
theorem Ok.imp {x : Str} {ps : List Str} {k : Nat} {sp sp' : Sp} (O : Ok P w K mg base k x ps sp) (h : ∀ vs H Q E, sp' vs H Q E → sp vs H Q E) : Ok P w K mg base k x ps sp' := by
  obtain ⟨f, fd, g, kp, b, F, l⟩ := O.ex
  exact ⟨f, fd, g, kp, b, F.imp h, l⟩
end
section
variable {X : Cx} {W : WX} {k : Nat} {C : Addr} {ps : List Str} {sp : Sp} {x m : Str} {p pos apos : Pos} {e o : Expr} {es : List Expr} {ta : TE} {t : TA}
/-- f(e, ..) -/
theorem pe_callO (O : Ok X.prog X.w X.K X.mg X.base k x ps sp) (hr : Room k X.A) (hg : Gl X x) (tk : Takes X W) (ha : PA X (e :: es) t) (hdb : (x == ("__debug__" : Str)) = false := by decide)
    (he : starEach (e :: es) X.env = (false, eval e X.env) :: starEach es X.env := by rfl) (hpl : (backTo pos (starEach es X.env)).any (·.1) = false := by rfl) :
    PE X (.Call (.Name x p) (e :: es) [] pos) (tCallS sp (WE W) t) := by
  obtain ⟨f, fd, g, kp, b, F, _⟩ := O.ex
  exact pe_callS F hr hg g kp b (fun σ => passAt tk σ) ha hdb he hpl
/-- o.m(e, ..) -/
def tMethS (C : Addr) (m : Str) (sp : Sp) (E : L2.St → XK) (ta : TE) (t : TA) : TE := fun σ H Q => ta σ H fun x H1 => ∃ a dx fs, x = .ref a ∧ H1 a = some (.ins C dx fs) ∧ fs.lookup m = none ∧ t σ H1 fun vs H2 => sp (x :: vs) H2 Q (E σ)
theorem pe_methO {pl : Sem Bool} (O : OkM X.prog X.w X.K X.mg X.base k C m ps sp) (he : PE X o ta) (hr : Room k X.A) (tk : Takes X W) (ha : PA X (e :: es) t)
    (hst : starEach (e :: es) X.env = (false, eval e X.env) :: starEach es X.env := by rfl) (hpl : (backTo pos (starEach es X.env)).any (·.1) = false := by rfl)
    (ht : eval (.Call (.Attribute o m apos) (e :: es) [] pos) X.env = (do
      let ov ← eval o X.env
      standAt apos.atName
      let (f, first) ← holding [ov] (getMethod ov m pl)
      callWith pos f first (backTo pos (starEach (e :: es) X.env)) (backToKw pos (keywordEach [] X.env))) := by rfl) :
    PE X (.Call (.Attribute o m apos) (e :: es) [] pos) (tMethS C m sp (WE W) ta t) := by
  obtain ⟨f, fd, hm, b, F⟩ := O.ex
  refine ⟨fun pins s σ H Q I h => ?_⟩
  refine PySem.W.methodCall_KW (pl := pl) (thn (he.run pins s σ H _ I h) fun u s1 ⟨x, H1, I1, rx, a, dx, fs, ex, ea, l, q⟩ => ?_) ht
  subst ex
  obtain rfl : u = Value.ref a := rx
  refine getmeth_ok I1 ea O.cls hm l ?_
  refine PySem.W.callWith_K (first := [.ref a]) (h₀ := X.base) I.ok.mod.kin hm.kp (thn (ha.run pos pins s1 σ H1 _ I1 q) fun us s2 ⟨vs, H2, I2, r, q2⟩ => ⟨I2.kIn, ?_⟩) hst hpl
  exact run_fnS (us := .ref a :: us) (vs := .ref a :: vs) F hr b (passAt tk σ) I2 (.cons rfl r) q2
theorem pe_methO0 {pl : Sem Bool} (O : OkM X.prog X.w X.K X.mg X.base k C m ps sp) (he : PE X o ta) (hr : Room k X.A) (tk : Takes X W)
    (ht : eval (.Call (.Attribute o m apos) [] [] pos) X.env = (do
      let ov ← eval o X.env
      standAt apos.atName
      let (f, first) ← holding [ov] (getMethod ov m pl)
      callWith pos f first (backTo pos (starEach [] X.env)) (backToKw pos (keywordEach [] X.env))) := by rfl) :
    PE X (.Call (.Attribute o m apos) [] [] pos) (tMethS C m sp (WE W) ta tNil) := by
  obtain ⟨f, fd, hm, b, F⟩ := O.ex
  refine ⟨fun pins s σ H Q I h => ?_⟩
  refine PySem.W.methodCall_KW (pl := pl) (thn (he.run pins s σ H _ I h) fun u s1 ⟨x, H1, I1, rx, a, dx, fs, ex, ea, l, q⟩ => ?_) ht
  subst ex
  obtain rfl : u = Value.ref a := rx
  refine getmeth_ok I1 ea O.cls hm l ?_
  exact PySem.W.callWith_K0 (first := [.ref a]) I1.kIn hm.kp (run_fnS (us := [.ref a]) (vs := [.ref a]) F hr b (passAt tk σ) I1 (.cons rfl .nil) q)
end
/-! ### a new instance, by an __init__ that may raise -/
section
variable {X : Cx} {W : WX} {k : Nat} {C : Addr} {ps : List Str} {sp : Sp} {x m : Str} {p pos apos : Pos} {e o : Expr} {es : List Expr} {ta : TE} {t : TA}
def tMakeS (C : Addr) (sp : Sp) (E : L2.St → XK) (t : TA) : TE := fun σ H Q => t σ H fun vs H1 => ∀ x dx, H1 x = none → H1 dx = none → dx ≠ x →
  sp (.ref x :: vs) (upd (upd H1 dx (.own x)) x (.ins C dx [])) (fun v H2 => v = .non ∧ Q (.ref x) H2) (E σ)
theorem run_makeS {pins : List (Addr × Obj)} {σ : L2.St} {H : Hp} {s : Shared} {Q : VK} {us : List Value} {vs : List V} {f : Addr} {fd : FuncData} (M : Mk X.K C f) (F : FnOk X.prog X.w X.K X.mg X.base (L2.CX X.prog X.w) k f fd ps sp) (hr : Room (k + 1) X.A) (hb : Binds X.K fd ps [])
    (tk : Takes X W) (I : Inv X pins σ H s) (r : Vals vs us)
    (h : ∀ x dx, H x = none → H dx = none → dx ≠ x → sp (.ref x :: vs) (upd (upd H dx (.own x)) x (.ins C dx [])) (fun v H2 => v = .non ∧ Q (.ref x) H2) (WE W σ)) :
    wpAny (model X.prog X.w) X.A (call (.ref C) us) (EP X pins σ Q) X.xe s := by
  have hq := h (s.heap.objs.size + 1) s.heap.objs.size (I.hok.fresh (Nat.le_succ _)) (I.hok.fresh (Nat.le_refl _)) (Nat.ne_of_lt (Nat.lt_succ_self _))
  have I2 := Inv.made (C := C) I
  have r2 : Vals (V.ref (s.heap.objs.size + 1) :: vs) (Value.ref (s.heap.objs.size + 1) :: us) := .cons rfl r
  have hl : (Value.ref (s.heap.objs.size + 1) :: us).length = ps.length := by
    have e := r2.length
    rw [F.len _ _ _ _ hq] at e
    exact e.symm
  refine wpAny_call (make_map (f := f) I.kIn M.makes M.init (beq_iff_eq.mp M.fn) (codeAny_mono (F.run _ X.stack _ _ ⟨Value.ref (s.heap.objs.size + 1) :: us, []⟩ (Value.ref (s.heap.objs.size + 1) :: us) _ _ (WE W σ) (hr.make C us [])
    (I2.env0.make C us []) (by have z := hb _ (Value.ref (s.heap.objs.size + 1) :: us) I2.kIn (by rw [List.append_nil]; exact hl); rw [List.append_nil] at z; exact z) r2 hq) fun r s' hq' => ?_))
  cases r with
  | error e => exact passAt tk σ pins _ _ e s' I2 hq'
  | ok fl =>
    cases fl with
    | ret u =>
      obtain ⟨v, H', I3, rv, ev, q3⟩ := I2.after hq'
      subst ev
      exact ⟨rv, ⟨V.ref (s.heap.objs.size + 1), H', I3, rfl, q3⟩⟩
    | next => exact False.elim hq'
    | brk => exact False.elim hq'
    | cont => exact False.elim hq'
theorem pe_makeO (O : OkC X.prog X.w X.K X.mg X.base k C x ps sp) (hr : Room (k + 1) X.A) (hg : Gl X x) (tk : Takes X W) (ha : PA X (e :: es) t) (hdb : (x == ("__debug__" : Str)) = false := by decide)
    (he : starEach (e :: es) X.env = (false, eval e X.env) :: starEach es X.env := by rfl) (hpl : (backTo pos (starEach es X.env)).any (·.1) = false := by rfl) :
    PE X (.Call (.Name x p) (e :: es) [] pos) (tMakeS C sp (WE W) t) := by
  obtain ⟨f, fd, M, b, F⟩ := O.ex
  refine ⟨fun pins s σ H Q I h => ?_⟩
  refine wpAny_Call_Name_kw (ld_glob I hg O.g ?_ hdb)
  refine PySem.W.callWith_K (h₀ := X.base) I.ok.mod.kin M.kp (thn (ha.run pos pins s σ H _ I h) fun us s1 ⟨vs, H1, I1, r, q⟩ => ⟨I1.kIn, ?_⟩) he hpl
  exact run_makeS M F hr b tk I1 r q
end
/-! ### own exceptions without an __init__ of their own -/
/-- x, at C, is an exception of one's own (under ValueError), made with a text -/
structure Xc (K : PySem.W.Frag) (mg : Str → Option Value) (x : Str) (C : Addr) : Prop where
  g : mg x = some (.ref C)
  xi : PySem.W.excIn K C [.type "ValueError", .type "Exception", .type "BaseException", .type "object"] "ValueError.__new__" = true
  kp : PySem.W.keepIn K (.ref C) = true
  sb : PySem.W.subIn K (.ref C) (.type "BaseException") = some true
  ty : PySem.W.typeIn K (.ref C) = some (.type "type")
theorem exm_mk {K : PySem.W.Frag} {A C : Addr} {b : Bool} (sb : PySem.W.subIn K (.ref C) (.type "BaseException") = some true) (ic : PySem.W.isClsIn K C = true) (ty : PySem.W.typeIn K (.ref C) = some (.type "type")) (s : PySem.W.subIn K (.ref A) (.ref C) = some b) : PySem.W.exmOne K (.ref A) (.ref C) = some b := by
  have ic : (PySem.W.clsIn K C).isSome = true := ic
  unfold PySem.W.exmOne
  rw [sb]
  unfold PySem.W.kitCls
  simp only [ic, ty, s]
  simp
theorem pmk_ex {X : Cx} {x m : Str} {C : Addr} {j : Nat} {p p2 pos : Pos} (c : Xc X.K X.mg x C) (hg : Gl X x) (hdb : (x == ("__debug__" : Str)) = false := by decide) : PMk X (.Call (.Name x p) [.Constant (.str m) j p2] [] pos) (fun _ H Q => Q (.ref C) none H) :=
  pmk_own PySem.F.excBase_ValueError c.xi c.g c.kp (raises_own c.sb c.ty) hg hdb
end Kj

/-! Kj1: what an expression is worth, with the new part of the heap that it makes; parts of the heap that stand apart. -/
namespace Kj
open PySem PySem.Spec PyProof.Rows L2 Evl
/-! ### parts of a heap -/
/-- all of N is new beside H -/
def Fr (H N : Hp) : Prop := ∀ a, N a ≠ none → H a = none
def emp : Hp := fun _ => none
def sing (p : Addr) (o : HO) : Hp := fun a => if a = p then some o else none
def uni (N M : Hp) : Hp := fun a => match M a with | some o => some o | none => N a
theorem sing_at {p : Addr} {o : HO} : sing p o p = some o := by unfold sing; rw [if_pos rfl]
theorem sing_ne {p a : Addr} {o : HO} (h : a ≠ p) : sing p o a = none := by unfold sing; rw [if_neg h]
theorem emp_ex {H : Hp} : Ex emp H := fun _ _ h => nomatch h
theorem emp_fr {H : Hp} : Fr H emp := fun _ h => absurd rfl h
theorem sing_ex {H : Hp} {p : Addr} {o : HO} (h : H p = some o) : Ex (sing p o) H := fun a u e => by
  by_cases q : a = p
  · subst q
    rw [sing_at] at e
    cases e
    exact h
  · rw [sing_ne q] at e
    cases e
theorem sing_fr {H : Hp} {p : Addr} {o : HO} (h : H p = none) : Fr H (sing p o) := fun a e => by
  by_cases q : a = p
  · subst q
    exact h
  · exact absurd (sing_ne q) e
theorem Fr.back {H H' N : Hp} (e : Ex H H') (f : Fr H' N) : Fr H N := fun a h => fresh_back e (f a h)
theorem Fr.of {H N M : Hp} (f : Fr H N) (e : Ex M N) : Fr H M := fun a h => f a fun z => by
  cases q : M a with
  | none => exact h q
  | some o => rw [e a o q] at z; cases z
theorem ex_none {N H : Hp} {a : Addr} (e : Ex N H) (h : H a = none) : N a = none := fresh_back e h
theorem uni_r {N M : Hp} : Ex M (uni N M) := fun a o h => by unfold uni; rw [h]
theorem uni_l {N M : Hp} (d : ∀ a, M a ≠ none → N a = none) : Ex N (uni N M) := fun a o h => by
  unfold uni
  cases q : M a with
  | none => exact h
  | some u => rw [d a (by rw [q]; exact fun z => nomatch z)] at h; cases h
theorem uni_ex {N M H : Hp} (h1 : Ex N H) (h2 : Ex M H) : Ex (uni N M) H := fun a o h => by
  unfold uni at h
  cases q : M a with
  | none => rw [q] at h; exact h1 a o h
  | some u => rw [q] at h; cases h; exact h2 a _ q
theorem uni_some {N M : Hp} {a : Addr} (h : uni N M a ≠ none) : N a ≠ none ∨ M a ≠ none := by
  unfold uni at h
  cases q : M a with
  | none => rw [q] at h; exact .inl h
  | some u => exact .inr (fun z => nomatch z)
theorem uni_fr {N M H : Hp} (h1 : Fr H N) (h2 : Fr H M) : Fr H (uni N M) := fun a h => (uni_some h).elim (h1 a) (h2 a)
/-! ### data -/
mutual
theorem dp_mono {K : PySem.W.Frag} {H H' : Hp} (e : Ex H H') : ∀ {v : V} {d : PyData}, Dp K H v d → Dp K H' v d
  | _, _, .non => .non
  | _, _, .bl b => .bl b
  | _, _, .int i => .int i
  | _, _, .str x => .str x
  | _, _, .lst h r => .lst (ex_l e h) (dpa_mono e r)
  | _, _, .tup h r => .tup (ex_t e h) (dpa_mono e r)
theorem dpa_mono {K : PySem.W.Frag} {H H' : Hp} (e : Ex H H') : ∀ {vs : List V} {ds : List PyData}, DpAll K H vs ds → DpAll K H' vs ds
  | _, _, .nil => .nil
  | _, _, .cons h r => .cons (dp_mono e h) (dpa_mono e r)
end
/-! ### how a call may end -/
inductive Res where
  | ok (P : Hp → V → Prop)
  | err (x : Str) (fs : List (Str × V))
def RetNew (H : Hp) (Q : VK) (P : Hp → V → Prop) : Prop := ∀ v H' N, Ex H H' → Ex N H' → Fr H N → P N v → Q v H'
def RaiseX (mg : Str → Option Value) (x : Str) (fs : List (Str × V)) (H : Hp) (E : XK) : Prop :=
  ∀ H' C d, Ex H H' → mg x = some (.ref C) → (fs = [] ∧ d = none ∨ ∃ a, d = some a ∧ H' a = some (.xd fs) ∧ H a = none ∧ fs ≠ []) → E (.ref C) d H'
def Out (mg : Str → Option Value) (r : Res) (H : Hp) (Q : VK) (E : XK) : Prop := match r with
  | .ok P => RetNew H Q P
  | .err x fs => RaiseX mg x fs H E
/-- a promise: from the arguments in a heap to the end; whatever else the heap holds -/
structure Rl where
  R : List V → Hp → Res → Prop
  mono : ∀ {vs H H' r}, Ex H H' → R vs H r → R vs H' r
def Rl.sp (S : Rl) (mg : Str → Option Value) : Sp := fun vs H Q E => ∃ r, S.R vs H r ∧ Out mg r H Q E
/-- what is told of a value alone -/
abbrev is (v : V) : Hp → V → Prop := fun _ x => x = v
/-! ### what an expression is worth -/
def EvP (te : TE) (σ : L2.St) (H : Hp) (P : Hp → V → Prop) : Prop := ∀ H1, Ex H H1 → ∀ Q : VK, RetNew H1 Q P → te σ H1 Q
def EvErr (mg : Str → Option Value) (W : WX) (x : Str) (fs : List (Str × V)) (te : TE) (σ : L2.St) (H : Hp) : Prop := ∀ H1, Ex H H1 → RaiseX mg x fs H1 (WE W σ) → ∀ Q : VK, te σ H1 Q
/-- arguments, each with its own new part -/
def All2 (H : Hp) : List (Hp → V → Prop) → List V → Prop := Paired fun P v => ∃ N, Ex N H ∧ P N v
def EvPs (ta : TA) (σ : L2.St) (H : Hp) (Ps : List (Hp → V → Prop)) : Prop := ∀ H1, Ex H H1 → ∀ Q : List V → Hp → Prop, (∀ vs H2, Ex H1 H2 → All2 H2 Ps vs → Q vs H2) → ta σ H1 Q
section
variable {K : PySem.W.Frag} {mg : Str → Option Value} {σ : L2.St} {H H' : Hp} {ta tb te tx : TE} {tr : TA} {t u : TT} {x y z v : V} {r : R2} {P P' : Hp → V → Prop} {S : Rl} {E : L2.St → XK} {W : WX} {vs : List V} {Ps : List (Hp → V → Prop)} {xn : Str} {fs : List (Str × V)}
theorem RetNew.fwd {Q : VK} (e : Ex H H') (k : RetNew H Q P) : RetNew H' Q P := fun v H1 N e1 e2 f p => k v H1 N (e.trans e1) e2 (f.back e) p
theorem RaiseX.fwd {E : XK} (e : Ex H H') (k : RaiseX mg xn fs H E) : RaiseX mg xn fs H' E := fun H1 C d e1 g c => k H1 C d (e.trans e1) g (c.imp id fun ⟨a, h1, h2, h3, h4⟩ => ⟨a, h1, h2, fresh_back e h3, h4⟩)
theorem EvP.mono (e : Ex H H') (h : EvP te σ H P) : EvP te σ H' P := fun H1 a Q q => h H1 (e.trans a) Q q
theorem EvErr.mono (e : Ex H H') (h : EvErr mg W xn fs te σ H) : EvErr mg W xn fs te σ H' := fun H1 a q Q => h H1 (e.trans a) q Q
theorem ep_v (h : Ev te σ H v) : EvP te σ H (is v) := fun H1 e Q q => h H1 e Q fun H2 e2 => q v H2 emp e2 emp_ex emp_fr rfl
theorem ev_p (h : EvP te σ H (is v)) : Ev te σ H v := fun H1 e Q q => h H1 e Q fun x H2 _ e2 _ _ p => by
  have p : x = v := p
  subst p
  exact q H2 e2
theorem ep_imp (h : EvP te σ H P) (i : ∀ N v, P N v → P' N v) : EvP te σ H P' := fun H1 e Q q => h H1 e Q fun v H2 N e2 e3 f p => q v H2 N e2 e3 f (i N v p)
theorem ep_l {xs : List V} (h : EvL te σ H xs) : EvP te σ H (fun N v => ∃ p, v = .ref p ∧ N p = some (.lst xs)) := fun H1 e Q q => h H1 e Q fun p H2 hp e2 h2 => q (.ref p) H2 (sing p (.lst xs)) e2 (sing_ex h2) (sing_fr hp) ⟨p, rfl, sing_at⟩
theorem ep_u {xs : List V} (h : EvU te σ H xs) : EvP te σ H (fun N v => ∃ p, v = .ref p ∧ N p = some (.tup xs)) := fun H1 e Q q => h H1 e Q fun p H2 hp e2 h2 => q (.ref p) H2 (sing p (.tup xs)) e2 (sing_ex h2) (sing_fr hp) ⟨p, rfl, sing_at⟩
theorem eps_nil : EvPs tNil σ H [] := fun H1 _ Q q => q [] H1 (Ex.refl H1) .nil
theorem All2.mono (e : Ex H H') (h : All2 H Ps vs) : All2 H' Ps vs := by
  unfold All2 at h ⊢
  induction h with
  | nil => exact .nil
  | cons h _ ih =>
    obtain ⟨N, h1, h2⟩ := h
    exact .cons ⟨N, h1.trans e, h2⟩ ih
theorem eps_cons (h : EvP te σ H P) (hr : EvPs tr σ H Ps) : EvPs (tCons te tr) σ H (P :: Ps) := fun H1 e Q q =>
  h H1 e _ fun v H2 N e2 e3 _ p => hr H2 (e.trans e2) _ fun vs H3 e4 a => q (v :: vs) H3 (e2.trans e4) (.cons ⟨N, e3.trans e4, p⟩ a)
theorem all2_is : ∀ vs : List V, All2 H (vs.map is) vs
  | [] => .nil
  | _ :: r => .cons ⟨emp, emp_ex, rfl⟩ (all2_is r)
theorem eps_v (h : EvA tr σ H vs) : EvPs tr σ H (vs.map is) := fun H1 e Q q => h H1 e _ fun H2 e2 => q vs H2 e2 (all2_is vs)
/-! ### calls -/
theorem ep_call (ha : EvA tr σ H vs) (hR : S.R vs H (.ok P)) : EvP (tCallS (S.sp mg) E tr) σ H P := fun H1 e Q q => ha H1 e _ fun H2 e2 => ⟨.ok P, S.mono (e.trans e2) hR, q.fwd e2⟩
theorem ep_callN (ha : EvPs tr σ H Ps) (hR : ∀ vs H1, Ex H H1 → All2 H1 Ps vs → S.R vs H1 (.ok P)) : EvP (tCallS (S.sp mg) E tr) σ H P := fun H1 e Q q => ha H1 e _ fun vs H2 e2 a => ⟨.ok P, hR vs H2 (e.trans e2) a, q.fwd e2⟩
theorem ev_callO (ha : EvA tr σ H vs) (hR : S.R vs H (.ok (is v))) : Ev (tCallS (S.sp mg) E tr) σ H v := ev_p (ep_call ha hR)
theorem ev_callN (ha : EvPs tr σ H Ps) (hR : ∀ vs H1, Ex H H1 → All2 H1 Ps vs → S.R vs H1 (.ok (is v))) : Ev (tCallS (S.sp mg) E tr) σ H v := ev_p (ep_callN ha hR)
theorem er_call (ha : EvA tr σ H vs) (hR : S.R vs H (.err xn fs)) : EvErr mg W xn fs (tCallS (S.sp mg) (WE W) tr) σ H := fun H1 e q Q => ha H1 e _ fun H2 e2 => ⟨.err xn fs, S.mono (e.trans e2) hR, q.fwd e2⟩
theorem er_callN (ha : EvPs tr σ H Ps) (hR : ∀ vs H1, Ex H H1 → All2 H1 Ps vs → S.R vs H1 (.err xn fs)) : EvErr mg W xn fs (tCallS (S.sp mg) (WE W) tr) σ H := fun H1 e q Q => ha H1 e _ fun vs H2 e2 a => ⟨.err xn fs, hR vs H2 (e.trans e2) a, q.fwd e2⟩
/-- o.m(..) -/
theorem ep_meth {C a dx : Addr} {m : Str} {gs : List (Str × V)} (ho : Ev ta σ H (.ref a)) (h : H a = some (.ins C dx gs)) (hl : gs.lookup m = none) (ha : EvA tr σ H vs) (hR : S.R (.ref a :: vs) H (.ok P)) : EvP (tMethS C m (S.sp mg) E ta tr) σ H P :=
  fun H1 e Q q => ho H1 e _ fun H2 e2 => ⟨a, dx, gs, rfl, e2 _ _ (e _ _ h), hl, ha H2 (e.trans e2) _ fun H3 e3 => ⟨.ok P, S.mono ((e.trans e2).trans e3) hR, q.fwd (e2.trans e3)⟩⟩
theorem ep_methN {C a dx : Addr} {m : Str} {gs : List (Str × V)} (ho : Ev ta σ H (.ref a)) (h : H a = some (.ins C dx gs)) (hl : gs.lookup m = none) (ha : EvPs tr σ H Ps) (hR : ∀ vs H1, Ex H H1 → All2 H1 Ps vs → S.R (.ref a :: vs) H1 (.ok P)) : EvP (tMethS C m (S.sp mg) E ta tr) σ H P :=
  fun H1 e Q q => ho H1 e _ fun H2 e2 => ⟨a, dx, gs, rfl, e2 _ _ (e _ _ h), hl, ha H2 (e.trans e2) _ fun vs H3 e3 al => ⟨.ok P, hR vs H3 ((e.trans e2).trans e3) al, q.fwd (e2.trans e3)⟩⟩
theorem er_meth {C a dx : Addr} {m : Str} {gs : List (Str × V)} (ho : Ev ta σ H (.ref a)) (h : H a = some (.ins C dx gs)) (hl : gs.lookup m = none) (ha : EvA tr σ H vs) (hR : S.R (.ref a :: vs) H (.err xn fs)) : EvErr mg W xn fs (tMethS C m (S.sp mg) (WE W) ta tr) σ H :=
  fun H1 e q Q => ho H1 e _ fun H2 e2 => ⟨a, dx, gs, rfl, e2 _ _ (e _ _ h), hl, ha H2 (e.trans e2) _ fun H3 e3 => ⟨.err xn fs, S.mono ((e.trans e2).trans e3) hR, q.fwd (e2.trans e3)⟩⟩
/-! ### a raise goes through -/
theorem er_op1 (h : EvErr mg W xn fs ta σ H) : EvErr mg W xn fs (tOp r ta tb) σ H := fun H1 e q Q => h H1 e q _
theorem er_op2 (h1 : EvP ta σ H P) (h : EvErr mg W xn fs tb σ H) : EvErr mg W xn fs (tOp r ta tb) σ H := fun H1 e q Q => h1 H1 e _ fun v H2 N e2 _ _ _ => h H2 (e.trans e2) (q.fwd e2) _
theorem er_arg {sp : Sp} (h : ∀ H1, Ex H H1 → RaiseX mg xn fs H1 (WE W σ) → ∀ Q : List V → Hp → Prop, tr σ H1 Q) : EvErr mg W xn fs (tCallS sp E tr) σ H := fun H1 e q Q => h H1 e q _
/-! ### fields of an instance -/
theorem ev_fld {C a dx : Addr} {f : Str} {gs : List (Str × V)} (ho : Ev ta σ H (.ref a)) (h : H a = some (.ins C dx gs)) (c : Cls K C) (n : NoAttr K C f) (hl : gs.lookup f = some v) : Ev (tFld K ta f) σ H v := fun H1 e Q q =>
  ho H1 e _ fun H2 e2 => ⟨a, C, dx, gs, v, rfl, e2 _ _ (e _ _ h), c, n, hl, q H2 e2⟩
/-! ### operators -/
theorem rv_addI {i j : Int} : RV (rAddU K) (.int i) (.int j) H (.int (i + j)) := fun H1 _ _ q => .inl (.inl ⟨i, j, rfl, rfl, q H1 (Ex.refl H1)⟩)
theorem rv_addS {a b : Str} (h : a.length + b.length ≤ sizeLine) : RV (rAddU K) (.str a) (.str b) H (.str (a ++ b)) := fun H1 _ _ q => .inl (.inr ⟨a, b, rfl, rfl, h, q H1 (Ex.refl H1)⟩)
theorem rv_mulI {i j : Int} (h : CMulW i j) : RV rMulU (.int i) (.int j) H (.int (i * j)) := fun H1 _ _ q => .inl (.inl ⟨i, j, rfl, rfl, h, q H1 (Ex.refl H1)⟩)
theorem rv_mulS {a : Str} {n : Int} (h : MulOk a n) : RV rMulU (.str a) (.int n) H (.str (Txt.mul a n)) := fun H1 _ _ q => .inr ⟨a, n, rfl, rfl, h, q H1 (Ex.refl H1)⟩
theorem rc_int {a : Str} {n : Int} (h : PySem.intText? a = some n) (hl : a.length ≤ 640) : RC rIntS [.str a] H (.int n) := fun H1 _ _ q => ⟨a, n, rfl, h, hl, q H1 (Ex.refl H1)⟩
theorem rv_eqS (h : scal x y = true) : RV (rEqU K) x y H (.bl (decide (x = y))) := fun H1 _ _ q => .inl ⟨h, q H1 (Ex.refl H1)⟩
theorem rv_neS (h : scal x y = true) : RV (rNeU K) x y H (.bl (!decide (x = y))) := fun H1 _ _ q => .inl ⟨h, q H1 (Ex.refl H1)⟩
theorem rv_eqI {i j : Int} : RV (rEqU K) (.int i) (.int j) H (.bl (decide (i = j))) := fun H1 _ _ q => .inl ⟨rfl, by
  have e : decide (V.int i = V.int j) = decide (i = j) := by
    by_cases h : i = j
    · subst h; simp
    · rw [decide_eq_false h, decide_eq_false (fun z => h (V.int.inj z))]
  rw [e]
  exact q H1 (Ex.refl H1)⟩
theorem rv_neI {i j : Int} : RV (rNeU K) (.int i) (.int j) H (.bl (!decide (i = j))) := fun H1 _ _ q => .inl ⟨rfl, by
  have e : decide (V.int i = V.int j) = decide (i = j) := by
    by_cases h : i = j
    · subst h; simp
    · rw [decide_eq_false h, decide_eq_false (fun z => h (V.int.inj z))]
  rw [e]
  exact q H1 (Ex.refl H1)⟩
theorem rv_eqT {a b : Str} : RV (rEqU K) (.str a) (.str b) H (.bl (decide (a = b))) := fun H1 _ _ q => .inl ⟨rfl, by
  have e : decide (V.str a = V.str b) = decide (a = b) := by
    by_cases h : a = b
    · subst h; simp
    · rw [decide_eq_false h, decide_eq_false (fun z => h (V.str.inj z))]
  rw [e]
  exact q H1 (Ex.refl H1)⟩
theorem rv_neT {a b : Str} : RV (rNeU K) (.str a) (.str b) H (.bl (!decide (a = b))) := fun H1 _ _ q => .inl ⟨rfl, by
  have e : decide (V.str a = V.str b) = decide (a = b) := by
    by_cases h : a = b
    · subst h; simp
    · rw [decide_eq_false h, decide_eq_false (fun z => h (V.str.inj z))]
  rw [e]
  exact q H1 (Ex.refl H1)⟩
theorem rv_eqD {d e : PyData} (h1 : Dp K H x d) (h2 : Dp K H y e) (s1 : SeqAt.shaped d = true) (s2 : SeqAt.shaped e = true) : RV (rEqU K) x y H (.bl (PyData.eqv d e)) := fun H1 a _ q => .inr ⟨d, e, dp_mono a h1, dp_mono a h2, s1, s2, q H1 (Ex.refl H1)⟩
theorem rv_neD {d e : PyData} (h1 : Dp K H x d) (h2 : Dp K H y e) (s1 : SeqAt.shaped d = true) (s2 : SeqAt.shaped e = true) : RV (rNeU K) x y H (.bl (!PyData.eqv d e)) := fun H1 a _ q => .inr ⟨d, e, dp_mono a h1, dp_mono a h2, s1, s2, q H1 (Ex.refl H1)⟩
/-- both sides new, or data: == by what they hold -/
theorem ev_opN {P1 P2 : Hp → V → Prop} (ha : EvP ta σ H P1) (hb : EvP tb σ H P2) (hr : ∀ v1 v2 N1 N2 H1, Ex H H1 → Ex N1 H1 → Ex N2 H1 → P1 N1 v1 → P2 N2 v2 → RV r v1 v2 H1 z) : Ev (tOp r ta tb) σ H z := fun H1 e Q q =>
  ha H1 e _ fun v1 H2 N1 e2 i1 _ p1 => hb H2 (e.trans e2) _ fun v2 H3 N2 e3 i2 _ p2 => hr v1 v2 N1 N2 H3 ((e.trans e2).trans e3) (i1.trans e3) i2 p1 p2 H3 (Ex.refl H3) Q fun H4 e4 => q H4 ((e2.trans e3).trans e4)
theorem rv_ixLs {p : Addr} {xs : List V} {i : Int} (h : SqL K H p xs) (ha : atI xs i = some v) : RV (rIx K) (.ref p) (.int i) H v := fun H1 e _ q => .inl ⟨p, xs, i, v, rfl, rfl, ex_l e h, ha, q H1 (Ex.refl H1)⟩
theorem rv_ixTs {p : Addr} {xs : List V} {i : Int} (h : SqT K H p xs) (ha : atI xs i = some v) : RV (rIx K) (.ref p) (.int i) H v := fun H1 e _ q => .inr (.inl ⟨p, xs, i, v, rfl, rfl, ex_t e h, ha, q H1 (Ex.refl H1)⟩)
theorem rv_ixSs {w : Str} {i : Int} {c : Nat} (h : w.length ≤ 100000) (ha : atI w.cps.toList i = some c) : RV (rIx K) (.str w) (.int i) H (.str ⟨#[c]⟩) := fun H1 _ _ q => .inr (.inr ⟨w, i, c, rfl, rfl, sz_of h, ha, q H1 (Ex.refl H1)⟩)
theorem rv_inLs {p : Addr} {xs : List V} (h : SqL K H p xs) (hx : flatV x = true) (ha : xs.all flatV = true) : RV (rInU K) x (.ref p) H (.bl (inV x xs)) := fun H1 e _ q => .inl (.inl ⟨p, xs, rfl, Or.inl (ex_l e h), hx, ha, q H1 (Ex.refl H1)⟩)
theorem rv_niLs {p : Addr} {xs : List V} (h : SqL K H p xs) (hx : flatV x = true) (ha : xs.all flatV = true) : RV (rNotInU K) x (.ref p) H (.bl (!inV x xs)) := fun H1 e _ q => .inl (.inl ⟨p, xs, rfl, Or.inl (ex_l e h), hx, ha, q H1 (Ex.refl H1)⟩)
theorem rv_inTs {p : Addr} {xs : List V} (h : SqT K H p xs) (hx : flatV x = true) (ha : xs.all flatV = true) : RV (rInU K) x (.ref p) H (.bl (inV x xs)) := fun H1 e _ q => .inl (.inl ⟨p, xs, rfl, Or.inr (ex_t e h), hx, ha, q H1 (Ex.refl H1)⟩)
theorem rv_sign {c : Nat} {w : Str} : RV (rInU K) (.str ⟨#[c]⟩) (.str w) H (.bl (decide (c ∈ w.cps.toList))) := fun H1 _ _ q => .inl (.inr ⟨c, w, rfl, rfl, q H1 (Ex.refl H1)⟩)
theorem ru_neg' {i : Int} : RU (rU fun i => .int (-i)) (.int i) H (.int (-i)) := ru_neg
theorem rv_isN : RV (fun x y H Q => y = .non ∧ Q (.bl (decide (x = .non))) H) x .non H (.bl (decide (x = .non))) := fun H1 _ _ q => ⟨rfl, q H1 (Ex.refl H1)⟩
theorem rv_isnN : RV (fun x y H Q => y = .non ∧ Q (.bl (!decide (x = .non))) H) x .non H (.bl (!decide (x = .non))) := fun H1 _ _ q => ⟨rfl, q H1 (Ex.refl H1)⟩
/-! ### slices, len -/
theorem el_sl' {tl th : TO} {a : Addr} {xs : List V} {lo hi : Option Int} (h : Ev te σ H (.ref a)) (h1 : EvO tl σ H lo) (h2 : EvO th σ H hi) (hs : SqL K H a xs) : EvL (tSl (rSlU K) te tl th) σ H (cutV xs lo hi) := fun H1 e _ q =>
  h H1 e _ fun H2 e2 => h1 H2 (e.trans e2) _ fun H3 e3 => h2 H3 ((e.trans e2).trans e3) _ fun H4 e4 =>
    .inl (.inl ⟨a, xs, rfl, ex_l (((e.trans e2).trans e3).trans e4) hs, fun p hp => q p _ (fresh_back ((e2.trans e3).trans e4) hp) (((e2.trans e3).trans e4).trans (Ex.new hp)) upd_same⟩)
theorem ev_slS {tl th : TO} {w : Str} {lo hi : Option Int} (h : Ev te σ H (.str w)) (h1 : EvO tl σ H lo) (h2 : EvO th σ H hi) (hz : w.length ≤ 100000) : Ev (tSl (rSlU K) te tl th) σ H (.str (cutS w lo hi)) := fun H1 e _ q =>
  h H1 e _ fun H2 e2 => h1 H2 (e.trans e2) _ fun H3 e3 => h2 H3 ((e.trans e2).trans e3) _ fun H4 e4 => .inr ⟨w, rfl, sz_of hz, q H4 ((e2.trans e3).trans e4)⟩
theorem rc_lenL {p : Addr} {xs : List V} (h : SqL K H p xs) : RC (rLenU K) [.ref p] H (.int (xs.length : Int)) := fun H1 e _ q => .inl ⟨p, xs, rfl, .inl (ex_l e h), q H1 (Ex.refl H1)⟩
theorem rc_lenT {p : Addr} {xs : List V} (h : SqT K H p xs) : RC (rLenU K) [.ref p] H (.int (xs.length : Int)) := fun H1 e _ q => .inl ⟨p, xs, rfl, .inr (ex_t e h), q H1 (Ex.refl H1)⟩
theorem rc_lenS {w : Str} (h : w.length ≤ 100000) : RC (rLenU K) [.str w] H (.int (w.length : Int)) := fun H1 _ _ q => .inr ⟨w, rfl, sz_of h, q H1 (Ex.refl H1)⟩
theorem rc_abs {i : Int} : RC (fun xs H Q => ∃ i, xs = [.int i] ∧ Q (.int (if i < 0 then -i else i)) H) [.int i] H (.int (i.natAbs : Int)) := fun H1 _ _ q => ⟨i, rfl, by
  have e : (if i < 0 then -i else i) = (i.natAbs : Int) := by
    split <;> omega
  rw [e]
  exact q H1 (Ex.refl H1)⟩
end
/-! ### parts that stand apart in a heap -/
def Dj (N M : Hp) : Prop := ∀ a, N a ≠ none → M a = none
theorem Dj.symm {N M : Hp} (d : Dj N M) : Dj M N := fun a h => by
  cases q : N a with
  | none => rfl
  | some o => exact absurd (d a (by rw [q]; exact fun z => nomatch z)) h
def Own : List Hp → Hp → Prop
  | [], _ => True
  | N :: r, H => Ex N H ∧ (∀ M ∈ r, Dj N M) ∧ Own r H
theorem Own.mono {H H' : Hp} (e : Ex H H') : ∀ {Ns : List Hp}, Own Ns H → Own Ns H'
  | [], _ => trivial
  | _ :: _, ⟨a, b, c⟩ => ⟨a.trans e, b, c.mono e⟩
theorem Own.exm {H N : Hp} : ∀ {Ns : List Hp}, Own Ns H → N ∈ Ns → Ex N H
  | _ :: _, ⟨a, b, c⟩, h => by
    rcases List.mem_cons.mp h with h | h
    · subst h; exact a
    · exact c.exm h
theorem Own.ix {H N : Hp} {i : Nat} {Ns : List Hp} (o : Own Ns H) (h : Ns[i]? = some N) : Ex N H := o.exm (List.mem_of_getElem? h)
theorem Own.e0 {H N : Hp} {r : List Hp} (o : Own (N :: r) H) : Ex N H := o.1
theorem Own.e1 {H N M : Hp} {r : List Hp} (o : Own (M :: N :: r) H) : Ex N H := o.2.2.1
theorem Own.e2 {H N M M2 : Hp} {r : List Hp} (o : Own (M2 :: M :: N :: r) H) : Ex N H := o.2.2.2.2.1
theorem Own.e3 {H N M M2 M3 : Hp} {r : List Hp} (o : Own (M3 :: M2 :: M :: N :: r) H) : Ex N H := o.2.2.2.2.2.2.1
theorem Own.e4 {H N M M2 M3 M4 : Hp} {r : List Hp} (o : Own (M4 :: M3 :: M2 :: M :: N :: r) H) : Ex N H := o.2.2.2.2.2.2.2.2.1
theorem Own.dj {H N M : Hp} {i j : Nat} : ∀ {Ns : List Hp}, Own Ns H → i < j → Ns[i]? = some N → Ns[j]? = some M → Dj N M
  | N' :: r, ⟨a, b, c⟩, hij, hi, hj => by
    cases j with
    | zero => exact absurd hij (Nat.not_lt_zero _)
    | succ j =>
      cases i with
      | zero =>
        have e : N' = N := Option.some.inj hi
        subst e
        exact b M (List.mem_of_getElem? hj)
      | succ i => exact c.dj (Nat.lt_of_succ_lt_succ hij) hi hj
theorem Own.add {H H' N : Hp} {Ns : List Hp} (o : Own Ns H) (e : Ex H H') (n : Ex N H') (f : Fr H N) : Own (N :: Ns) H' :=
  ⟨n, fun M hM a h => ex_none (o.exm hM) (f a h), o.mono e⟩
theorem Own.one (H : Hp) : Own [H] H := ⟨Ex.refl H, (fun _ h => nomatch h), trivial⟩
theorem Own.tail {H N : Hp} {r : List Hp} (o : Own (N :: r) H) : Own r H := o.2.2
theorem Own.set {H : Hp} {l : Addr} {u u' : HO} : ∀ {Ns : List Hp} {j : Nat}, Own Ns H → Ns[j]? = some (sing l u) → Own (Ns.set j (sing l u')) (upd H l u')
  | N :: r, 0, ⟨a, b, c⟩, h => by
    have e : N = sing l u := Option.some.inj h
    subst e
    have hl : ∀ M ∈ r, M l = none := fun M hM => b M hM l (by rw [sing_at]; exact fun z => nomatch z)
    refine ⟨sing_ex upd_same, fun M hM x hx => ?_, ?_⟩
    · by_cases q : x = l
      · subst q; exact hl M hM
      · exact absurd (sing_ne q) hx
    · clear a b h
      induction r with
      | nil => trivial
      | cons M r ih =>
        obtain ⟨c1, c2, c3⟩ := c
        refine ⟨fun x o' hx => ?_, c2, ih c3 fun M' hM' => hl M' (List.mem_cons_of_mem _ hM')⟩
        have ne : x ≠ l := fun z => by
          rw [z, hl M List.mem_cons_self] at hx
          cases hx
        rw [upd_ne ne]
        exact c1 x o' hx
  | N :: r, j + 1, ⟨a, b, c⟩, h => by
    have hN : N l = none := by
      have d := b (sing l u) (List.mem_of_getElem? h)
      exact d.symm l (by rw [sing_at]; exact fun z => nomatch z)
    refine ⟨fun x o' hx => ?_, fun M hM => ?_, c.set h⟩
    · have ne : x ≠ l := fun z => by
        rw [z, hN] at hx
        cases hx
      rw [upd_ne ne]
      exact a x o' hx
    · rcases List.mem_or_eq_of_mem_set hM with h1 | h1
      · exact b M h1
      · subst h1
        intro x hx
        by_cases q : x = l
        · subst q; exact absurd hN hx
        · exact sing_ne q
theorem Own.at {H : Hp} {l : Addr} {u : HO} {Ns : List Hp} {j : Nat} (o : Own Ns H) (h : Ns[j]? = some (sing l u)) : H l = some u := o.ix h _ _ sing_at
/-- the part N and the part M told as one -/
theorem Own.merge {H N M : Hp} {r : List Hp} (o : Own (N :: M :: r) H) : Own (uni M N :: r) H :=
  ⟨uni_ex o.2.2.1 o.1, fun M' hM' a h => (uni_some h).elim (o.2.2.2.1 M' hM' a) (o.2.1 M' (List.mem_cons_of_mem _ hM') a), o.2.2.2.2⟩
theorem Own.swap {H N M : Hp} {r : List Hp} (o : Own (N :: M :: r) H) : Own (M :: N :: r) H :=
  ⟨o.2.2.1, fun M' hM' => by
    rcases List.mem_cons.mp hM' with h | h
    · subst h; exact (o.2.1 M List.mem_cons_self).symm
    · exact o.2.2.2.1 M' h, o.1, fun M' hM' => o.2.1 M' (List.mem_cons_of_mem _ hM'), o.2.2.2.2⟩
/-- what is handed back: N is new beside G -/
theorem Own.ret {H N G : Hp} {Ns : List Hp} {i j : Nat} {Q : VK} {P : Hp → V → Prop} {v : V} (o : Own Ns H) (k : RetNew G Q P) (hi : Ns[i]? = some N) (hj : Ns[j]? = some G) (hp : P N v) (hij : i < j := by decide) : Q v H :=
  k v H N (o.ix hj) (o.ix hi) (o.dj hij hi hj) hp
theorem Own.retV {H G : Hp} {Ns : List Hp} {j : Nat} {Q : VK} {P : Hp → V → Prop} {v : V} (o : Own Ns H) (k : RetNew G Q P) (hj : Ns[j]? = some G) (hp : P emp v) : Q v H := k v H emp (o.ix hj) emp_ex emp_fr hp
end Kj
namespace Kj
open PySem PySem.Spec PyProof.Rows L2 Evl
abbrev pTup (xs : List V) : Hp → V → Prop := fun N v => ∃ p, v = .ref p ∧ N p = some (.tup xs)
abbrev pLst (xs : List V) : Hp → V → Prop := fun N v => ∃ p, v = .ref p ∧ N p = some (.lst xs)
section
variable {K : PySem.W.Frag} {mg : Str → Option Value} {σ : L2.St} {H H' : Hp} {ta tb te tx : TE} {tr : TA} {t u : TT} {x y z v : V} {P : Hp → V → Prop} {vs : List V}
theorem ep_tup (h : EvA tr σ H vs) (hl : vs.length ≤ 100000 := by exact Nat.le_of_ble_eq_true rfl) : EvP (tTup tr) σ H (pTup vs) := ep_u (eu_tup h hl)
theorem ep_lst (h : EvA tr σ H vs) (hl : vs.length ≤ 100000 := by exact Nat.le_of_ble_eq_true rfl) : EvP (tLst tr) σ H (pLst vs) := ep_l (el_lst h hl)
/-- the first operand, or the thing asked, is new -/
theorem ev_op1 {r : R2} (ha : EvP ta σ H P) (hb : Ev tb σ H y) (hr : ∀ v N H1, Ex H H1 → Ex N H1 → P N v → RV r v y H1 z) : Ev (tOp r ta tb) σ H z :=
  ev_opN ha (ep_v hb) fun v1 v2 N1 N2 H1 e i1 _ p1 p2 => by
    have p2 : v2 = y := p2
    subst p2
    exact hr v1 N1 H1 e i1 p1
theorem ev_cb1 {r : List V → Hp → VK → Prop} (ha : EvP ta σ H P) (hr : ∀ v N H1, Ex H H1 → Ex N H1 → P N v → RC r [v] H1 z) : Ev (tCB r (tCons ta tNil)) σ H z := fun H1 e Q q =>
  ha H1 e _ fun v H2 N e2 i1 _ p => hr v N H2 (e.trans e2) i1 p H2 (Ex.refl H2) Q fun H3 e3 => q H3 (e2.trans e3)
end
end Kj
namespace Kj
open PySem PySem.Spec PyProof.Rows L2 Evl
theorem cmul_small {i j : Int} (h1 : -18446744073709551616 < i ∧ i < 18446744073709551616) (h2 : -18446744073709551616 < j ∧ j < 18446744073709551616) : CMulW i j := by
  have a : i.natAbs < 2 ^ 64 := by
    have e : (2 : Nat) ^ 64 = 18446744073709551616 := by decide
    rw [e]
    omega
  have b : j.natAbs < 2 ^ 64 := by
    have e : (2 : Nat) ^ 64 = 18446744073709551616 := by decide
    rw [e]
    omega
  exact wide_mul a b (by decide) (by decide) (by decide)
theorem cutV_take {xs : List V} (n : Nat) : cutV xs none (some (n : Int)) = xs.take n := by
  unfold cutV
  rw [HT.sIx_none, HT.sIx_nat]
  by_cases h : n ≤ xs.length
  · rw [Nat.min_eq_left h]
    rfl
  · rw [Nat.min_eq_right (by omega)]
    show (xs.drop 0).take (xs.length - 0) = _
    rw [List.drop_zero, Nat.sub_zero, List.take_length, List.take_of_length_le (by omega)]
theorem cutV_drop {xs : List V} (n : Nat) : cutV xs (some (n : Int)) none = xs.drop n := by
  unfold cutV
  rw [HT.sIx_none, HT.sIx_nat]
  by_cases h : n ≤ xs.length
  · rw [Nat.min_eq_left h, List.take_of_length_le (by rw [List.length_drop]; omega)]
  · rw [Nat.min_eq_right (by omega), List.drop_length, List.drop_of_length_le (by omega), List.take_nil]
end Kj
namespace Kj
open PySem PySem.Spec PyProof.Rows L2 Evl
theorem ep_if {σ : L2.St} {H : Hp} {ta tb : TE} {t : TT} {P : Hp → V → Prop} {b : Bool} (h : EvT t σ H b) (h1 : b = true → EvP ta σ H P) (h2 : b = false → EvP tb σ H P) : EvP (tIf t ta tb) σ H P := fun H1 e Q q => h H1 e _ fun H2 e2 => by
  cases b with
  | true =>
    show ta σ H2 Q
    exact h1 rfl H2 (e.trans e2) Q (q.fwd e2)
  | false =>
    show tb σ H2 Q
    exact h2 rfl H2 (e.trans e2) Q (q.fwd e2)
/-- (e1, e2), each told by what holds of its value -/
theorem ep_tupP {σ : L2.St} {H : Hp} {ta tb : TE} {P1 P2 P : Hp → V → Prop} (h1 : EvP ta σ H P1) (h2 : EvP tb σ H P2) (hp : ∀ N v1 v2 p, P1 emp v1 → P2 emp v2 → N p = some (.tup [v1, v2]) → P N (.ref p)) (f1 : ∀ N v, P1 N v → P1 emp v := by intro _ _ h; exact h) (f2 : ∀ N v, P2 N v → P2 emp v := by intro _ _ h; exact h) : EvP (tTup (tCons ta (tCons tb tNil))) σ H P := fun H1 e Q q =>
  h1 H1 e _ fun v1 H2 N1 e2 i1 _ p1 => h2 H2 (e.trans e2) _ fun v2 H3 N2 e3 i2 _ p2 => ⟨by show 2 ≤ sizeLine; decide, fun p hp0 =>
    q (.ref p) _ (sing p (.tup [v1, v2])) ((e2.trans e3).trans (Ex.new hp0)) (sing_ex upd_same) (sing_fr (fresh_back (e2.trans e3) hp0)) (hp _ v1 v2 p (f1 _ _ p1) (f2 _ _ p2) sing_at)⟩
/-- an operation whose value is told by what holds of it -/
theorem ev_opNP {σ : L2.St} {H : Hp} {ta tb : TE} {r : R2} {P1 P2 P : Hp → V → Prop} (ha : EvP ta σ H P1) (hb : EvP tb σ H P2) (hr : ∀ v1 v2 N1 N2 H1, Ex H H1 → Ex N1 H1 → Ex N2 H1 → P1 N1 v1 → P2 N2 v2 → ∃ z, RV r v1 v2 H1 z ∧ P emp z) : EvP (tOp r ta tb) σ H P := fun H1 e Q q =>
  ha H1 e _ fun v1 H2 N1 e2 i1 _ p1 => hb H2 (e.trans e2) _ fun v2 H3 N2 e3 i2 _ p2 => by
    obtain ⟨z, h1, h2⟩ := hr v1 v2 N1 N2 H3 ((e.trans e2).trans e3) (i1.trans e3) i2 p1 p2
    exact h1 H3 (Ex.refl H3) Q fun H4 e4 => q z H4 emp ((e2.trans e3).trans e4) emp_ex emp_fr h2
/-- the law's own promise -/
def spLaw (K : PySem.W.Frag) : Sp := fun vs H Q _ => ∃ (a : Addr) (ns : List Int), vs = [.ref a] ∧ SqL K H a (ns.map V.int) ∧ ns.length ≤ 63 ∧ ∀ H', Q (.bl true) H'
theorem cx_none {P : Program} {w : World} {o : List Env} {H : Hp} {s : Shared} {e : Value} {s' : Shared} (h : L2.CX P w o H s (fun _ _ _ => False) e s') : False := by
  obtain ⟨_, _, _, _, _, _, _, _, _, _, _, _, z⟩ := h
  exact z
/-- the promise of the very def that the name stands for -/
theorem Ok.fn {P : Program} {w : World} {K : PySem.W.Frag} {mg : Str → Option Value} {base : Heap} {k : Nat} {x : Str} {ps : List Str} {sp : Sp} {st : Stmt} {f : Addr} {fd : FuncData} (O : Ok P w K mg base k x ps sp) (g : mg x = some (.ref f)) (F : Fun K x x st f fd) : FnOk P w K mg base (L2.CX P w) k f fd ps sp := by
  obtain ⟨f', fd', g', kp, b, F', oc', od', osl', lk'⟩ := O.ex
  obtain ⟨oc, od, kV, doc, pm, an, cdv, ct, osl, hfd, lk, hcd⟩ := F.ex
  rw [g] at g'
  cases g'
  rw [lk] at lk'
  cases lk'
  exact F'
end Kj

/-! Kj2: statements, over parts of the heap that stand apart. s: the last of a block; q: something behind. -/
namespace Kj
open PySem PySem.Spec PyProof.Rows L2 Evl
section
variable {K : PySem.W.Frag} {mg : Str → Option Value} {σ : L2.St} {H G : Hp} {Ns : List Hp} {ta tb te tx : TE} {tr : TA} {t u : TT} {v : V} {P : Hp → V → Prop} {W : WX} {xn : Str} {fs : List (Str × V)} {D : Ends} {tu tw tz : TS} {g : TG}
theorem s_v {i : Nat} (o : Own Ns H) (h : Ev te σ H v) (k : ∀ H1, Own Ns H1 → D.nx (σ.set i (some v)) H1) : tAsg te (gName i) D σ H := h H (Ex.refl H) _ fun H1 e => k H1 (o.mono e)
theorem q_v {i : Nat} (o : Own Ns H) (h : Ev te σ H v) (k : ∀ H1, Own Ns H1 → tz D (σ.set i (some v)) H1) : tSeq (tAsg te (gName i)) tz D σ H := s_v (D := { D with nx := tz D }) o h k
theorem s_n {i : Nat} (o : Own Ns H) (h : EvP te σ H P) (k : ∀ v H1 N, Own (N :: Ns) H1 → P N v → D.nx (σ.set i (some v)) H1) : tAsg te (gName i) D σ H := h H (Ex.refl H) _ fun v H1 N e e2 f p => k v H1 N (o.add e e2 f) p
theorem q_n {i : Nat} (o : Own Ns H) (h : EvP te σ H P) (k : ∀ v H1 N, Own (N :: Ns) H1 → P N v → tz D (σ.set i (some v)) H1) : tSeq (tAsg te (gName i)) tz D σ H := s_n (D := { D with nx := tz D }) o h k
theorem s_l {i : Nat} {xs : List V} (o : Own Ns H) (h : EvL te σ H xs) (k : ∀ p H1, Own (sing p (.lst xs) :: Ns) H1 → D.nx (σ.set i (some (.ref p))) H1) : tAsg te (gName i) D σ H := h H (Ex.refl H) _ fun p H1 hp e h1 => k p H1 (o.add e (sing_ex h1) (sing_fr hp))
theorem q_l {i : Nat} {xs : List V} (o : Own Ns H) (h : EvL te σ H xs) (k : ∀ p H1, Own (sing p (.lst xs) :: Ns) H1 → tz D (σ.set i (some (.ref p))) H1) : tSeq (tAsg te (gName i)) tz D σ H := s_l (D := { D with nx := tz D }) o h k
theorem s_u {i : Nat} {xs : List V} (o : Own Ns H) (h : EvU te σ H xs) (k : ∀ p H1, Own (sing p (.tup xs) :: Ns) H1 → D.nx (σ.set i (some (.ref p))) H1) : tAsg te (gName i) D σ H := h H (Ex.refl H) _ fun p H1 hp e h1 => k p H1 (o.add e (sing_ex h1) (sing_fr hp))
theorem q_u {i : Nat} {xs : List V} (o : Own Ns H) (h : EvU te σ H xs) (k : ∀ p H1, Own (sing p (.tup xs) :: Ns) H1 → tz D (σ.set i (some (.ref p))) H1) : tSeq (tAsg te (gName i)) tz D σ H := s_u (D := { D with nx := tz D }) o h k
theorem s_er (h : EvErr mg W xn fs te σ H) (k : RaiseX mg xn fs H (WE W σ)) : tAsg te g D σ H := h H (Ex.refl H) k _
theorem q_er (h : EvErr mg W xn fs te σ H) (k : RaiseX mg xn fs H (WE W σ)) : tSeq (tAsg te g) tz D σ H := s_er (D := { D with nx := tz D }) h k
theorem s_dv (o : Own Ns H) (h : EvP te σ H P) (k : ∀ H1, Own Ns H1 → D.nx σ H1) : tDrop te D σ H := h H (Ex.refl H) _ fun v H1 N e _ _ _ => k H1 (o.mono e)
theorem q_dv (o : Own Ns H) (h : EvP te σ H P) (k : ∀ H1, Own Ns H1 → tz D σ H1) : tSeq (tDrop te) tz D σ H := s_dv (D := { D with nx := tz D }) o h k
theorem s_der (h : EvErr mg W xn fs te σ H) (k : RaiseX mg xn fs H (WE W σ)) : tDrop te D σ H := h H (Ex.refl H) k _
theorem q_der (h : EvErr mg W xn fs te σ H) (k : RaiseX mg xn fs H (WE W σ)) : tSeq (tDrop te) tz D σ H := s_der (D := { D with nx := tz D }) h k
theorem s_fi {b : Bool} (o : Own Ns H) (h : EvT t σ H b) (h1 : b = true → ∀ H1, Own Ns H1 → tu D σ H1) (h2 : b = false → ∀ H1, Own Ns H1 → tw D σ H1) : tIfS t tu tw D σ H := h H (Ex.refl H) _ fun H1 e => by
  cases b with
  | true =>
    show tu D σ H1
    exact h1 rfl H1 (o.mono e)
  | false =>
    show tw D σ H1
    exact h2 rfl H1 (o.mono e)
theorem q_fi {b : Bool} (o : Own Ns H) (h : EvT t σ H b) (h1 : b = true → ∀ H1, Own Ns H1 → tu { D with nx := tz D } σ H1) (h2 : b = false → ∀ H1, Own Ns H1 → tw { D with nx := tz D } σ H1) : tSeq (tIfS t tu tw) tz D σ H := s_fi (D := { D with nx := tz D }) o h h1 h2
theorem q_wh {b : Bool} (o : Own Ns H) (h : EvT t σ H b) (h1 : b = true → ∀ H1, Own Ns H1 → tu { D with nx := tz D } σ H1) (h2 : b = false → ∀ H1, Own Ns H1 → tz D σ H1) : tSeq (tIfS t tu tNext) tz D σ H := s_fi (D := { D with nx := tz D }) o h h1 h2
theorem s_wh {b : Bool} (o : Own Ns H) (h : EvT t σ H b) (h1 : b = true → ∀ H1, Own Ns H1 → tu D σ H1) (h2 : b = false → ∀ H1, Own Ns H1 → D.nx σ H1) : tIfS t tu tNext D σ H := s_fi o h h1 h2
theorem s_rv (o : Own Ns H) (h : Ev te σ H v) (k : ∀ H1, Own Ns H1 → D.rt v H1) : tRet te D σ H := h H (Ex.refl H) _ fun H1 e => k H1 (o.mono e)
theorem s_rn (o : Own Ns H) (h : EvP te σ H P) (k : ∀ v H1 N, Own (N :: Ns) H1 → P N v → D.rt v H1) : tRet te D σ H := h H (Ex.refl H) _ fun v H1 N e e2 f p => k v H1 N (o.add e e2 f) p
theorem s_rer (h : EvErr mg W xn fs te σ H) (k : RaiseX mg xn fs H (WE W σ)) : tRet te D σ H := h H (Ex.refl H) k _
theorem s_app {l : Addr} {xs : List V} {j : Nat} (o : Own Ns H) (hj : Ns[j]? = some (sing l (.lst xs))) (ha : Ev ta σ H (.ref l)) (h : Ev te σ H v) (hz : xs.length < 100000) (k : ∀ H1, Own (Ns.set j (sing l (.lst (xs ++ [v])))) H1 → D.nx σ H1) : tDrop (tBM K "list" rAppend ta (tCons te tNil)) D σ H := Evl.s_app (o.at hj) ha h hz fun H1 e => k _ ((o.mono e).set hj)
theorem q_app {l : Addr} {xs : List V} {j : Nat} (o : Own Ns H) (hj : Ns[j]? = some (sing l (.lst xs))) (ha : Ev ta σ H (.ref l)) (h : Ev te σ H v) (hz : xs.length < 100000) (k : ∀ H1, Own (Ns.set j (sing l (.lst (xs ++ [v])))) H1 → tz D σ H1) : tSeq (tDrop (tBM K "list" rAppend ta (tCons te tNil))) tz D σ H := s_app (D := { D with nx := tz D }) o hj ha h hz k
theorem s_appN {l : Addr} {xs : List V} {j : Nat} (o : Own Ns H) (hj : Ns[j]? = some (sing l (.lst xs))) (ha : Ev ta σ H (.ref l)) (h : EvP te σ H P) (hz : xs.length < 100000) (k : ∀ v H1 N, Own (N :: Ns.set j (sing l (.lst (xs ++ [v])))) H1 → P N v → D.nx σ H1) : tDrop (tBM K "list" rAppend ta (tCons te tNil)) D σ H := ha H (Ex.refl H) _ fun H1 e1 =>
  ⟨Or.inl ⟨rfl, xs, sq_of (e1 l _ (o.at hj))⟩, h H1 e1 _ fun v H2 N e2 e3 f p => ⟨l, xs, v, rfl, rfl, e2 l _ (e1 l _ (o.at hj)), sz_lt hz, k v _ N (((o.mono e1).add e2 e3 f).set (j := j + 1) hj) p⟩⟩
theorem q_appN {l : Addr} {xs : List V} {j : Nat} (o : Own Ns H) (hj : Ns[j]? = some (sing l (.lst xs))) (ha : Ev ta σ H (.ref l)) (h : EvP te σ H P) (hz : xs.length < 100000) (k : ∀ v H1 N, Own (N :: Ns.set j (sing l (.lst (xs ++ [v])))) H1 → P N v → tz D σ H1) : tSeq (tDrop (tBM K "list" rAppend ta (tCons te tNil))) tz D σ H := s_appN (D := { D with nx := tz D }) o hj ha h hz k
/-- for x in range(n) -/
theorem s_rg {j : Nat} {n : Int} (o : Own Ns H) (h : EvA tr σ H [.int n]) (hn : n ≤ 100000) (Pv : Nat → L2.St → Hp → Prop) (h0 : ∀ H1, Own Ns H1 → Pv 0 σ H1)
    (hs : ∀ (i : Nat) σ' H', (i : Int) < n → Pv i σ' H' → tu { D with nx := Pv (i + 1), ct := Pv (i + 1), bk := D.nx } (σ'.set j (some (.int (i : Int)))) H') (hd : ∀ σ' H', Pv n.toNat σ' H' → D.nx σ' H') (hm : -100000 ≤ n := by omega) : tFor (iRng1 tr) (gName j) tu D σ H :=
  h H (Ex.refl H) _ fun H1 e => ⟨n, rfl, by omega, by omega, for_range (lo := 0) (n := n.toNat) Pv (h0 H1 (o.mono e)) (fun i σ' H' hi p => by
    have e0 : (0 : Int) + (i : Int) = (i : Int) := Int.zero_add _
    show tu { D with nx := Pv (i + 1), ct := Pv (i + 1), bk := D.nx } (σ'.set j (some (.int ((0 : Int) + (i : Int))))) H'
    rw [e0]
    exact hs i σ' H' (by omega) p) hd⟩
theorem q_rg {j : Nat} {n : Int} (o : Own Ns H) (h : EvA tr σ H [.int n]) (hn : n ≤ 100000) (Pv : Nat → L2.St → Hp → Prop) (h0 : ∀ H1, Own Ns H1 → Pv 0 σ H1)
    (hs : ∀ (i : Nat) σ' H', (i : Int) < n → Pv i σ' H' → tu { D with nx := Pv (i + 1), ct := Pv (i + 1), bk := tz D } (σ'.set j (some (.int (i : Int)))) H') (hd : ∀ σ' H', Pv n.toNat σ' H' → tz D σ' H') (hm : -100000 ≤ n := by omega) : tSeq (tFor (iRng1 tr) (gName j) tu) tz D σ H :=
  s_rg (D := { D with nx := tz D }) o h hn Pv h0 hs hd hm
/-- for x in a list -/
theorem s_fl {a : Addr} {xs : List V} {tl : TE} {j : Nat} (o : Own Ns H) (h : Ev tl σ H (.ref a)) (hx : SqL K H a xs) (Pv : Nat → L2.St → Hp → Prop) (h0 : ∀ H1, Own Ns H1 → Pv 0 σ H1) (hl : ∀ i σ' H', i ≤ xs.length → Pv i σ' H' → SqL K H' a xs)
    (hs : ∀ i x σ' H', xs[i]? = some x → Pv i σ' H' → tu { D with nx := Pv (i + 1), ct := Pv (i + 1), bk := D.nx } (σ'.set j (some x)) H') (hd : ∀ σ' H', Pv xs.length σ' H' → D.nx σ' H') : tFor (iList K tl) (gName j) tu D σ H :=
  h H (Ex.refl H) _ fun H1 e => ⟨a, rfl, ⟨xs, ex_l e hx⟩, for_list Pv (h0 H1 (o.mono e)) hl hs hd⟩
theorem q_fl {a : Addr} {xs : List V} {tl : TE} {j : Nat} (o : Own Ns H) (h : Ev tl σ H (.ref a)) (hx : SqL K H a xs) (Pv : Nat → L2.St → Hp → Prop) (h0 : ∀ H1, Own Ns H1 → Pv 0 σ H1) (hl : ∀ i σ' H', i ≤ xs.length → Pv i σ' H' → SqL K H' a xs)
    (hs : ∀ i x σ' H', xs[i]? = some x → Pv i σ' H' → tu { D with nx := Pv (i + 1), ct := Pv (i + 1), bk := tz D } (σ'.set j (some x)) H') (hd : ∀ σ' H', Pv xs.length σ' H' → tz D σ' H') : tSeq (tFor (iList K tl) (gName j) tu) tz D σ H :=
  s_fl (D := { D with nx := tz D }) o h hx Pv h0 hl hs hd
/-- for x in a new list -/
theorem s_fn {xs : List V} {tl : TE} {j : Nat} (o : Own Ns H) (h : EvL tl σ H xs) (Pv : Nat → Addr → L2.St → Hp → Prop) (h0 : ∀ p H1, Own (sing p (.lst xs) :: Ns) H1 → Pv 0 p σ H1) (hl : ∀ i p σ' H', i ≤ xs.length → Pv i p σ' H' → H' p = some (.lst xs))
    (hs : ∀ i p x σ' H', xs[i]? = some x → Pv i p σ' H' → tu { D with nx := Pv (i + 1) p, ct := Pv (i + 1) p, bk := D.nx } (σ'.set j (some x)) H') (hd : ∀ p σ' H', Pv xs.length p σ' H' → D.nx σ' H') : tFor (iList K tl) (gName j) tu D σ H :=
  h H (Ex.refl H) _ fun p H1 hp e h1 => ⟨p, rfl, ⟨xs, sq_of h1⟩, for_list (fun i σ' H' => Pv i p σ' H') (h0 p H1 (o.add e (sing_ex h1) (sing_fr hp))) (fun i σ' H' hi q => sq_of (hl i p σ' H' hi q)) (fun i x σ' H' hx q => hs i p x σ' H' hx q) (fun σ' H' q => hd p σ' H' q)⟩
theorem q_fn {xs : List V} {tl : TE} {j : Nat} (o : Own Ns H) (h : EvL tl σ H xs) (Pv : Nat → Addr → L2.St → Hp → Prop) (h0 : ∀ p H1, Own (sing p (.lst xs) :: Ns) H1 → Pv 0 p σ H1) (hl : ∀ i p σ' H', i ≤ xs.length → Pv i p σ' H' → H' p = some (.lst xs))
    (hs : ∀ i p x σ' H', xs[i]? = some x → Pv i p σ' H' → tu { D with nx := Pv (i + 1) p, ct := Pv (i + 1) p, bk := tz D } (σ'.set j (some x)) H') (hd : ∀ p σ' H', Pv xs.length p σ' H' → tz D σ' H') : tSeq (tFor (iList K tl) (gName j) tu) tz D σ H :=
  s_fn (D := { D with nx := tz D }) o h Pv h0 hl hs hd
/-- while, by a word and a measure -/
theorem q_wl (Pv : Nat → L2.St → Hp → Prop) (m0 : Nat) (h0 : Pv m0 σ H)
    (hs : ∀ m σ' H', Pv m σ' H' → ∃ b, EvT t σ' H' b ∧ (b = true → ∀ H1, Ex H' H1 → tu { D with nx := fun σ2 H2 => ∃ m', m' < m ∧ Pv m' σ2 H2, ct := fun σ2 H2 => ∃ m', m' < m ∧ Pv m' σ2 H2, bk := tz D } σ' H1) ∧ (b = false → ∀ H1, Ex H' H1 → tz D σ' H1)) : tSeq (tWhile t tu) tz D σ H :=
  q_while Pv m0 h0 fun m σ' H' p => by
    obtain ⟨b, h1, h2, h3⟩ := hs m σ' H' p
    exact ⟨b, h1, fun hb H1 e => ⟨_, fun _ _ q => q, h2 hb H1 e⟩, h3⟩
end
end Kj
namespace Kj
open PySem PySem.Spec PyProof.Rows L2 Evl
theorem s_par {σ : L2.St} {H : Hp} {i j : Nat} {ta : TA} {v w : V} {D : Ends} (h : EvA ta σ H [v, w]) (k : ∀ H1, Ex H H1 → D.nx ((σ.set i (some v)).set j (some w)) H1) : tPar i j ta D σ H := h H (Ex.refl H) _ fun H1 e => ⟨v, w, rfl, k H1 e⟩
section
variable {K : PySem.W.Frag} {mg : Str → Option Value} {Wout : WX} {D : Ends} {l : List (Value × (Addr → Value → Option Addr → TS))} {ts : Addr → Value → Option Addr → TS} {σ : L2.St} {H : Hp} {xn : Str} {fs : List (Str × V)} {C : Addr} {c : Value}
/-- the clause at hand takes the error, or lets it by -/
theorem raise_hit (hC : mg xn = some (.ref C)) (h : PySem.W.exmOne K (.ref C) c = some true) (k : ∀ H' d a, Ex H H' → H' a = none → (fs = [] ∧ d = none ∨ ∃ a, d = some a ∧ H' a = some (.xd fs) ∧ H a = none ∧ fs ≠ []) → ts a (.ref C) d D σ H') :
    RaiseX mg xn fs H (WE (wMany K Wout D ((c, ts) :: l)) σ) := fun H' C' d e g cc => by
  have e1 : C' = C := by
    rw [hC] at g
    cases g
    rfl
  subst e1
  exact ⟨true, h, fun _ a ha => k H' d a e ha cc, fun z => nomatch z⟩
theorem raise_miss (hC : mg xn = some (.ref C)) (h : PySem.W.exmOne K (.ref C) c = some false) (k : RaiseX mg xn fs H (WE (wMany K Wout D l) σ)) : RaiseX mg xn fs H (WE (wMany K Wout D ((c, ts) :: l)) σ) := fun H' C' d e g cc => by
  have e1 : C' = C := by
    rw [hC] at g
    cases g
    rfl
  subst e1
  exact ⟨false, h, (fun z => nomatch z), fun _ => k H' C' d e hC cc⟩
end
end Kj

/-! Kj3: what is walked: an iterator by what it draws; loops and comprehensions over it. -/
namespace Kj
open PySem PySem.Spec PyProof.Rows L2 Evl
/-- J draws n items, the i-th told by Y, in every heap that holds G -/
structure Drw (J : L2.It) (G : Hp) (n : Nat) (Y : Nat → V → Hp → Prop) : Prop where
  go : ∀ i H', Ex G H' → i < n → J.go i H'
  stop : ∀ H', Ex G H' → J.stop n H'
  yld : ∀ i H' x H'', Ex G H' → i < n → J.yld i H' x H'' → Ex H' H'' ∧ Y i x H''
theorem Drw.mono {J : L2.It} {G G' : Hp} {n : Nat} {Y : Nat → V → Hp → Prop} (e : Ex G G') (d : Drw J G n Y) : Drw J G' n Y :=
  ⟨fun i H' a h => d.go i H' (e.trans a) h, fun H' a => d.stop H' (e.trans a), fun i H' x H'' a h y => d.yld i H' x H'' (e.trans a) h y⟩
/-- the iterable is worth an iterator that draws so; G: the part that it reads -/
def EvI (wi : TI) (σ : L2.St) (H G : Hp) (n : Nat) (Y : Nat → V → Hp → Prop) : Prop := ∀ H1, Ex H H1 → ∀ R : L2.It → Hp → Prop, (∀ J H2, Ex H1 H2 → Drw J G n Y → R J H2) → wi σ H1 R
/-- .. a new one, N: what it reads -/
def EvJ (wi : TI) (σ : L2.St) (H : Hp) (n : Nat) (Y : Nat → V → Hp → Prop) : Prop := ∀ H1, Ex H H1 → ∀ R : L2.It → Hp → Prop, (∀ J H2 N, Ex H1 H2 → Ex N H2 → Fr H1 N → Drw J N n Y → R J H2) → wi σ H1 R
theorem drw_list {K : PySem.W.Frag} {G : Hp} {a : Addr} {xs : List V} (h : SqL K G a xs) : Drw (Itl K a) G xs.length fun i x _ => xs[i]? = some x where
  go := fun i H' e hi => ⟨xs, xs[i], ex_l e h, by simp [hi]⟩
  stop := fun H' e => ⟨xs, ex_l e h, Nat.le_refl _⟩
  yld := fun i H' x H'' e hi y => by
    obtain ⟨e1, y⟩ := y
    subst e1
    exact ⟨Ex.refl _, y xs (ex_l e h)⟩
theorem drw_tup {K : PySem.W.Frag} {G : Hp} {a : Addr} {xs : List V} (h : SqT K G a xs) : Drw (Itt K a) G xs.length fun i x _ => xs[i]? = some x where
  go := fun i H' e hi => ⟨xs, xs[i], ex_t e h, by simp [hi]⟩
  stop := fun H' e => ⟨xs, ex_t e h, Nat.le_refl _⟩
  yld := fun i H' x H'' e hi y => by
    obtain ⟨e1, y⟩ := y
    subst e1
    exact ⟨Ex.refl _, y xs (ex_t e h)⟩
theorem drw_rng {G : Hp} {lo : Int} {n : Nat} : Drw (Itr lo n) G n fun i x _ => x = .int (lo + i) where
  go := fun i H' _ hi => hi
  stop := fun H' _ => Nat.le_refl _
  yld := fun i H' x H'' _ hi y => by
    obtain ⟨e1, y⟩ := y
    subst e1
    exact ⟨Ex.refl _, y⟩
theorem drw_str {G : Hp} {w : Str} : Drw (Its w) G w.cps.size fun i x _ => ∃ c, w.cps[i]? = some c ∧ x = .str ⟨#[c]⟩ where
  go := fun i H' _ hi => hi
  stop := fun H' _ => Nat.le_refl _
  yld := fun i H' x H'' _ hi y => by
    obtain ⟨e1, y⟩ := y
    subst e1
    exact ⟨Ex.refl _, y⟩
theorem drw_enum {K : PySem.W.Frag} {G : Hp} {a : Addr} {xs : List V} (h : SqL K G a xs) : Drw (Ite K a) G xs.length fun i x H' => ∃ T y, x = .ref T ∧ H' T = some (.tup [.int (i : Nat), y]) ∧ xs[i]? = some y where
  go := fun i H' e hi => ⟨xs, xs[i], ex_l e h, by simp [hi]⟩
  stop := fun H' e => ⟨xs, ex_l e h, Nat.le_refl _⟩
  yld := fun i H' x H'' e hi y => by
    obtain ⟨T, z, e1, e2, e3, y⟩ := y
    subst e3
    exact ⟨Ex.new e2, T, z, e1, upd_same, y xs (ex_l e h)⟩
theorem drw_zip {K : PySem.W.Frag} {G : Hp} {a b : Addr} {xs ys : List V} (h : SqL K G a xs) (h2 : SqL K G b ys) (hl : xs.length = ys.length) : Drw (Itz K a b) G xs.length fun i x H' => ∃ T y z, x = .ref T ∧ H' T = some (.tup [y, z]) ∧ xs[i]? = some y ∧ ys[i]? = some z where
  go := fun i H' e hi => ⟨xs, ys, xs[i], ys[i], ex_l e h, ex_l e h2, by simp [hi], by simp⟩
  stop := fun H' e => ⟨xs, ys, ex_l e h, ex_l e h2, .inl (Nat.le_refl _)⟩
  yld := fun i H' x H'' e hi y => by
    obtain ⟨T, z, z2, e1, e2, e3, y, y2⟩ := y
    subst e3
    exact ⟨Ex.new e2, T, z, z2, e1, upd_same, y xs (ex_l e h), y2 ys (ex_l e h2)⟩
theorem drw_zipT {K : PySem.W.Frag} {G : Hp} {a b : Addr} {xs ys : List V} (h : SqT K G a xs) (h2 : SqT K G b ys) (hl : xs.length = ys.length) : Drw (RZ.ItzT K a b) G xs.length fun i x H' => ∃ T y z, x = .ref T ∧ H' T = some (.tup [y, z]) ∧ xs[i]? = some y ∧ ys[i]? = some z where
  go := fun i H' e hi => ⟨xs, ys, xs[i], ys[i], ex_t e h, ex_t e h2, by simp [hi], by simp⟩
  stop := fun H' e => ⟨xs, ys, ex_t e h, ex_t e h2, .inl (Nat.le_refl _)⟩
  yld := fun i H' x H'' e hi y => by
    obtain ⟨T, z, z2, e1, e2, e3, y, y2⟩ := y
    subst e3
    exact ⟨Ex.new e2, T, z, z2, e1, upd_same, y xs (ex_t e h), y2 ys (ex_t e h2)⟩
section
variable {K : PySem.W.Frag} {mg : Str → Option Value} {σ : L2.St} {H G : Hp} {Ns : List Hp} {ta tb te tx : TE} {tr : TA} {t tt : TT} {v : V} {P : Hp → V → Prop} {W : WX} {D : Ends} {tu tw tz : TS} {g : TG} {wi : TI} {n : Nat} {Y : Nat → V → Hp → Prop}
theorem ei_list {a : Addr} {xs : List V} (h : Ev te σ H (.ref a)) (hx : SqL K G a xs) (eg : Ex G H) : EvI (iList K te) σ H G xs.length fun i x _ => xs[i]? = some x := fun H1 e R q => h H1 e _ fun H2 e2 => ⟨a, rfl, ⟨xs, ex_l ((eg.trans e).trans e2) hx⟩, q _ H2 e2 (drw_list hx)⟩
theorem ei_tup {a : Addr} {xs : List V} (h : Ev te σ H (.ref a)) (hx : SqT K G a xs) (eg : Ex G H) : EvI (iTup K te) σ H G xs.length fun i x _ => xs[i]? = some x := fun H1 e R q => h H1 e _ fun H2 e2 => ⟨a, rfl, ⟨xs, ex_t ((eg.trans e).trans e2) hx⟩, q _ H2 e2 (drw_tup hx)⟩
theorem ei_rng1 {m : Int} (h : EvA tr σ H [.int m]) (hm : -100000 ≤ m ∧ m ≤ 100000) : EvI (iRng1 tr) σ H G m.toNat fun i x _ => x = .int (i : Nat) := fun H1 e R q => h H1 e _ fun H2 e2 => ⟨m, rfl, by omega, by omega, q _ H2 e2 ⟨drw_rng.go, drw_rng.stop (G := G), fun i H' x H'' a hi y => by
  obtain ⟨z1, z2⟩ := (drw_rng (G := G)).yld i H' x H'' a hi y
  exact ⟨z1, by rw [z2, Int.zero_add]⟩⟩⟩
theorem ei_rng2 {l m : Int} (h : EvA tr σ H [.int l, .int m]) (hm : -100000 ≤ m ∧ m ≤ 100000) (hl : -100000 ≤ l ∧ l ≤ 100000) : EvI (iRng2 tr) σ H G (m - l).toNat fun i x _ => x = .int (l + (i : Nat)) := fun H1 e R q => h H1 e _ fun H2 e2 => ⟨l, m, rfl, ⟨by omega, by omega, by omega, by omega⟩, q _ H2 e2 drw_rng⟩
theorem ei_str {w : Str} (h : Ev te σ H (.str w)) : EvI (iStr te) σ H G w.cps.size fun i x _ => ∃ c, w.cps[i]? = some c ∧ x = .str ⟨#[c]⟩ := fun H1 e R q => h H1 e _ fun H2 e2 => ⟨w, rfl, q _ H2 e2 drw_str⟩
theorem ei_enum {a : Addr} {xs : List V} (h : EvA tr σ H [.ref a]) (hx : SqL K G a xs) (eg : Ex G H) : EvI (iEnum K tr) σ H G xs.length fun i x H' => ∃ T y, x = .ref T ∧ H' T = some (.tup [.int (i : Nat), y]) ∧ xs[i]? = some y := fun H1 e R q => h H1 e _ fun H2 e2 => ⟨a, xs, rfl, ex_l ((eg.trans e).trans e2) hx, q _ H2 e2 (drw_enum hx)⟩
theorem ei_zip {a b : Addr} {xs ys : List V} (h : EvA tr σ H [.ref a, .ref b]) (hx : SqL K G a xs) (hy : SqL K G b ys) (hl : xs.length = ys.length) (eg : Ex G H) : EvI (RZ.iZipA K tr) σ H G xs.length fun i x H' => ∃ T y z, x = .ref T ∧ H' T = some (.tup [y, z]) ∧ xs[i]? = some y ∧ ys[i]? = some z := fun H1 e R q =>
  h H1 e _ fun H2 e2 => ⟨a, b, xs, ys, rfl, .inl ⟨ex_l ((eg.trans e).trans e2) hx, ex_l ((eg.trans e).trans e2) hy, q _ H2 e2 (drw_zip hx hy hl)⟩⟩
theorem ei_zipT {a b : Addr} {xs ys : List V} (h : EvA tr σ H [.ref a, .ref b]) (hx : SqT K G a xs) (hy : SqT K G b ys) (hl : xs.length = ys.length) (eg : Ex G H) : EvI (RZ.iZipA K tr) σ H G xs.length fun i x H' => ∃ T y z, x = .ref T ∧ H' T = some (.tup [y, z]) ∧ xs[i]? = some y ∧ ys[i]? = some z := fun H1 e R q =>
  h H1 e _ fun H2 e2 => ⟨a, b, xs, ys, rfl, .inr ⟨ex_t ((eg.trans e).trans e2) hx, ex_t ((eg.trans e).trans e2) hy, q _ H2 e2 (drw_zipT hx hy hl)⟩⟩
/-- the list walked is new -/
theorem ej_list {xs : List V} (h : EvL te σ H xs) : EvJ (iList K te) σ H xs.length fun i x _ => xs[i]? = some x := fun H1 e R q => h H1 e _ fun p H2 hp e2 h2 => ⟨p, rfl, ⟨xs, sq_of h2⟩, q _ H2 (sing p (.lst xs)) e2 (sing_ex h2) (sing_fr hp) (drw_list (sq_of sing_at))⟩
theorem ej_enum {xs : List V} (h : EvL te σ H xs) : EvJ (iEnum K (tCons te tNil)) σ H xs.length fun i x H' => ∃ T y, x = .ref T ∧ H' T = some (.tup [.int (i : Nat), y]) ∧ xs[i]? = some y := fun H1 e R q => h H1 e _ fun p H2 hp e2 h2 => ⟨p, xs, rfl, sq_of h2, q _ H2 (sing p (.lst xs)) e2 (sing_ex h2) (sing_fr hp) (drw_enum (sq_of sing_at))⟩
/-- any new list, its items told by what holds of the list -/
theorem ej_listP {X : List V → Hp → Prop} (h : EvP te σ H (fun N v => ∃ p xs, v = .ref p ∧ N p = some (.lst xs) ∧ X xs N)) : ∀ H1, Ex H H1 → ∀ R : L2.It → Hp → Prop, (∀ J H2 N xs, Ex H1 H2 → Ex N H2 → Fr H1 N → X xs N → Drw J N xs.length (fun i x _ => xs[i]? = some x) → R J H2) → iList K te σ H1 R := fun H1 e R q =>
  h H1 e _ fun v H2 N e2 e3 f ⟨p, xs, ev, hp, hX⟩ => ⟨p, ev, ⟨xs, sq_of (e3 _ _ hp)⟩, q _ H2 N xs e2 e3 f hX (drw_list (sq_of hp))⟩
/-! ### loops -/
theorem for_drw {J : L2.It} (d : Drw J G n Y) (Pv : Nat → L2.St → Hp → Prop) (h0 : Pv 0 σ H) (hG : ∀ i σ' H', i ≤ n → Pv i σ' H' → Ex G H')
    (hs : ∀ i x σ' H' H'', i < n → Pv i σ' H' → Ex H' H'' → Y i x H'' → g x σ' H'' fun σ2 H2 => tu { D with nx := Pv (i + 1), ct := Pv (i + 1), bk := D.nx } σ2 H2) (hd : ∀ σ' H', Pv n σ' H' → D.nx σ' H') :
    ∃ W : Nat → Nat → L2.St → Hp → Prop, (∃ m, W 0 m σ H) ∧ ∀ i m σ H, W i m σ H →
      (J.stop i H ∧ D.nx σ H) ∨ (J.go i H ∧ ∃ N : L2.St → Hp → Prop, (∀ σ' H', N σ' H' → ∃ m', m' < m ∧ W (i + 1) m' σ' H') ∧ ∀ x H', J.yld i H x H' → g x σ H' fun σ2 H2 => tu { D with nx := N, ct := N, bk := D.nx } σ2 H2) := by
  refine ⟨fun i m σ H => m = n - i ∧ i ≤ n ∧ Pv i σ H, ⟨n, by simp, Nat.zero_le _, h0⟩, ?_⟩
  rintro i m σ H ⟨rfl, hi, p⟩
  have eG := hG i σ H hi p
  by_cases hlt : i < n
  · refine .inr ⟨d.go i H eG hlt, Pv (i + 1), fun σ' H' p' => ⟨n - (i + 1), by omega, rfl, hlt, p'⟩, fun x H' y => ?_⟩
    obtain ⟨e, y⟩ := d.yld i H x H' eG hlt y
    exact hs i x σ H H' hlt p e y
  · have e : i = n := by omega
    subst e
    exact .inl ⟨d.stop H eG, hd σ H p⟩
theorem s_for (o : Own Ns H) (hi : EvI wi σ H G n Y) (Pv : Nat → L2.St → Hp → Prop) (h0 : ∀ H1, Own Ns H1 → Pv 0 σ H1) (hG : ∀ i σ' H', i ≤ n → Pv i σ' H' → Ex G H')
    (hs : ∀ i x σ' H' H'', i < n → Pv i σ' H' → Ex H' H'' → Y i x H'' → g x σ' H'' fun σ2 H2 => tu { D with nx := Pv (i + 1), ct := Pv (i + 1), bk := D.nx } σ2 H2) (hd : ∀ σ' H', Pv n σ' H' → D.nx σ' H') : tFor wi g tu D σ H :=
  hi H (Ex.refl H) _ fun J H1 e d => for_drw d Pv (h0 H1 (o.mono e)) hG hs hd
theorem q_for (o : Own Ns H) (hi : EvI wi σ H G n Y) (Pv : Nat → L2.St → Hp → Prop) (h0 : ∀ H1, Own Ns H1 → Pv 0 σ H1) (hG : ∀ i σ' H', i ≤ n → Pv i σ' H' → Ex G H')
    (hs : ∀ i x σ' H' H'', i < n → Pv i σ' H' → Ex H' H'' → Y i x H'' → g x σ' H'' fun σ2 H2 => tu { D with nx := Pv (i + 1), ct := Pv (i + 1), bk := tz D } σ2 H2) (hd : ∀ σ' H', Pv n σ' H' → tz D σ' H') : tSeq (tFor wi g tu) tz D σ H :=
  s_for (D := { D with nx := tz D }) o hi Pv h0 hG hs hd
/-- over something new: N is told to the word -/
theorem s_forJ (o : Own Ns H) (hi : EvJ wi σ H n Y) (Pv : Hp → Nat → L2.St → Hp → Prop) (h0 : ∀ N H1, Own (N :: Ns) H1 → Pv N 0 σ H1) (hG : ∀ N i σ' H', i ≤ n → Pv N i σ' H' → Ex N H')
    (hs : ∀ N i x σ' H' H'', i < n → Pv N i σ' H' → Ex H' H'' → Y i x H'' → g x σ' H'' fun σ2 H2 => tu { D with nx := Pv N (i + 1), ct := Pv N (i + 1), bk := D.nx } σ2 H2) (hd : ∀ N σ' H', Pv N n σ' H' → D.nx σ' H') : tFor wi g tu D σ H :=
  hi H (Ex.refl H) _ fun J H1 N e e2 f d => for_drw d (Pv N) (h0 N H1 (o.add e e2 f)) (hG N) (hs N) (hd N)
theorem q_forJ (o : Own Ns H) (hi : EvJ wi σ H n Y) (Pv : Hp → Nat → L2.St → Hp → Prop) (h0 : ∀ N H1, Own (N :: Ns) H1 → Pv N 0 σ H1) (hG : ∀ N i σ' H', i ≤ n → Pv N i σ' H' → Ex N H')
    (hs : ∀ N i x σ' H' H'', i < n → Pv N i σ' H' → Ex H' H'' → Y i x H'' → g x σ' H'' fun σ2 H2 => tu { D with nx := Pv N (i + 1), ct := Pv N (i + 1), bk := tz D } σ2 H2) (hd : ∀ N σ' H', Pv N n σ' H' → tz D σ' H') : tSeq (tFor wi g tu) tz D σ H :=
  s_forJ (D := { D with nx := tz D }) o hi Pv h0 hG hs hd
/-! ### comprehensions -/
theorem lc_drw {J : L2.It} {vs : List Nat} {H1 : Hp} {Dl : Addr} {Qd : Hp → Prop} (d : Drw J G n Y) (Pv : Nat → Hp → Prop) (h0 : Pv 0 (upd H1 Dl (.lst []))) (hG : ∀ i H', i ≤ n → Pv i H' → Ex G H')
    (hs : ∀ i x H' H'', i < n → Pv i H' → Ex H' H'' → Y i x H'' → g x (wipe σ vs) H'' fun σ2 H2 => wipe σ2 vs = wipe σ vs ∧ tt σ2 H2 fun b H3 =>
      if b = true then te σ2 H3 fun y H4 => ∃ acc, H4 Dl = some (.lst acc) ∧ acc.length < sizeLine ∧ Pv (i + 1) (upd H4 Dl (.lst (acc ++ [y]))) else Pv (i + 1) H3) (hd : ∀ H', Pv n H' → Qd H') :
    ∃ W : Nat → Nat → Hp → Prop, (∃ m, W 0 m (upd H1 Dl (.lst []))) ∧ ∀ i m H, W i m H →
      (J.stop i H ∧ Qd H) ∨ (J.go i H ∧ ∃ Nx : Hp → Prop, (∀ H', Nx H' → ∃ m', m' < m ∧ W (i + 1) m' H') ∧ ∀ x H', J.yld i H x H' → g x (wipe σ vs) H' fun σ2 H2 => wipe σ2 vs = wipe σ vs ∧ tt σ2 H2 fun b H3 =>
        if b = true then te σ2 H3 fun y H4 => ∃ acc, H4 Dl = some (.lst acc) ∧ acc.length < sizeLine ∧ Nx (upd H4 Dl (.lst (acc ++ [y]))) else Nx H3) := by
  refine ⟨fun i m H => m = n - i ∧ i ≤ n ∧ Pv i H, ⟨n, by simp, Nat.zero_le _, h0⟩, ?_⟩
  rintro i m H ⟨rfl, hi, p⟩
  have eG := hG i H hi p
  by_cases hlt : i < n
  · refine .inr ⟨d.go i H eG hlt, Pv (i + 1), fun H' p' => ⟨n - (i + 1), by omega, rfl, hlt, p'⟩, fun x H' y => ?_⟩
    obtain ⟨e, y⟩ := d.yld i H x H' eG hlt y
    exact hs i x H H' hlt p e y
  · have e : i = n := by omega
    subst e
    exact .inl ⟨d.stop H eG, hd H p⟩
/-- the places that are taken -/
def picks (n : Nat) (f : Nat → Bool) : List Nat := (List.range n).filter f
theorem picks_yes {i : Nat} {f : Nat → Bool} (h : f i = true) : picks (i + 1) f = picks i f ++ [i] := by
  unfold picks
  rw [List.range_succ, List.filter_append, List.filter_cons, if_pos h]
  rfl
theorem picks_no {i : Nat} {f : Nat → Bool} (h : f i = false) : picks (i + 1) f = picks i f := by
  unfold picks
  rw [List.range_succ, List.filter_append, List.filter_cons, if_neg (by rw [h]; decide)]
  exact List.append_nil _
theorem picks_len (n : Nat) (f : Nat → Bool) : (picks n f).length ≤ n := by
  have h := List.length_filter_le f (List.range n)
  rw [List.length_range] at h
  exact h
theorem paired_snoc {α β : Type} {R : α → β → Prop} : ∀ {xs : List α} {ys : List β} {x : α} {y : β}, Paired R xs ys → R x y → Paired R (xs ++ [x]) (ys ++ [y])
  | _, _, _, _, .nil, h => .cons h .nil
  | _, _, _, _, .cons a r, h => .cons a (paired_snoc r h)
theorem paired_imp {α β : Type} {R R' : α → β → Prop} (i : ∀ x y, R x y → R' x y) : ∀ {xs : List α} {ys : List β}, Paired R xs ys → Paired R' xs ys
  | _, _, .nil => .nil
  | _, _, .cons a r => .cons (i _ _ a) (paired_imp i r)
/-- flat values -/
theorem el_lc {vs : List Nat} (S : Nat → L2.St) (f : Nat → Bool) (v : Nat → V) (hi : EvI wi σ H G n Y) (eG : Ex G H) (hn : n ≤ 50000) (hg : ∀ i x H', i < n → Y i x H' → ∀ Q : L2.St → Hp → Prop, Q (S i) H' → g x (wipe σ vs) H' Q) (hw : ∀ i, i < n → wipe (S i) vs = wipe σ vs)
    (ht : ∀ i H1, Ex H H1 → i < n → EvT tt (S i) H1 (f i)) (he : ∀ i H1, Ex H H1 → i < n → f i = true → Ev te (S i) H1 (v i)) : EvL (tLc wi g tt te vs) σ H ((picks n f).map v) := fun H0 e Q q =>
  hi H0 e _ fun J H1 e1 d Dl hD => lc_drw d (fun i H' => Ex H1 H' ∧ H' Dl = some (.lst ((picks i f).map v))) ⟨Ex.new hD, upd_same⟩ (fun i H' _ p => ((eG.trans e).trans e1).trans p.1) (fun i x H' H'' hlt p e2 hy => hg i x H'' hlt hy _ ⟨hw i hlt, by
    refine ht i H'' (((e.trans e1).trans p.1).trans e2) hlt H'' (Ex.refl _) _ fun H3 e3 => ?_
    cases hf : f i with
    | true =>
      show te (S i) H3 _
      refine he i H3 ((((e.trans e1).trans p.1).trans e2).trans e3) hlt hf H3 (Ex.refl _) _ fun H4 e4 => ⟨_, e4 _ _ (e3 _ _ (e2 _ _ p.2)), ?_, Ex.mut (((p.1.trans e2).trans e3).trans e4) hD, ?_⟩
      · rw [List.length_map]
        exact sz_lt (by have := picks_len i f; omega)
      · rw [upd_same, picks_yes hf, List.map_append]
        rfl
    | false =>
      show Ex H1 H3 ∧ H3 Dl = _
      refine ⟨(p.1.trans e2).trans e3, ?_⟩
      rw [picks_no hf]
      exact e3 _ _ (e2 _ _ p.2)⟩) (fun H' p => q Dl H' (fresh_back e1 hD) (e1.trans p.1) p.2)
/-- new values: the list and its items are one new part -/
theorem ep_lc {vs : List Nat} (S : Nat → L2.St) (f : Nat → Bool) (Pe : Nat → Hp → V → Prop) (pm : ∀ i N N' v, Ex N N' → Pe i N v → Pe i N' v) (hi : EvI wi σ H G n Y) (eG : Ex G H) (hn : n ≤ 50000) (hg : ∀ i x H', i < n → Y i x H' → ∀ Q : L2.St → Hp → Prop, Q (S i) H' → g x (wipe σ vs) H' Q) (hw : ∀ i, i < n → wipe (S i) vs = wipe σ vs)
    (ht : ∀ i H1, Ex H H1 → i < n → EvT tt (S i) H1 (f i)) (he : ∀ i H1, Ex H H1 → i < n → f i = true → EvP te (S i) H1 (Pe i)) :
    EvP (tLc wi g tt te vs) σ H (fun N v => ∃ p xs, v = .ref p ∧ N p = some (.lst xs) ∧ Paired (fun i x => Pe i N x) (picks n f) xs) := fun H0 e Q q =>
  hi H0 e _ fun J H1 e1 d Dl hD => lc_drw d (fun i H' => ∃ N xs, Own [sing Dl (.lst xs), N, H1] H' ∧ Paired (fun i x => Pe i N x) (picks i f) xs ∧ xs.length ≤ i)
    ⟨emp, [], ⟨sing_ex upd_same, fun M hM a ha => by
      rcases List.mem_cons.mp hM with z | z
      · subst z; rfl
      · have z : M = H1 := by simpa using z
        subst z
        by_cases qa : a = Dl
        · subst qa; exact hD
        · exact absurd (sing_ne qa) ha, emp_ex, (fun _ _ a ha => absurd rfl ha), Ex.new hD, (fun _ h => nomatch h), trivial⟩, .nil, Nat.le_refl _⟩
    (fun i H' _ ⟨N, xs, o, _⟩ => ((eG.trans e).trans e1).trans o.e2) (fun i x H' H'' hlt ⟨N, xs, o, pr, hl⟩ e2 hy => hg i x H'' hlt hy _ ⟨hw i hlt, by
      have o2 := o.mono e2
      refine ht i H'' ((e.trans e1).trans o2.e2) hlt H'' (Ex.refl _) _ fun H3 e3 => ?_
      have o3 := o2.mono e3
      cases hf : f i with
      | true =>
        show te (S i) H3 _
        refine he i H3 ((e.trans e1).trans o3.e2) hlt hf H3 (Ex.refl _) _ fun y H4 N2 e4 i2 f2 py => ?_
        have o4 : Own [N2, sing Dl (.lst xs), N, H1] H4 := o3.add e4 i2 f2
        refine ⟨xs, o4.at (j := 1) rfl, sz_lt (by omega), uni N N2, xs ++ [y], ?_, ?_, ?_⟩
        · have o5 : Own [N2, sing Dl (.lst (xs ++ [y])), N, H1] (upd H4 Dl (.lst (xs ++ [y]))) := o4.set (j := 1) rfl
          have o6 : Own [sing Dl (.lst (xs ++ [y])), N2, N, H1] (upd H4 Dl (.lst (xs ++ [y]))) := o5.swap
          have o7 : Own [uni N N2, H1] (upd H4 Dl (.lst (xs ++ [y]))) := o6.tail.merge
          refine ⟨o6.1, fun M hM a ha => ?_, o7⟩
          rcases List.mem_cons.mp hM with z | z
          · subst z
            have d1 := o6.dj (i := 0) (j := 1) (by decide) rfl rfl
            have d2 := o6.dj (i := 0) (j := 2) (by decide) rfl rfl
            unfold uni
            rw [d1 a ha]
            exact d2 a ha
          · exact o6.2.1 M (List.mem_cons_of_mem _ (List.mem_cons_of_mem _ z)) a ha
        · rw [picks_yes hf]
          have dN : ∀ a, N2 a ≠ none → N a = none := o4.dj (i := 0) (j := 2) (by decide) rfl rfl
          exact paired_snoc (paired_imp (fun j z h => pm j _ _ _ (uni_l dN) h) pr) (pm i _ _ _ uni_r py)
        · rw [List.length_append, List.length_singleton]
          omega
      | false =>
        show ∃ N xs, _
        refine ⟨N, xs, o3, ?_, by omega⟩
        rw [picks_no hf]
        exact pr⟩) (fun H' ⟨N, xs, o, pr, _⟩ => q (.ref Dl) H' (uni N (sing Dl (.lst xs))) (e1.trans o.e2) (uni_ex o.e1 o.e0) (uni_fr (Fr.back e1 (o.dj (i := 1) (j := 2) (by decide) rfl rfl)) (sing_fr (fresh_back e1 hD))) ⟨Dl, xs, rfl, uni_r _ _ sing_at, paired_imp (fun j z h => pm j _ _ _ (uni_l (o.dj (i := 0) (j := 1) (by decide) rfl rfl)) h) pr⟩)
end
end Kj
namespace Kj
open PySem PySem.Spec PyProof.Rows L2 Evl
/-! ### by the items themselves -/
theorem picks_items {α β : Type} (d : α) (t : α → Bool) (f : α → β) : ∀ xs : List α, (picks xs.length fun i => t (xs.getD i d)).map (fun i => f (xs.getD i d)) = (xs.filter t).map f := by
  intro xs
  have key : ∀ n, n ≤ xs.length → (picks n fun i => t (xs.getD i d)).map (fun i => f (xs.getD i d)) = ((xs.take n).filter t).map f := by
    intro n
    induction n with
    | zero => intro _; rfl
    | succ n ih =>
      intro hn
      have hlt : n < xs.length := hn
      have e1 : xs.take (n + 1) = xs.take n ++ [xs[n]] := List.take_succ_eq_append_getElem hlt
      have e2 : xs.getD n d = xs[n] := by
        rw [List.getD_eq_getElem?_getD, List.getElem?_eq_getElem hlt]
        rfl
      cases ht : t (xs.getD n d) with
      | true =>
        rw [picks_yes (f := fun i => t (xs.getD i d)) ht, List.map_append, ih (by omega), e1, List.filter_append, List.map_append]
        congr 1
        rw [List.filter_cons, if_pos (by rw [← e2]; exact ht), ← e2]
        rfl
      | false =>
        rw [picks_no (f := fun i => t (xs.getD i d)) ht, ih (by omega), e1, List.filter_append, List.map_append]
        rw [List.filter_cons, if_neg (by rw [← e2, ht]; decide)]
        exact (List.append_nil _).symm
  have h := key xs.length (Nat.le_refl _)
  rw [List.take_length] at h
  exact h
section
variable {K : PySem.W.Frag} {mg : Str → Option Value} {σ : L2.St} {H G : Hp} {te : TE} {tr : TA} {tt : TT} {g : TG} {wi : TI}
theorem getD_of {xs : List V} {i : Nat} {x : V} (h : xs[i]? = some x) : xs.getD i .non = x := by
  rw [List.getD_eq_getElem?_getD, h]
  rfl
theorem get_of {xs : List V} {i : Nat} (h : i < xs.length) : xs[i]? = some (xs.getD i .non) := by
  rw [List.getD_eq_getElem?_getD, List.getElem?_eq_getElem h]
  rfl
theorem el_lcX {xs : List V} {vs : List Nat} (S : V → L2.St) (t : V → Bool) (f : V → V) (hi : EvI wi σ H G xs.length fun i x _ => xs[i]? = some x) (eG : Ex G H) (hn : xs.length ≤ 50000) (hg : ∀ x H', x ∈ xs → ∀ Q : L2.St → Hp → Prop, Q (S x) H' → g x (wipe σ vs) H' Q) (hw : ∀ x, wipe (S x) vs = wipe σ vs)
    (ht : ∀ x H1, Ex H H1 → x ∈ xs → EvT tt (S x) H1 (t x)) (he : ∀ x H1, Ex H H1 → x ∈ xs → t x = true → Ev te (S x) H1 (f x)) : EvL (tLc wi g tt te vs) σ H ((xs.filter t).map f) := by
  have m : ∀ {i}, i < xs.length → xs.getD i .non ∈ xs := fun h => List.mem_of_getElem? (get_of h)
  have h := el_lc (fun i => S (xs.getD i .non)) (fun i => t (xs.getD i .non)) (fun i => f (xs.getD i .non)) hi eG hn (fun i x H' hlt hx Q q => by rw [getD_of hx] at q; exact hg x H' (List.mem_of_getElem? hx) Q q) (fun i _ => hw _) (fun i H1 e hlt => ht _ H1 e (m hlt)) (fun i H1 e hlt h => he _ H1 e (m hlt) h)
  rw [picks_items] at h
  exact h
theorem paired_picks {R : V → V → Prop} {t : V → Bool} : ∀ {xs ys : List V}, Paired (fun (i : Nat) y => R (xs.getD i .non) y) (picks xs.length fun i => t (xs.getD i .non)) ys → Paired R (xs.filter t) ys := by
  intro xs ys h
  have e : xs.filter t = (picks xs.length fun i => t (xs.getD i .non)).map fun i => xs.getD i .non := by
    rw [picks_items (f := fun x : V => x)]
    simp
  rw [e]
  generalize (picks xs.length fun i => t (xs.getD i .non)) = is at h
  induction h with
  | nil => exact .nil
  | cons a _ ih => exact .cons a ih
theorem ep_lcX {xs : List V} {vs : List Nat} (S : V → L2.St) (t : V → Bool) (Pe : V → Hp → V → Prop) (pm : ∀ x N N' v, Ex N N' → Pe x N v → Pe x N' v) (hi : EvI wi σ H G xs.length fun i x _ => xs[i]? = some x) (eG : Ex G H) (hn : xs.length ≤ 50000) (hg : ∀ x H', x ∈ xs → ∀ Q : L2.St → Hp → Prop, Q (S x) H' → g x (wipe σ vs) H' Q) (hw : ∀ x, wipe (S x) vs = wipe σ vs)
    (ht : ∀ x H1, Ex H H1 → x ∈ xs → EvT tt (S x) H1 (t x)) (he : ∀ x H1, Ex H H1 → x ∈ xs → t x = true → EvP te (S x) H1 (Pe x)) :
    EvP (tLc wi g tt te vs) σ H (fun N v => ∃ p ys, v = .ref p ∧ N p = some (.lst ys) ∧ Paired (fun x y => Pe x N y) (xs.filter t) ys) := by
  have m : ∀ {i}, i < xs.length → xs.getD i .non ∈ xs := fun h => List.mem_of_getElem? (get_of h)
  refine ep_imp (ep_lc (fun i => S (xs.getD i .non)) (fun i => t (xs.getD i .non)) (fun i => Pe (xs.getD i .non)) (fun i N N' v e h => pm _ N N' v e h) hi eG hn (fun i x H' hlt hx Q q => by rw [getD_of hx] at q; exact hg x H' (List.mem_of_getElem? hx) Q q) (fun i _ => hw _) (fun i H1 e hlt => ht _ H1 e (m hlt)) (fun i H1 e hlt h => he _ H1 e (m hlt) h)) ?_
  rintro N v ⟨p, ys, e, h1, h2⟩
  exact ⟨p, ys, e, h1, paired_picks h2⟩
def signs (w : Str) : List V := w.cps.toList.map fun c => .str ⟨#[c]⟩
theorem signs_len (w : Str) : (signs w).length = w.length := by
  unfold signs
  rw [List.length_map]
  simp [Str.length]
theorem ei_strX {w : Str} (h : Ev te σ H (.str w)) : EvI (iStr te) σ H G (signs w).length fun i x _ => (signs w)[i]? = some x := fun H1 e R q => ei_str (G := G) h H1 e R fun J H2 e2 d => q J H2 e2 ⟨fun i H' a hi => d.go i H' a (by rw [signs_len] at hi; exact hi), fun H' a => by rw [signs_len]; exact d.stop H' a, fun i H' x H'' a hi y => by
  obtain ⟨e3, c, hc, rfl⟩ := d.yld i H' x H'' a (by rw [signs_len] at hi; exact hi) y
  refine ⟨e3, ?_⟩
  unfold signs
  rw [List.getElem?_map, Array.getElem?_toList, hc]
  rfl⟩
def rngV (n : Nat) : List V := (List.range n).map fun i => .int (i : Nat)
theorem rngV_len (n : Nat) : (rngV n).length = n := by simp [rngV]
theorem ei_rngX {m : Int} (h : EvA tr σ H [.int m]) (hm : -100000 ≤ m ∧ m ≤ 100000) : EvI (iRng1 tr) σ H G (rngV m.toNat).length fun i x _ => (rngV m.toNat)[i]? = some x := fun H1 e R q => ei_rng1 (G := G) h hm H1 e R fun J H2 e2 d => q J H2 e2 ⟨fun i H' a hi => d.go i H' a (by rw [rngV_len] at hi; exact hi), fun H' a => by rw [rngV_len]; exact d.stop H' a, fun i H' x H'' a hi y => by
  rw [rngV_len] at hi
  obtain ⟨e3, rfl⟩ := d.yld i H' x H'' a hi y
  refine ⟨e3, ?_⟩
  unfold rngV
  rw [List.getElem?_map, List.getElem?_range hi]
  rfl⟩
def rngV2 (l : Int) (n : Nat) : List V := (List.range n).map fun i => .int (l + (i : Nat))
theorem rngV2_len (l : Int) (n : Nat) : (rngV2 l n).length = n := by simp [rngV2]
theorem ei_rngX2 {l m : Int} (h : EvA tr σ H [.int l, .int m]) (hm : -100000 ≤ m ∧ m ≤ 100000) (hl : -100000 ≤ l ∧ l ≤ 100000) : EvI (iRng2 tr) σ H G (rngV2 l (m - l).toNat).length fun i x _ => (rngV2 l (m - l).toNat)[i]? = some x := fun H1 e R q => ei_rng2 (G := G) h hm hl H1 e R fun J H2 e2 d => q J H2 e2 ⟨fun i H' a hi => d.go i H' a (by rw [rngV2_len] at hi; exact hi), fun H' a => by rw [rngV2_len]; exact d.stop H' a, fun i H' x H'' a hi y => by
  rw [rngV2_len] at hi
  obtain ⟨e3, rfl⟩ := d.yld i H' x H'' a hi y
  refine ⟨e3, ?_⟩
  unfold rngV2
  rw [List.getElem?_map, List.getElem?_range hi]
  rfl⟩
theorem et_yes : EvT tYes σ H true := fun H1 _ _ q => q H1 (Ex.refl H1)
end
end Kj
namespace Kj
open PySem PySem.Spec PyProof.Rows L2 Evl
section
variable {K : PySem.W.Frag} {σ : L2.St} {H G : Hp} {Ns : List Hp} {D : Ends} {tu tz : TS} {wi : TI} {n j : Nat} {Y : Nat → V → Hp → Prop}
/-! ### the loop's target is a name -/
theorem s_forN (o : Own Ns H) (hi : EvI wi σ H G n Y) (Pv : Nat → L2.St → Hp → Prop) (h0 : ∀ H1, Own Ns H1 → Pv 0 σ H1) (hG : ∀ i σ' H', i ≤ n → Pv i σ' H' → Ex G H')
    (hs : ∀ i x σ' H' H'', i < n → Pv i σ' H' → Ex H' H'' → Y i x H'' → tu { D with nx := Pv (i + 1), ct := Pv (i + 1), bk := D.nx } (σ'.set j (some x)) H'') (hd : ∀ σ' H', Pv n σ' H' → D.nx σ' H') : tFor wi (gName j) tu D σ H := s_for o hi Pv h0 hG hs hd
theorem q_forN (o : Own Ns H) (hi : EvI wi σ H G n Y) (Pv : Nat → L2.St → Hp → Prop) (h0 : ∀ H1, Own Ns H1 → Pv 0 σ H1) (hG : ∀ i σ' H', i ≤ n → Pv i σ' H' → Ex G H')
    (hs : ∀ i x σ' H' H'', i < n → Pv i σ' H' → Ex H' H'' → Y i x H'' → tu { D with nx := Pv (i + 1), ct := Pv (i + 1), bk := tz D } (σ'.set j (some x)) H'') (hd : ∀ σ' H', Pv n σ' H' → tz D σ' H') : tSeq (tFor wi (gName j) tu) tz D σ H := q_for o hi Pv h0 hG hs hd
theorem s_forNJ (o : Own Ns H) (hi : EvJ wi σ H n Y) (Pv : Hp → Nat → L2.St → Hp → Prop) (h0 : ∀ N H1, Own (N :: Ns) H1 → Pv N 0 σ H1) (hG : ∀ N i σ' H', i ≤ n → Pv N i σ' H' → Ex N H')
    (hs : ∀ N i x σ' H' H'', i < n → Pv N i σ' H' → Ex H' H'' → Y i x H'' → tu { D with nx := Pv N (i + 1), ct := Pv N (i + 1), bk := D.nx } (σ'.set j (some x)) H'') (hd : ∀ N σ' H', Pv N n σ' H' → D.nx σ' H') : tFor wi (gName j) tu D σ H := s_forJ o hi Pv h0 hG hs hd
theorem q_forNJ (o : Own Ns H) (hi : EvJ wi σ H n Y) (Pv : Hp → Nat → L2.St → Hp → Prop) (h0 : ∀ N H1, Own (N :: Ns) H1 → Pv N 0 σ H1) (hG : ∀ N i σ' H', i ≤ n → Pv N i σ' H' → Ex N H')
    (hs : ∀ N i x σ' H' H'', i < n → Pv N i σ' H' → Ex H' H'' → Y i x H'' → tu { D with nx := Pv N (i + 1), ct := Pv N (i + 1), bk := tz D } (σ'.set j (some x)) H'') (hd : ∀ N σ' H', Pv N n σ' H' → tz D σ' H') : tSeq (tFor wi (gName j) tu) tz D σ H := q_forJ o hi Pv h0 hG hs hd
end
end Kj

/-! Kj4: data: items, kinds, depth; isinstance. -/
namespace Kj
open PySem PySem.Spec PyProof.Rows L2 Evl
section
variable {K : PySem.W.Frag} {H H' : Hp}
theorem dpa_len : ∀ {xs : List V} {ds : List PyData}, DpAll K H xs ds → xs.length = ds.length
  | _, _, .nil => rfl
  | _, _, .cons _ r => by rw [List.length_cons, List.length_cons, dpa_len r]
theorem dpa_get : ∀ {xs : List V} {ds : List PyData} {i : Nat} {x : V}, DpAll K H xs ds → xs[i]? = some x → ∃ d, ds[i]? = some d ∧ Dp K H x d
  | _, _, _, _, .nil, e => by simp at e
  | _, _, 0, _, .cons h _, e => by
    simp at e
    subst e
    exact ⟨_, rfl, h⟩
  | _, _, i + 1, _, .cons _ r, e => by
    obtain ⟨d, h1, h2⟩ := dpa_get (i := i) r (by simpa using e)
    exact ⟨d, by simpa using h1, h2⟩
theorem depthAll_get : ∀ {ds : List PyData} {i : Nat} {d : PyData}, ds[i]? = some d → d.depth ≤ PyData.depthAll ds
  | [], _, _, e => by simp at e
  | x :: r, 0, _, e => by
    simp at e
    subst e
    simp only [PyData.depthAll]
    omega
  | x :: r, i + 1, _, e => by
    have h := depthAll_get (ds := r) (i := i) (by simpa using e)
    simp only [PyData.depthAll]
    omega
/-- the kind of a datum -/
def kindS : PyData → String
  | .none => "NoneType"
  | .bool _ => "bool"
  | .int _ => "int"
  | .str _ => "str"
  | .list _ => "list"
  | .tuple _ => "tuple"
  | .dict _ => "dict"
theorem ty_sqL {a : Addr} {xs : List V} (h : SqL K H a xs) : TyX K H (.ref a) (.type "list") := by
  rcases h with (h | ⟨o, h⟩) | ⟨o, its, n, h1, h2, _⟩
  · exact .base (.lst h)
  · exact .base (.frz h)
  · exact .kList h1 h2
theorem ty_sqT {a : Addr} {xs : List V} (h : SqT K H a xs) : TyX K H (.ref a) (.type "tuple") := by
  rcases h with (h | ⟨o, h⟩) | ⟨o, its, n, h1, h2, _⟩
  · exact .base (.tup h)
  · exact .fTuple h
  · exact .kTuple h1 h2
theorem ty_dp {x : V} {d : PyData} (h : Dp K H x d) : TyX K H x (.type (kindS d)) := by
  cases h with
  | non => exact .base .non
  | bl b => exact .base (.bl b)
  | int i => exact .base (.int i)
  | str s => exact .base (.str s)
  | lst h _ => exact ty_sqL h
  | tup h _ => exact ty_sqT h
/-- isinstance(x, T) of a datum -/
theorem ev_isi {σ : L2.St} {te : TE} {x : V} {d : PyData} {n : String} {b : Bool} (h : Ev te σ H x) (hd : Dp K H x d) (hk : kitB (kindS d) n = some b) : Ev (tCB (rIsiU K) (tCons te (tCons (tC (.ty n)) tNil))) σ H (.bl b) := fun H1 e Q q =>
  h H1 e _ fun H2 e2 => .inl ⟨x, .ty n, .type (kindS d), .type n, b, rfl, .ty n, ty_dp (dp_mono (e.trans e2) hd), kit_ty hk, q H2 e2⟩
/-- isinstance(x, (T1, T2)) -/
theorem ev_isi2 {σ : L2.St} {te : TE} {x : V} {d : PyData} {n1 n2 : String} {b1 b2 : Bool} (h : Ev te σ H x) (hd : Dp K H x d) (hk1 : kitB (kindS d) n1 = some b1) (hk2 : kitB (kindS d) n2 = some b2) :
    Ev (tCB (rIsiU K) (tCons te (tCons (tTup (tCons (tC (.ty n1)) (tCons (tC (.ty n2)) tNil))) tNil))) σ H (.bl (b1 || b2)) := fun H1 e Q q =>
  h H1 e _ fun H2 e2 => ⟨by show 2 ≤ sizeLine; decide, fun p hp => .inr ⟨x, p, [.ty n1, .ty n2], .type (kindS d), [.type n1, .type n2], b1 || b2, rfl, upd_same, .cons (.ty n1) (.cons (.ty n2) .nil), ty_dp (dp_mono ((e.trans e2).trans (Ex.new hp)) hd), by
    refine kitAny_cons (kit_ty hk1) (fun h1 => kitAny_cons (kit_ty hk2) (fun h2 => ?_) (fun h2 => ?_)) (fun h1 => ?_)
    · rw [kitAny_nil, h1, h2]; rfl
    · rw [h2, Bool.or_true]
    · rw [h1, Bool.true_or], q _ (e2.trans (Ex.new hp))⟩⟩
end
mutual
/-- no list in it is too long -/
def smD : PyData → Prop
  | .list ds => ds.length ≤ 40000 ∧ smA ds
  | .tuple ds => ds.length ≤ 40000 ∧ smA ds
  | .none | .bool _ | .int _ | .str _ | .dict _ => True
def smA : List PyData → Prop
  | [] => True
  | d :: r => smD d ∧ smA r
end
theorem smA_all : ∀ {ds : List PyData}, smA ds ↔ ∀ d ∈ ds, smD d
  | [] => by simp [smA]
  | d :: r => by simp [smA, smA_all (ds := r)]
theorem smD_list {ds : List PyData} : smD (.list ds) ↔ ds.length ≤ 40000 ∧ ∀ d ∈ ds, smD d := by simp only [smD, smA_all]
theorem smD_tuple {ds : List PyData} : smD (.tuple ds) ↔ ds.length ≤ 40000 ∧ ∀ d ∈ ds, smD d := by simp only [smD, smA_all]
theorem all_true {α : Type} (l : List α) : (l.map fun _ => true).all id = true := by
  rw [List.all_eq_true]
  intro b hb
  obtain ⟨_, _, rfl⟩ := List.mem_map.mp hb
  rfl
theorem rc_all {K : PySem.W.Frag} {H : Hp} {p : Addr} {bs : List Bool} (h : SqL K H p (bs.map V.bl)) : RC (rAll K) [.ref p] H (.bl (bs.all id)) := fun H1 e _ q => ⟨p, bs, rfl, ex_l e h, q H1 (Ex.refl H1)⟩
theorem rc_any {K : PySem.W.Frag} {H : Hp} {p : Addr} {bs : List Bool} (h : SqL K H p (bs.map V.bl)) : RC (rAny K) [.ref p] H (.bl (bs.any id)) := fun H1 e _ q => ⟨p, bs, rfl, ex_l e h, q H1 (Ex.refl H1)⟩
theorem kit_tt : kitB "tuple" "tuple" = some true := by decide +kernel
theorem kit_ll : kitB "list" "list" = some true := by decide +kernel
theorem kit_ii : kitB "int" "int" = some true := by decide +kernel
theorem kit_ib : kitB "int" "bool" = some false := by decide +kernel
theorem kit_bb : kitB "bool" "bool" = some true := by decide +kernel
theorem kit_bi : kitB "bool" "int" = some true := by decide +kernel
theorem kit_ss : kitB "str" "str" = some true := by decide +kernel
theorem kit_lt : kitB "list" "tuple" = some false := by decide +kernel
theorem kit_tl : kitB "tuple" "list" = some false := by decide +kernel
end Kj
namespace Kj
open PySem PySem.Spec PyProof.Rows L2 Evl
section
variable {K : PySem.W.Frag} {σ : L2.St} {H G : Hp} {te : TE} {tt : TT} {g : TG} {wi : TI}
theorem filter_all {α : Type} (l : List α) : l.filter (fun _ => true) = l := List.filter_eq_self.mpr fun _ _ => rfl
/-- all([e for x in ..]), any([..]) -/
theorem ev_allX {xs : List V} {vs : List Nat} (S : V → L2.St) (b : V → Bool) (hi : EvI wi σ H G xs.length fun i x _ => xs[i]? = some x) (eG : Ex G H) (hn : xs.length ≤ 50000) (hg : ∀ x H', x ∈ xs → ∀ Q : L2.St → Hp → Prop, Q (S x) H' → g x (wipe σ vs) H' Q) (hw : ∀ x, wipe (S x) vs = wipe σ vs)
    (he : ∀ x H1, Ex H H1 → x ∈ xs → Ev te (S x) H1 (.bl (b x))) : Ev (tCB (rAll K) (tCons (tLc wi g tYes te vs) tNil)) σ H (.bl (xs.all b)) :=
  ev_cb1 (ep_l (el_lcX S (fun _ => true) (fun x => .bl (b x)) hi eG hn hg hw (fun _ _ _ _ => et_yes) fun x H1 e hx _ => he x H1 e hx)) fun v N H2 e2 i2 ⟨p, ev, hp⟩ => by
    subst ev
    have e : xs.map (fun x => V.bl (b x)) = (xs.map b).map V.bl := by rw [List.map_map]; rfl
    rw [filter_all, e] at hp
    have z := rc_all (K := K) (sq_of (i2 _ _ hp))
    rw [List.all_map] at z
    exact z
theorem ev_anyX {xs : List V} {vs : List Nat} (S : V → L2.St) (b : V → Bool) (hi : EvI wi σ H G xs.length fun i x _ => xs[i]? = some x) (eG : Ex G H) (hn : xs.length ≤ 50000) (hg : ∀ x H', x ∈ xs → ∀ Q : L2.St → Hp → Prop, Q (S x) H' → g x (wipe σ vs) H' Q) (hw : ∀ x, wipe (S x) vs = wipe σ vs)
    (he : ∀ x H1, Ex H H1 → x ∈ xs → Ev te (S x) H1 (.bl (b x))) : Ev (tCB (rAny K) (tCons (tLc wi g tYes te vs) tNil)) σ H (.bl (xs.any b)) :=
  ev_cb1 (ep_l (el_lcX S (fun _ => true) (fun x => .bl (b x)) hi eG hn hg hw (fun _ _ _ _ => et_yes) fun x H1 e hx _ => he x H1 e hx)) fun v N H2 e2 i2 ⟨p, ev, hp⟩ => by
    subst ev
    have e : xs.map (fun x => V.bl (b x)) = (xs.map b).map V.bl := by rw [List.map_map]; rfl
    rw [filter_all, e] at hp
    have z := rc_any (K := K) (sq_of (i2 _ _ hp))
    rw [List.any_map] at z
    exact z
end
end Kj

/-! Kj5: own errors with fields, new instances, chains of comparisons, texts. -/
namespace Kj
open PySem PySem.Spec PyProof.Rows L2 Evl
/-! ### own errors whose __init__ lays fields -/
/-- what an __init__ that lays the fields fsn promises -/
def spXi (C : Addr) (fsn : List Str) : Sp := fun vs H Q _ => ∃ (a : Addr) (us : List V) (G : Hp), vs = .ref a :: us ∧ us.length = fsn.length ∧ H = upd G a (exo a C none) ∧ G a = none ∧
  ∀ d H2, G d = none → d ≠ a → H2 a = some (exo a C (some d)) → H2 d = some (exd d (fsn.zip us).reverse) → (∀ b, b ≠ a → b ≠ d → H2 b = G b) → Q .non H2
structure Xi (P : Program) (w : World) (K : PySem.W.Frag) (mg : Str → Option Value) (base : Heap) (x : Str) (C : Addr) (fsn : List Str) : Prop where
  g : mg x = some (.ref C)
  T : OexC K C
  ex : ∃ fI fd ps, PySem.W.findIn K (.ref C) "__init__" = some (some (.ref fI)) ∧ PySem.W.typeIn K (.ref fI) = some (.type "function") ∧ Binds K fd ps [] ∧ FnOk P w K mg base (L2.CX P w) 1 fI fd ps (spXi C fsn)
theorem pmk_exI {X : Cx} {x : Str} {C : Addr} {fsn : List Str} {k : Nat} {e : Expr} {es : List Expr} {p pos : Pos} {ta : TA} (c : Xi X.prog X.w X.K X.mg X.base x C fsn) (hr : Room k X.A) (hk : 2 ≤ k) (hg : Gl X x) (ha : PA X (e :: es) ta)
    (hdb : (x == ("__debug__" : Str)) = false := by decide) (he : starEach (e :: es) X.env = (false, eval e X.env) :: starEach es X.env := by rfl) (hpl : (backTo pos (starEach es X.env)).any (·.1) = false := by rfl) :
    PMk X (.Call (.Name x p) (e :: es) [] pos) (tMkO C (spXi C fsn) [] ta) := by
  obtain ⟨fI, fd, ps, h1, h2, b, F⟩ := c.ex
  exact pmk_oex c.T h1 h2 F (hr.mono hk) b .nil passL hg c.g ha hdb he hpl
theorem mk_xi {σ : L2.St} {H : Hp} {ta : TA} {vs : List V} {C : Addr} {fsn : List Str} {Q : XK} (ha : EvA ta σ H vs) (hl : vs.length = fsn.length) (hs : vs.length ≤ 1000) (k : ∀ H1 d, Ex H H1 → H1 d = none → Q (.ref C) (some d) (upd H1 d (.xd (fsn.zip vs).reverse))) : tMkO C (spXi C fsn) [] ta σ H Q :=
  ha H (Ex.refl H) _ fun H1 e => ⟨hs, fun a hn => ⟨a, vs, H1, by rw [List.append_nil], hl, rfl, hn, fun d H2 hd hne h1 h2 h3 => ⟨rfl, d, _, h1, h2, hd, by
    have z : upd (del H2 a) d (.xd (fsn.zip vs).reverse) = upd H1 d (.xd (fsn.zip vs).reverse) := by
      funext b
      by_cases q : b = d
      · subst q
        rw [upd_same, upd_same]
      · rw [upd_ne q, upd_ne q]
        by_cases qa : b = a
        · subst qa
          rw [del_same, hn]
        · rw [del_ne qa]
          exact h3 b qa q
    rw [z]
    exact k H1 d e hd⟩⟩⟩
/-- a raise with fields, to what is wished of it -/
theorem raise_xi {σ : L2.St} {H G : Hp} {Ns : List Hp} {j : Nat} {ta : TA} {vs : List V} {C : Addr} {fsn : List Str} {mg : Str → Option Value} {x : Str} {E : XK} (o : Own Ns H) (hj : Ns[j]? = some G) (ha : EvA ta σ H vs) (hl : vs.length = fsn.length) (hs : vs.length ≤ 1000) (hn : fsn ≠ []) (g : mg x = some (.ref C)) (k : RaiseX mg x (fsn.zip vs).reverse G E) :
    tMkO C (spXi C fsn) [] ta σ H E := mk_xi ha hl hs fun H1 d e hd => k _ C (some d) (((o.ix hj).trans e).trans (Ex.new hd)) g (.inr ⟨d, rfl, upd_same, ex_none ((o.ix hj).trans e) hd, by
  cases fsn with
  | nil => exact absurd rfl hn
  | cons f r =>
    cases vs with
    | nil => exact absurd hl (by simp)
    | cons v t => intro z; simp at z⟩)
theorem ps_ostK {X : Cx} (K : PySem.W.Frag) {o e : Expr} {f : Str} {to te : TE} {p' pos : Pos} (ho : PE X o to) (he : PE X e te) (hs : swapsWith e (some (.Attribute o f p')) pos.line X.env = pure false := by rfl) (hK : X.K = K := by rfl) : PS X (.Assign [.Attribute o f p'] e pos) (tOst K f to te) := by subst hK; exact ps_ost ho he hs
/-! ### a new instance -/
/-- S: what the class's call promises of its arguments; the __init__'s own promise -/
def Rl.spI (S : Rl) (mg : Str → Option Value) (C : Addr) : Sp := fun vs H Q E => ∃ (x dx : Addr) (us : List V) (G : Hp) (r : Res), vs = .ref x :: us ∧ H = upd (upd G dx (.own x)) x (.ins C dx []) ∧ G x = none ∧ G dx = none ∧ dx ≠ x ∧ S.R us G r ∧
  match r with
  | .ok P => ∀ H' N, Ex G H' → Ex N H' → Fr G N → P N (.ref x) → Q .non H'
  | .err xn fs => RaiseX mg xn fs G E
section
variable {K : PySem.W.Frag} {mg : Str → Option Value} {σ : L2.St} {H G : Hp} {ta tb te tc : TE} {tr : TA} {t u : TT} {x y z v : V} {P : Hp → V → Prop} {S : Rl} {E : L2.St → XK} {W : WX} {vs : List V} {Ps : List (Hp → V → Prop)} {xn : Str} {fs : List (Str × V)} {C : Addr}
theorem ep_make (ha : EvA tr σ H vs) (hR : S.R vs H (.ok P)) : EvP (tMakeS C (S.spI mg C) E tr) σ H P := fun H1 e Q q => ha H1 e _ fun H2 e2 x dx hx hdx hne =>
  ⟨x, dx, vs, H2, .ok P, rfl, rfl, hx, hdx, hne, S.mono (e.trans e2) hR, fun H' N e3 e4 f p => ⟨rfl, q (.ref x) H' N (e2.trans e3) e4 (f.back e2) p⟩⟩
theorem ep_makeN (ha : EvPs tr σ H Ps) (hR : ∀ vs H1, Ex H H1 → All2 H1 Ps vs → S.R vs H1 (.ok P)) : EvP (tMakeS C (S.spI mg C) E tr) σ H P := fun H1 e Q q => ha H1 e _ fun vs H2 e2 a x dx hx hdx hne =>
  ⟨x, dx, vs, H2, .ok P, rfl, rfl, hx, hdx, hne, hR vs H2 (e.trans e2) a, fun H' N e3 e4 f p => ⟨rfl, q (.ref x) H' N (e2.trans e3) e4 (f.back e2) p⟩⟩
theorem er_make (ha : EvA tr σ H vs) (hR : S.R vs H (.err xn fs)) : EvErr mg W xn fs (tMakeS C (S.spI mg C) (WE W) tr) σ H := fun H1 e q Q => ha H1 e _ fun H2 e2 x dx hx hdx hne =>
  ⟨x, dx, vs, H2, .err xn fs, rfl, rfl, hx, hdx, hne, S.mono (e.trans e2) hR, q.fwd e2⟩
theorem er_makeN (ha : EvPs tr σ H Ps) (hR : ∀ vs H1, Ex H H1 → All2 H1 Ps vs → S.R vs H1 (.err xn fs)) : EvErr mg W xn fs (tMakeS C (S.spI mg C) (WE W) tr) σ H := fun H1 e q Q => ha H1 e _ fun vs H2 e2 a x dx hx hdx hne =>
  ⟨x, dx, vs, H2, .err xn fs, rfl, rfl, hx, hdx, hne, hR vs H2 (e.trans e2) a, q.fwd e2⟩
/-- the heap in which an __init__ begins -/
theorem own_init {x dx : Addr} {o : HO} (hx : G x = none) (hdx : G dx = none) (hne : dx ≠ x) : Own [sing x o, G] (upd (upd G dx (.own x)) x o) :=
  ⟨sing_ex upd_same, fun M hM a ha => by
    have z : M = G := by simpa using hM
    subst z
    by_cases q : a = x
    · subst q; exact hx
    · exact absurd (sing_ne q) ha, fun a u e => by
    rw [upd_ne (ne_of_none e hx), upd_ne (ne_of_none e hdx)]
    exact e, (fun _ h => nomatch h), trivial⟩
/-- self.f = e, self a part of its own -/
theorem s_fld {Ns : List Hp} {D : Ends} {a dx : Addr} {gs : List (Str × V)} {f : Str} {j : Nat} (o : Own Ns H) (hj : Ns[j]? = some (sing a (.ins C dx gs))) (ho : Ev ta σ H (.ref a)) (h : EvP te σ H P) (c : Cls K C) (n : NoAttr K C f) (hl : gs.length < 1000) (k : ∀ v H1 N, Own (N :: Ns.set j (sing a (.ins C dx (putF f v gs)))) H1 → P N v → D.nx σ H1) : sFld K ta te f D σ H :=
  h H (Ex.refl H) _ fun v H1 N e e2 fr p => ho H1 e _ fun H2 e3 => ⟨a, C, dx, gs, rfl, e3 _ _ (e _ _ (o.at hj)), c, n, hl, k v _ N ((((o.add e e2 fr).mono e3)).set (j := j + 1) hj) p⟩
/-! ### chains -/
theorem ev_chain {p q : Int → Int → Bool} {a b c : Int} (h1 : Ev ta σ H (.int a)) (h2 : Ev tb σ H (.int b)) (h3 : Ev tc σ H (.int c)) : Ev (tChain (rI0 fun i j => .bl (p i j)) (rI0 fun i j => .bl (q i j)) ta tb tc) σ H (.bl (p a b && q b c)) := fun H1 e Q k =>
  h1 H1 e _ fun H2 e2 => h2 H2 (e.trans e2) _ fun H3 e3 => ⟨a, b, rfl, rfl, p a b, rfl, by
    cases hp : p a b with
    | true =>
      show tc σ H3 _
      exact h3 H3 ((e.trans e2).trans e3) _ fun H4 e4 => ⟨b, c, rfl, rfl, by
        have z := k H4 ((e2.trans e3).trans e4)
        rw [hp, Bool.true_and] at z
        exact z⟩
    | false =>
      show Q (.bl false) H3
      have z := k H3 (e2.trans e3)
      rw [hp, Bool.false_and] at z
      exact z⟩
end
end Kj
namespace Kj
open PySem PySem.Spec PyProof.Rows L2 Evl
/-! ### data of texts and numbers -/
/-- a text that may be handed about: not too long, of plain signs -/
def TxtOk (s : Str) : Prop := s.length ≤ 1000 ∧ ∀ c ∈ s.cps.toList, c < 128
abbrev eLine (l : List Str) : PyData := .list (l.map .str)
abbrev eBook (ls : List (List Str)) : PyData := .list (ls.map eLine)
abbrev eInts (ns : List Int) : PyData := .list (ns.map .int)
section
variable {K : PySem.W.Frag} {H : Hp}
theorem dpa_strs : ∀ {l : List Str} {xs : List V}, DpAll K H xs (l.map .str) ↔ xs = l.map V.str
  | [], xs => ⟨fun h => by cases h; rfl, fun h => by subst h; exact .nil⟩
  | s :: l, xs => ⟨fun h => by
      cases h with
      | cons h1 h2 =>
        cases h1
        rw [dpa_strs.mp h2]
        rfl, fun h => by subst h; exact .cons (.str s) (dpa_strs.mpr rfl)⟩
theorem dpa_ints : ∀ {l : List Int} {xs : List V}, DpAll K H xs (l.map .int) ↔ xs = l.map V.int
  | [], xs => ⟨fun h => by cases h; rfl, fun h => by subst h; exact .nil⟩
  | s :: l, xs => ⟨fun h => by
      cases h with
      | cons h1 h2 =>
        cases h1
        rw [dpa_ints.mp h2]
        rfl, fun h => by subst h; exact .cons (.int s) (dpa_ints.mpr rfl)⟩
theorem dp_line {x : V} {l : List Str} : Dp K H x (eLine l) ↔ ∃ q, x = .ref q ∧ SqL K H q (l.map V.str) :=
  ⟨fun h => by
    cases h with
    | lst h1 h2 => exact ⟨_, rfl, dpa_strs.mp h2 ▸ h1⟩, fun ⟨q, e, h⟩ => by subst e; exact .lst h (dpa_strs.mpr rfl)⟩
theorem dp_ints {x : V} {l : List Int} : Dp K H x (eInts l) ↔ ∃ q, x = .ref q ∧ SqL K H q (l.map V.int) :=
  ⟨fun h => by
    cases h with
    | lst h1 h2 => exact ⟨_, rfl, dpa_ints.mp h2 ▸ h1⟩, fun ⟨q, e, h⟩ => by subst e; exact .lst h (dpa_ints.mpr rfl)⟩
/-- rows by their places -/
def Rows (K : PySem.W.Frag) (H : Hp) (xs : List V) (ls : List (List Str)) : Prop := Paired (fun x l => ∃ q, x = V.ref q ∧ SqL K H q (l.map V.str)) xs ls
theorem dpa_rows : ∀ {ls : List (List Str)} {xs : List V}, DpAll K H xs (ls.map eLine) ↔ Rows K H xs ls
  | [], xs => ⟨fun h => by cases h; exact .nil, fun h => by cases h; exact .nil⟩
  | s :: l, xs => ⟨fun h => by
      cases h with
      | cons h1 h2 => exact .cons (dp_line.mp h1) (dpa_rows.mp h2), fun h => by
      cases h with
      | cons h1 h2 => exact .cons (dp_line.mpr h1) (dpa_rows.mpr h2)⟩
theorem dp_book {x : V} {ls : List (List Str)} : Dp K H x (eBook ls) ↔ ∃ q xs, x = .ref q ∧ SqL K H q xs ∧ Rows K H xs ls :=
  ⟨fun h => by
    cases h with
    | lst h1 h2 => exact ⟨_, _, rfl, h1, dpa_rows.mp h2⟩, fun ⟨q, xs, e, h, r⟩ => by subst e; exact .lst h (dpa_rows.mpr r)⟩
theorem Rows.len {xs : List V} {ls : List (List Str)} (r : Rows K H xs ls) : xs.length = ls.length := Paired.length r
theorem Rows.get : ∀ {xs : List V} {ls : List (List Str)} {i : Nat} {l : List Str}, Rows K H xs ls → ls[i]? = some l → ∃ q, xs[i]? = some (.ref q) ∧ SqL K H q (l.map V.str)
  | _, _, _, _, .nil, e => by simp at e
  | _, _, 0, _, .cons h _, e => by
    simp at e
    subst e
    obtain ⟨q, h1, h2⟩ := h
    exact ⟨q, by simp [h1], h2⟩
  | _, _, i + 1, _, .cons _ r, e => by
    obtain ⟨q, h1, h2⟩ := Rows.get (i := i) r (by simpa using e)
    exact ⟨q, by simpa using h1, h2⟩
theorem Rows.mono {H' : Hp} {xs : List V} {ls : List (List Str)} (e : Ex H H') (r : Rows K H xs ls) : Rows K H' xs ls := paired_imp (fun _ _ ⟨q, h1, h2⟩ => ⟨q, h1, ex_l e h2⟩) r
end
theorem eqvAll_strs : ∀ a b : List Str, PyData.eqvAll (a.map .str) (b.map .str) = decide (a = b)
  | [], [] => by simp [PyData.eqvAll]
  | [], _ :: _ => by simp [PyData.eqvAll]
  | _ :: _, [] => by simp [PyData.eqvAll]
  | x :: a, y :: b => by
    simp only [List.map_cons, PyData.eqvAll, PyData.eqv, eqvAll_strs a b]
    by_cases h : x = y
    · subst h
      by_cases h2 : a = b <;> simp [h2]
    · have e : (x == y) = false := by simpa using h
      simp [h]
theorem eqv_line (a b : List Str) : PyData.eqv (eLine a) (eLine b) = decide (a = b) := by simp only [PyData.eqv, eqvAll_strs]
theorem eqvAll_rows : ∀ a b : List (List Str), PyData.eqvAll (a.map eLine) (b.map eLine) = decide (a = b)
  | [], [] => by simp [PyData.eqvAll]
  | [], _ :: _ => by simp [PyData.eqvAll]
  | _ :: _, [] => by simp [PyData.eqvAll]
  | x :: a, y :: b => by
    simp only [List.map_cons, PyData.eqvAll, eqv_line, eqvAll_rows a b]
    by_cases h : x = y <;> by_cases h2 : a = b <;> simp [h, h2]
theorem eqv_book (a b : List (List Str)) : PyData.eqv (eBook a) (eBook b) = decide (a = b) := by simp only [PyData.eqv, eqvAll_rows]
theorem strOk_of {s : Str} (h : TxtOk s) : PyData.strOk s = true := by
  unfold PyData.strOk
  rw [← Array.all_toList]
  exact List.all_eq_true.mpr fun c hc => decide_eq_true (by have := h.2 c hc; omega)
theorem lay_strs {l : List Str} (h : ∀ s ∈ l, TxtOk s) : PyData.canLayAll0 (l.map .str) = true := by
  induction l with
  | nil => simp [PyData.canLayAll0]
  | cons s l ih =>
    simp only [List.map_cons, PyData.canLayAll0, PyData.canLay0, strOk_of (h s List.mem_cons_self), ih fun t ht => h t (List.mem_cons_of_mem _ ht), Bool.and_self]
theorem depth_strs (l : List Str) : PyData.depthAll (l.map .str) = 0 := by
  induction l with
  | nil => simp [PyData.depthAll]
  | cons s l ih => simp [PyData.depthAll, PyData.depth, ih]
theorem depth_rows (ls : List (List Str)) : PyData.depthAll (ls.map eLine) ≤ 1 := by
  induction ls with
  | nil => simp [PyData.depthAll]
  | cons l ls ih =>
    simp only [List.map_cons, PyData.depthAll, PyData.depth, depth_strs]
    omega
theorem shaped_line {l : List Str} (h : ∀ s ∈ l, TxtOk s) : SeqAt.shaped (eLine l) = true := by
  show ((eLine l).canLay0 && decide ((eLine l).depth ≤ 64)) = true
  simp only [PyData.canLay0, lay_strs h, PyData.depth, depth_strs]
  decide
theorem shaped_book {ls : List (List Str)} (h : ∀ l ∈ ls, ∀ s ∈ l, TxtOk s) : SeqAt.shaped (eBook ls) = true := by
  have h1 : PyData.canLayAll0 (ls.map eLine) = true := by
    induction ls with
    | nil => simp [PyData.canLayAll0]
    | cons l ls ih =>
      simp only [List.map_cons, PyData.canLayAll0, PyData.canLay0, lay_strs (h l List.mem_cons_self), ih fun t ht => h t (List.mem_cons_of_mem _ ht), Bool.and_self]
  have h2 := depth_rows ls
  show ((eBook ls).canLay0 && decide ((eBook ls).depth ≤ 64)) = true
  rw [Bool.and_eq_true]
  exact ⟨by simp only [PyData.canLay0, h1], decide_eq_true (by simp only [PyData.depth]; omega)⟩
theorem smD_line {l : List Str} (h : l.length ≤ 40000) : smD (eLine l) := smD_list.mpr ⟨by rw [List.length_map]; exact h, fun d hd => by
  obtain ⟨s, _, rfl⟩ := List.mem_map.mp hd
  simp [smD]⟩
theorem smD_book {ls : List (List Str)} (h : ls.length ≤ 40000) (h2 : ∀ l ∈ ls, l.length ≤ 40000) : smD (eBook ls) := smD_list.mpr ⟨by rw [List.length_map]; exact h, fun d hd => by
  obtain ⟨l, hl, rfl⟩ := List.mem_map.mp hd
  exact smD_line (h2 l hl)⟩
theorem paired_get {α β : Type} {R : α → β → Prop} : ∀ {xs : List α} {ys : List β} {i : Nat} {x : α}, Paired R xs ys → xs[i]? = some x → ∃ y, ys[i]? = some y ∧ R x y
  | _, _, _, _, .nil, e => by simp at e
  | _, _, 0, _, .cons h _, e => by
    simp at e
    subst e
    exact ⟨_, rfl, h⟩
  | _, _, i + 1, _, .cons _ r, e => by
    obtain ⟨y, h1, h2⟩ := paired_get (i := i) r (by simpa using e)
    exact ⟨y, by simpa using h1, h2⟩
theorem paired_of {α β : Type} {R : α → β → Prop} : ∀ {xs : List α} {ys : List β}, xs.length = ys.length → (∀ (i : Nat) (x : α) (y : β), xs[i]? = some x → ys[i]? = some y → R x y) → Paired R xs ys
  | [], [], _, _ => .nil
  | [], _ :: _, h, _ => by simp at h
  | _ :: _, [], h, _ => by simp at h
  | x :: xs, y :: ys, h, k => .cons (k 0 x y rfl rfl) (paired_of (by simpa using h) fun i a b h1 h2 => k (i + 1) a b (by simpa using h1) (by simpa using h2))
theorem paired_map {α β γ : Type} {R : α → β → Prop} {f : γ → α} : ∀ {xs : List γ} {ys : List β}, Paired R (xs.map f) ys ↔ Paired (fun x y => R (f x) y) xs ys
  | [], ys => ⟨fun h => by cases h; exact .nil, fun h => by cases h; exact .nil⟩
  | _ :: _, ys => ⟨fun h => by cases h with | cons a r => exact .cons a (paired_map.mp r), fun h => by cases h with | cons a r => exact .cons a (paired_map.mpr r)⟩
theorem picks_all (n : Nat) : picks n (fun _ => true) = List.range n := List.filter_eq_self.mpr fun _ _ => rfl
theorem el_is {te : TE} {σ : L2.St} {H : Hp} {xs ys : List V} (h : EvL te σ H xs) (e : xs = ys) : EvL te σ H ys := e ▸ h
/-- xs + ys, a new list -/
theorem ep_catN {K : PySem.W.Frag} {σ : L2.St} {H : Hp} {ta tb : TE} {P1 P2 P : Hp → V → Prop} (h1 : EvP ta σ H P1) (h2 : EvP tb σ H P2)
    (hp : ∀ N1 N2 H1 v1 v2, Ex H H1 → Ex N1 H1 → Ex N2 H1 → P1 N1 v1 → P2 N2 v2 → ∃ a b xs ys, v1 = .ref a ∧ v2 = .ref b ∧ H1 a = some (.lst xs) ∧ H1 b = some (.lst ys) ∧ xs.length + ys.length ≤ 100000 ∧ ∀ p, P (sing p (.lst (xs ++ ys))) (.ref p)) : EvP (tOp (rAddU K) ta tb) σ H P := fun H1 e Q q =>
  h1 H1 e _ fun v1 H2 N1 e2 i1 _ p1 => h2 H2 (e.trans e2) _ fun v2 H3 N2 e3 i2 _ p2 => by
    obtain ⟨a, b, xs, ys, rfl, rfl, h3, h4, h5, h6⟩ := hp N1 N2 H3 v1 v2 ((e.trans e2).trans e3) (i1.trans e3) i2 p1 p2
    exact .inr (.inl ⟨a, b, xs, ys, rfl, rfl, h3, h4, sz_of h5, fun p hp0 => q (.ref p) _ (sing p (.lst (xs ++ ys))) ((e2.trans e3).trans (Ex.new hp0)) (sing_ex upd_same) (sing_fr (fresh_back (e2.trans e3) hp0)) (h6 p)⟩)
theorem ep_cat {K : PySem.W.Frag} {σ : L2.St} {H : Hp} {ta tb : TE} {P2 P : Hp → V → Prop} {a : Addr} {xs : List V} (h1 : Ev ta σ H (.ref a)) (ha : H a = some (.lst xs)) (h2 : EvP tb σ H P2)
    (hp : ∀ N v, P2 N v → ∃ b ys, v = .ref b ∧ N b = some (.lst ys) ∧ xs.length + ys.length ≤ 100000 ∧ ∀ p, P (sing p (.lst (xs ++ ys))) (.ref p)) : EvP (tOp (rAddU K) ta tb) σ H P :=
  ep_catN (ep_v h1) h2 fun N1 N2 H1 v1 v2 e i1 i2 p1 p2 => by
    obtain ⟨b, ys, e1, e2, e3, e4⟩ := hp N2 v2 p2
    exact ⟨a, b, xs, ys, p1, e1, e _ _ ha, i2 _ _ e2, e3, e4⟩
section
variable {K : PySem.W.Frag} {σ : L2.St} {H G : Hp} {te : TE} {g : TG} {wi : TI} {n : Nat} {Y : Nat → V → Hp → Prop}
/-- all([..]), any([..]), by places -/
theorem ev_allI {vs : List Nat} (S : Nat → L2.St) (b : Nat → Bool) (hi : EvI wi σ H G n Y) (eG : Ex G H) (hn : n ≤ 50000) (hg : ∀ i x H', i < n → Y i x H' → ∀ Q : L2.St → Hp → Prop, Q (S i) H' → g x (wipe σ vs) H' Q) (hw : ∀ i, i < n → wipe (S i) vs = wipe σ vs)
    (he : ∀ i H1, Ex H H1 → i < n → Ev te (S i) H1 (.bl (b i))) : Ev (tCB (rAll K) (tCons (tLc wi g tYes te vs) tNil)) σ H (.bl ((List.range n).all b)) :=
  ev_cb1 (ep_l (el_lc S (fun _ => true) (fun i => .bl (b i)) hi eG hn hg hw (fun _ _ _ _ => et_yes) fun i H1 e hlt _ => he i H1 e hlt)) fun v N H2 e2 i2 ⟨p, ev, hp⟩ => by
    subst ev
    have e : (List.range n).map (fun i => V.bl (b i)) = ((List.range n).map b).map V.bl := by rw [List.map_map]; rfl
    rw [picks_all, e] at hp
    have z := rc_all (K := K) (sq_of (i2 _ _ hp))
    rw [List.all_map] at z
    exact z
theorem ev_anyI {vs : List Nat} (S : Nat → L2.St) (b : Nat → Bool) (hi : EvI wi σ H G n Y) (eG : Ex G H) (hn : n ≤ 50000) (hg : ∀ i x H', i < n → Y i x H' → ∀ Q : L2.St → Hp → Prop, Q (S i) H' → g x (wipe σ vs) H' Q) (hw : ∀ i, i < n → wipe (S i) vs = wipe σ vs)
    (he : ∀ i H1, Ex H H1 → i < n → Ev te (S i) H1 (.bl (b i))) : Ev (tCB (rAny K) (tCons (tLc wi g tYes te vs) tNil)) σ H (.bl ((List.range n).any b)) :=
  ev_cb1 (ep_l (el_lc S (fun _ => true) (fun i => .bl (b i)) hi eG hn hg hw (fun _ _ _ _ => et_yes) fun i H1 e hlt _ => he i H1 e hlt)) fun v N H2 e2 i2 ⟨p, ev, hp⟩ => by
    subst ev
    have e : (List.range n).map (fun i => V.bl (b i)) = ((List.range n).map b).map V.bl := by rw [List.map_map]; rfl
    rw [picks_all, e] at hp
    have z := rc_any (K := K) (sq_of (i2 _ _ hp))
    rw [List.any_map] at z
    exact z
end
/-- the first, second, .. of the parts is moved to the head -/
theorem Own.pull {H N : Hp} : ∀ {Ns : List Hp} {i : Nat}, Own Ns H → Ns[i]? = some N → Own (N :: Ns.eraseIdx i) H
  | M :: r, 0, o, h => by
    have e : M = N := Option.some.inj h
    subst e
    exact o
  | M :: r, i + 1, o, h => by
    have z : Own (N :: r.eraseIdx i) H := Own.pull o.2.2 h
    refine ⟨z.1, fun M' hM' => ?_, o.1, fun M' hM' => ?_, z.2.2⟩
    · rcases List.mem_cons.mp hM' with q | q
      · subst q
        exact (o.2.1 N (List.mem_of_getElem? h)).symm
      · exact z.2.1 M' q
    · exact o.2.1 M' (List.mem_of_mem_eraseIdx hM')
/-- a slice of a new list -/
theorem ep_slN {K : PySem.W.Frag} {σ : L2.St} {H : Hp} {te : TE} {tl th : TO} {xs ys : List V} {lo hi : Option Int} (h : EvP te σ H (pLst xs)) (h1 : EvO tl σ H lo) (h2 : EvO th σ H hi) (e0 : cutV xs lo hi = ys) : EvP (tSl (rSlU K) te tl th) σ H (pLst ys) := fun H1 e Q q =>
  h H1 e _ fun v H2 N e2 i2 _ ⟨a, ev, ha⟩ => h1 H2 (e.trans e2) _ fun H3 e3 => h2 H3 ((e.trans e2).trans e3) _ fun H4 e4 => by
    subst ev
    refine .inl (.inl ⟨a, xs, rfl, sq_of (e4 _ _ (e3 _ _ (i2 _ _ ha))), fun p hp => ?_⟩)
    rw [e0]
    exact q (.ref p) _ (sing p (.lst ys)) (((e2.trans e3).trans e4).trans (Ex.new hp)) (sing_ex upd_same) (sing_fr (fresh_back ((e2.trans e3).trans e4) hp)) ⟨p, rfl, sing_at⟩
theorem own_merge2 {H L N M : Hp} {r : List Hp} (o : Own (L :: N :: M :: r) H) : Own (L :: uni M N :: r) H :=
  ⟨o.1, fun M' hM' a ha => by
    rcases List.mem_cons.mp hM' with z | z
    · subst z
      have d1 := o.2.1 N List.mem_cons_self
      have d2 := o.2.1 M (List.mem_cons_of_mem _ List.mem_cons_self)
      unfold uni
      rw [d1 a ha]
      exact d2 a ha
    · exact o.2.1 M' (List.mem_cons_of_mem _ (List.mem_cons_of_mem _ z)) a ha, o.2.2.merge⟩
/-- a slice of a new list, of which not all is told -/
theorem ep_slP {K : PySem.W.Frag} {σ : L2.St} {H : Hp} {te : TE} {tl th : TO} {lo hi : Option Int} {P P' : Hp → V → Prop} (h : EvP te σ H P) (h1 : EvO tl σ H lo) (h2 : EvO th σ H hi) (hp : ∀ N v, P N v → ∃ a xs, v = .ref a ∧ N a = some (.lst xs) ∧ ∀ p, P' (sing p (.lst (cutV xs lo hi))) (.ref p)) : EvP (tSl (rSlU K) te tl th) σ H P' := fun H1 e Q q =>
  h H1 e _ fun v H2 N e2 i2 _ pv => h1 H2 (e.trans e2) _ fun H3 e3 => h2 H3 ((e.trans e2).trans e3) _ fun H4 e4 => by
    obtain ⟨a, xs, ev, ha, k⟩ := hp N v pv
    subst ev
    refine .inl (.inl ⟨a, xs, rfl, sq_of (e4 _ _ (e3 _ _ (i2 _ _ ha))), fun p hp => ?_⟩)
    exact q (.ref p) _ (sing p (.lst (cutV xs lo hi))) (((e2.trans e3).trans e4).trans (Ex.new hp)) (sing_ex upd_same) (sing_fr (fresh_back ((e2.trans e3).trans e4) hp)) (k p)
theorem own_emp {H L : Hp} {r : List Hp} (o : Own (L :: r) H) : Own (L :: emp :: r) H := ⟨o.1, fun M hM => by
  rcases List.mem_cons.mp hM with z | z
  · subst z; exact fun _ _ => rfl
  · exact o.2.1 M z, emp_ex, (fun _ _ a ha => absurd rfl ha), o.2.2⟩
/-! ### calls that change what they are handed: a part is given away, all else stays -/
def Hv (N H H' : Hp) : Prop := ∀ a o, H a = some o → N a = none → H' a = some o
theorem Hv.own {N H H' : Hp} (h : Hv N H H') : ∀ {Ns : List Hp}, Own Ns H → (∀ M ∈ Ns, Dj N M) → Own Ns H'
  | [], _, _ => trivial
  | M :: r, o, d => ⟨fun a u hu => h a u (o.1 a u hu) (by
      cases q : N a with
      | none => rfl
      | some z =>
        have := d M List.mem_cons_self a (by rw [q]; exact fun z => nomatch z)
        rw [this] at hu
        cases hu), o.2.1, Hv.own h o.2.2 fun M hM => d M (List.mem_cons_of_mem _ hM)⟩
def spM (R : List V → Hp → Prop) : Sp := fun vs H Q _ => ∃ N, Ex N H ∧ R vs N ∧ ∀ H', Hv N H H' → Q .non H'
section
variable {σ : L2.St} {H : Hp} {Ns : List Hp} {ta : TA} {te : TE} {tz : TS} {D : Ends} {R : List V → Hp → Prop} {E : L2.St → XK} {vs us : List V} {N : Hp} {P : Hp → V → Prop}
theorem s_hv {j : Nat} (o : Own Ns H) (hj : Ns[j]? = some N) (ha : EvA ta σ H vs) (hR : R vs N) (k : ∀ H1, Own (Ns.eraseIdx j) H1 → D.nx σ H1) : tDrop (tCallS (spM R) E ta) D σ H := ha H (Ex.refl H) _ fun H1 e1 => by
  have o1 : Own (N :: Ns.eraseIdx j) H1 := (o.mono e1).pull hj
  exact ⟨N, o1.1, hR, fun H' h => k H' (h.own o1.2.2 o1.2.1)⟩
theorem q_hv {j : Nat} (o : Own Ns H) (hj : Ns[j]? = some N) (ha : EvA ta σ H vs) (hR : R vs N) (k : ∀ H1, Own (Ns.eraseIdx j) H1 → tz D σ H1) : tSeq (tDrop (tCallS (spM R) E ta)) tz D σ H := s_hv (D := { D with nx := tz D }) o hj ha hR k
/-- the first argument is new -/
theorem s_hvN (o : Own Ns H) (h : EvP te σ H P) (ha : EvA ta σ H us) (hR : ∀ N v, P N v → R (v :: us) N) (k : ∀ H1, Own Ns H1 → D.nx σ H1) : tDrop (tCallS (spM R) E (tCons te ta)) D σ H := h H (Ex.refl H) _ fun v H1 N e1 i1 f1 p1 => ha H1 e1 _ fun H2 e2 => by
  have o1 : Own (N :: Ns) H1 := o.add e1 i1 f1
  have o2 := o1.mono e2
  exact ⟨N, o2.1, hR N v p1, fun H' h => k H' (h.own o2.2.2 o2.2.1)⟩
theorem q_hvN (o : Own Ns H) (h : EvP te σ H P) (ha : EvA ta σ H us) (hR : ∀ N v, P N v → R (v :: us) N) (k : ∀ H1, Own Ns H1 → tz D σ H1) : tSeq (tDrop (tCallS (spM R) E (tCons te ta))) tz D σ H := s_hvN (D := { D with nx := tz D }) o h ha hR k
end
theorem Hv.refl {N H : Hp} : Hv N H H := fun _ _ h _ => h
theorem Hv.ex {N H H1 H2 : Hp} (h : Hv N H H1) (e : Ex H1 H2) : Hv N H H2 := fun a o h1 h2 => e _ _ (h a o h1 h2)
theorem Hv.upd {N H H1 : Hp} {q : Addr} {u : HO} (h : Hv N H H1) (hq : N q ≠ none) : Hv N H (upd H1 q u) := fun a o h1 h2 => by
  unfold L2.upd
  split
  · rename_i e
    subst e
    exact absurd h2 hq
  · exact h a o h1 h2
section
variable {K : PySem.W.Frag} {σ : L2.St} {H : Hp} {ta : TE} {D : Ends}
/-- xs.clear(), xs.pop(), xs.reverse() -/
theorem s_clr {l : Addr} {xs : List V} (hl : H l = some (.lst xs)) (ha : Ev ta σ H (.ref l)) (k : ∀ H1, Ex H H1 → D.nx σ (L2.upd H1 l (.lst []))) : tDrop (tBM0 K "list" rClear ta) D σ H := ha H (Ex.refl H) _ fun H1 e1 =>
  ⟨Or.inl ⟨rfl, xs, sq_of (e1 l _ hl)⟩, l, xs, rfl, rfl, e1 l _ hl, k H1 e1⟩
theorem s_rev {l : Addr} {xs : List V} (hl : H l = some (.lst xs)) (ha : Ev ta σ H (.ref l)) (k : ∀ H1, Ex H H1 → D.nx σ (L2.upd H1 l (.lst xs.reverse))) : tDrop (tBM0 K "list" rReverse ta) D σ H := ha H (Ex.refl H) _ fun H1 e1 =>
  ⟨Or.inl ⟨rfl, xs, sq_of (e1 l _ hl)⟩, l, xs, rfl, rfl, e1 l _ hl, k H1 e1⟩
theorem s_pop {l : Addr} {xs : List V} (hl : H l = some (.lst xs)) (hx : xs ≠ []) (ha : Ev ta σ H (.ref l)) (k : ∀ H1, Ex H H1 → D.nx σ (L2.upd H1 l (.lst xs.dropLast))) : tDrop (tBM0 K "list" rPop ta) D σ H := ha H (Ex.refl H) _ fun H1 e1 => by
  have hp := List.length_pos_iff.mpr hx
  exact ⟨Or.inl ⟨rfl, xs, sq_of (e1 l _ hl)⟩, l, xs, _, rfl, rfl, e1 l _ hl, List.getElem?_eq_getElem (by omega), k H1 e1⟩
end
/-- a list that is owned alone: xs[j] = v -/
theorem s_setO {Ns : List Hp} {σ : L2.St} {H : Hp} {ta tb te : TE} {D : Ends} {l : Addr} {xs : List V} {v : V} {i j : Nat} (o : Own Ns H) (hi : Ns[i]? = some (sing l (.lst xs))) (h : Ev te σ H v) (ho : Ev ta σ H (.ref l)) (hb : Ev tb σ H (.int (j : Int))) (hj : j < xs.length) (k : ∀ H1, Own (Ns.set i (sing l (.lst (xs.set j v)))) H1 → D.nx σ H1) : tAsg te (gSub ta tb rSetL) D σ H := Evl.s_setL (o.at hi) h ho hb hj fun H1 e => k _ ((o.mono e).set hi)
theorem own_sing {H N : Hp} {r : List Hp} {p : Addr} {u : HO} (o : Own (N :: r) H) (h : N p = some u) : Own (sing p u :: r) H := ⟨(sing_ex h).trans o.1, fun M hM a ha => o.2.1 M hM a (fun z => by
  by_cases q : a = p
  · subst q
    rw [h] at z
    cases z
  · exact ha (sing_ne q)), o.2.2⟩
theorem all2_one {H : Hp} {P : Hp → V → Prop} {vs : List V} (h : All2 H [P] vs) : ∃ x, vs = [x] ∧ ∃ N, Ex N H ∧ P N x := by
  cases h with
  | cons h r => cases r; exact ⟨_, rfl, h⟩
theorem all2_two {H : Hp} {P P2 : Hp → V → Prop} {vs : List V} (h : All2 H [P, P2] vs) : ∃ x y, vs = [x, y] ∧ (∃ N, Ex N H ∧ P N x) ∧ ∃ N, Ex N H ∧ P2 N y := by
  cases h with
  | cons h r => cases r with
    | cons h2 r => cases r; exact ⟨_, _, rfl, h, h2⟩
theorem all2_three {H : Hp} {P P2 P3 : Hp → V → Prop} {vs : List V} (h : All2 H [P, P2, P3] vs) : ∃ x y z, vs = [x, y, z] ∧ (∃ N, Ex N H ∧ P N x) ∧ (∃ N, Ex N H ∧ P2 N y) ∧ ∃ N, Ex N H ∧ P3 N z := by
  cases h with
  | cons h r => cases r with
    | cons h2 r => cases r with
      | cons h3 r => cases r; exact ⟨_, _, _, rfl, h, h2, h3⟩
end Kj

/-! Kj6: what is told of a value in the heap that holds it (nothing is changed behind it): no new part is named. -/
namespace Kj
open PySem PySem.Spec PyProof.Rows L2 Evl
def EvH (te : TE) (σ : L2.St) (H : Hp) (C : Hp → V → Prop) : Prop := ∀ H1, Ex H H1 → ∀ Q : VK, (∀ v H2, Ex H1 H2 → C H2 v → Q v H2) → te σ H1 Q
def Up (C : Hp → V → Prop) : Prop := ∀ {H H' v}, Ex H H' → C H v → C H' v
/-- a promise of such a kind -/
structure Rh where
  R : List V → Hp → (Hp → V → Prop) → Prop
  mono : ∀ {vs H H' C}, Ex H H' → R vs H C → R vs H' C
def Rh.sp (S : Rh) : Sp := fun vs H Q _ => ∃ C, S.R vs H C ∧ ∀ v H', Ex H H' → C H' v → Q v H'
def EvHs (ta : TA) (σ : L2.St) (H : Hp) (C : Hp → List V → Prop) : Prop := ∀ H1, Ex H H1 → ∀ Q : List V → Hp → Prop, (∀ vs H2, Ex H1 H2 → C H2 vs → Q vs H2) → ta σ H1 Q
section
variable {K : PySem.W.Frag} {mg : Str → Option Value} {σ : L2.St} {H H' : Hp} {ta tb te tx : TE} {tr : TA} {x y z v : V} {r : R2} {P : Hp → V → Prop} {C C1 C2 : Hp → V → Prop} {S : Rl} {E : L2.St → XK} {vs : List V}
theorem eh_p (h : EvP te σ H P) : EvH te σ H (fun H2 v => ∃ N, Ex N H2 ∧ P N v) := fun H1 e Q q => h H1 e Q fun v H2 N e2 e3 _ p => q v H2 e2 ⟨N, e3, p⟩
theorem eh_v (h : Ev te σ H v) : EvH te σ H (fun _ x => x = v) := fun H1 e Q q => h H1 e Q fun H2 e2 => q v H2 e2 rfl
theorem ev_h (h : EvH te σ H (fun _ x => x = v)) : Ev te σ H v := fun H1 e Q q => h H1 e Q fun x H2 e2 c => by
  subst c
  exact q H2 e2
theorem eh_imp (h : EvH te σ H C1) (i : ∀ H2 v, Ex H H2 → C1 H2 v → C2 H2 v) : EvH te σ H C2 := fun H1 e Q q => h H1 e Q fun v H2 e2 c => q v H2 e2 (i H2 v (e.trans e2) c)
theorem EvH.mono (e : Ex H H') (h : EvH te σ H C) : EvH te σ H' C := fun H1 a Q q => h H1 (e.trans a) Q q
theorem ehs_nil : EvHs tNil σ H (fun _ vs => vs = []) := fun H1 _ Q q => q [] H1 (Ex.refl H1) rfl
theorem ehs_cons {Cr : Hp → List V → Prop} (h : EvH te σ H C) (u : Up C) (hr : EvHs tr σ H Cr) : EvHs (tCons te tr) σ H (fun H2 vs => ∃ v us, vs = v :: us ∧ C H2 v ∧ Cr H2 us) := fun H1 e Q q =>
  h H1 e _ fun v H2 e2 c => hr H2 (e.trans e2) _ fun us H3 e3 cr => q (v :: us) H3 (e2.trans e3) ⟨v, us, rfl, u e3 c, cr⟩
theorem ehs_v (h : EvA tr σ H vs) : EvHs tr σ H (fun _ us => us = vs) := fun H1 e Q q => h H1 e _ fun H2 e2 => q vs H2 e2 rfl
theorem eh_call {S : Rh} {Ca : Hp → List V → Prop} (ha : EvHs tr σ H Ca) (hR : ∀ vs H1, Ex H H1 → Ca H1 vs → S.R vs H1 C) : EvH (tCallS S.sp E tr) σ H C := fun H1 e Q q => ha H1 e _ fun vs H2 e2 c => ⟨C, hR vs H2 (e.trans e2) c, fun v H3 e3 k => q v H3 (e2.trans e3) k⟩
theorem eh_callV {S : Rh} (ha : EvA tr σ H vs) (hR : S.R vs H C) : EvH (tCallS S.sp E tr) σ H C := fun H1 e Q q => ha H1 e _ fun H2 e2 => ⟨C, S.mono (e.trans e2) hR, fun v H3 e3 k => q v H3 (e2.trans e3) k⟩
theorem eh_callO {Ca : Hp → List V → Prop} (ha : EvHs tr σ H Ca) (hR : ∀ vs H1, Ex H H1 → Ca H1 vs → S.R vs H1 (.ok P)) : EvH (tCallS (S.sp mg) E tr) σ H (fun H2 v => ∃ N, Ex N H2 ∧ P N v) := fun H1 e Q q => ha H1 e _ fun vs H2 e2 c => ⟨.ok P, hR vs H2 (e.trans e2) c, fun v H3 N e3 i3 _ p => q v H3 (e2.trans e3) ⟨N, i3, p⟩⟩
/-- [..]: a new list of such things -/
def cL (C : Hp → List V → Prop) : Hp → V → Prop := fun H v => ∃ p xs, v = .ref p ∧ H p = some (.lst xs) ∧ C H xs
theorem cL_up {C : Hp → List V → Prop} (u : ∀ {H H' : Hp} {xs : List V}, Ex H H' → C H xs → C H' xs) : Up (cL C) := fun e ⟨p, xs, h1, h2, h3⟩ => ⟨p, xs, h1, e _ _ h2, u e h3⟩
theorem eh_lst {Ca : Hp → List V → Prop} (ha : EvHs tr σ H Ca) (u : ∀ {H H' : Hp} {xs : List V}, Ex H H' → Ca H xs → Ca H' xs) (hl : ∀ H xs, Ca H xs → xs.length ≤ 100000) : EvH (tLst tr) σ H (cL Ca) := fun H1 e Q q =>
  ha H1 e _ fun vs H2 e2 c => ⟨sz_of (hl H2 vs c), fun p hp => q (.ref p) _ (e2.trans (Ex.new hp)) ⟨p, vs, rfl, upd_same, u (Ex.new hp) c⟩⟩
theorem eh_cat {Ca Cb Cc : Hp → List V → Prop} (ha : EvH ta σ H (cL Ca)) (hb : EvH tb σ H (cL Cb)) (ua : ∀ {H H' : Hp} {xs : List V}, Ex H H' → Ca H xs → Ca H' xs) (uc : ∀ {H H' : Hp} {xs : List V}, Ex H H' → Cc H xs → Cc H' xs)
    (hl : ∀ H1 xs ys, Ex H H1 → Ca H1 xs → Cb H1 ys → xs.length + ys.length ≤ 100000 ∧ Cc H1 (xs ++ ys)) : EvH (tOp (rAddU K) ta tb) σ H (cL Cc) := fun H1 e Q q =>
  ha H1 e _ fun v1 H2 e2 ⟨a, xs, ea, sa, ca⟩ => hb H2 (e.trans e2) _ fun v2 H3 e3 ⟨b, ys, eb, sb, cb⟩ => by
    subst ea eb
    obtain ⟨h1, h2⟩ := hl H3 xs ys ((e.trans e2).trans e3) (ua e3 ca) cb
    exact .inr (.inl ⟨a, b, xs, ys, rfl, rfl, e3 _ _ sa, sb, sz_of h1, fun p hp => q (.ref p) _ ((e2.trans e3).trans (Ex.new hp)) ⟨p, _, rfl, upd_same, uc (Ex.new hp) h2⟩⟩)
end
section
variable {K : PySem.W.Frag} {σ : L2.St} {H : Hp} {te : TE} {tz : TS} {D : Ends} {C : Hp → V → Prop}
theorem s_h {i : Nat} (h : EvH te σ H C) (k : ∀ v H1, Ex H H1 → C H1 v → D.nx (σ.set i (some v)) H1) : tAsg te (gName i) D σ H := h H (Ex.refl H) _ fun v H1 e c => k v H1 e c
theorem q_h {i : Nat} (h : EvH te σ H C) (k : ∀ v H1, Ex H H1 → C H1 v → tz D (σ.set i (some v)) H1) : tSeq (tAsg te (gName i)) tz D σ H := s_h (D := { D with nx := tz D }) h k
theorem s_rh (h : EvH te σ H C) (k : ∀ v H1, Ex H H1 → C H1 v → D.rt v H1) : tRet te D σ H := h H (Ex.refl H) _ fun v H1 e c => k v H1 e c
end
end Kj

/-! Kj7: several except clauses, some of which name the exception. -/
namespace Kj
open PySem PySem.Spec PyProof.Rows L2 Evl
abbrev Suite := Addr → Value → Option Addr → TS
/-- the ends of a suite behind which slot i is unset -/
def unE (D : Ends) (i : Nat) : Ends := { nx := fun τ G => D.nx (τ.set i none) G, rt := D.rt, bk := fun τ G => D.bk (τ.set i none) G, ct := fun τ G => D.ct (τ.set i none) G }
def wMix (K : PySem.W.Frag) (Wo : WX) (D : Ends) : List (Value × Option Nat × Suite) → WX
  | [] => Wo
  | (c, none, ts) :: r => fun cl dd τ G => ∃ b, PySem.W.exmOne K cl c = some b ∧ (b = true → ∀ a, G a = none → ts a cl dd D τ G) ∧ (b = false → wMix K Wo D r cl dd τ G)
  | (c, some i, ts) :: r => fun cl dd τ G => ∃ b, PySem.W.exmOne K cl c = some b ∧ (b = true → ∀ a, G a = none → ts a cl dd (unE D i) (τ.set i (some (.ref a))) G) ∧ (b = false → wMix K Wo D r cl dd τ G)
inductive HdA (X : Cx) : List ExceptHandler → List (Value × Option Nat × Suite) → Prop
  | nil : HdA X [] []
  | cons {x : Str} {c : Value} {ts : Suite} {s1 : Stmt} {su : List Stmt} {p1 p2 : Pos} {hr : List ExceptHandler} {lr : List (Value × Option Nat × Suite)} (hc : Names X x c)
      (hsu : ∀ (a : Addr) (oe : Obj) (cls : Value) (d : Option Addr) (pn : List (Addr × Obj)), Zc cls d oe → (∃ fv, oe.data = .fields fv) → PSs (X.suite a ((a, oe) :: pn)) (s1 :: su) (ts a cls d)) (r : HdA X hr lr) :
      HdA X (.ExceptHandler (some (.Name x p1)) none (s1 :: su) p2 :: hr) ((c, none, ts) :: lr)
  | named {x n : Str} {i : Nat} {c : Value} {ts : Suite} {s1 : Stmt} {su : List Stmt} {p1 p2 : Pos} {hr : List ExceptHandler} {lr : List (Value × Option Nat × Suite)} (hN : X.N.Nodup) (hi : X.N[i]? = some n) (hln : X.env.kindOf n = some .local) (hc : Names X x c)
      (hsu : ∀ (a : Addr) (oe : Obj) (cls : Value) (d : Option Addr) (pn : List (Addr × Obj)), Zc cls d oe → (∃ fv, oe.data = .fields fv) → PSs (X.suite a ((a, oe) :: pn)) (s1 :: su) (ts a cls d)) (r : HdA X hr lr) :
      HdA X (.ExceptHandler (some (.Name x p1)) (some n) (s1 :: su) p2 :: hr) ((c, some i, ts) :: lr)
section
variable {X : Cx} {bd : List Stmt} {h1 : ExceptHandler} {hr : List ExceptHandler} {lr : List (Value × Option Nat × Suite)} {pos : Pos} {tb : WX → TS} {Wo : WX}
theorem ps_try_mix (hst : X.stack = X.env :: X.outer) (hfl : X.env.frame = some X.env.locals) (tk : Takes X Wo)
    (hbd : ∀ (W : WX) (qn : List (Addr × Obj)) (xe : Value → Shared → Prop), Takes (X.tr qn xe) W → PassesOwn (model X.prog X.w) X.A X.env xe → PSs (X.tr qn xe) bd (tb W))
    (hhd : HdA X (h1 :: hr) lr) : PS X (.Try bd (h1 :: hr) [] [] pos) (fun D τ G => tb (wMix X.K Wo D lr) D τ G) := by
  refine ⟨fun ps0 s0 τ0 G0 D I0 z0 => ?_⟩
  have okX := I0.ok
  have hfrs : X.A.frames = some (X.env :: X.outer) := by rw [okX.frames, hst]
  refine wpAny_Try_except ?_
  refine wpAny_mono ((hbd (wMix X.K Wo D lr) (X.pn ++ ps0) (fun ev t1 => wpAny (model X.prog X.w) X.A (noteFrame ev X.env) (fun _ t2 => wpAny (model X.prog X.w) X.A (setFlight ev none) (fun _ t3 => wpAny (model X.prog X.w) X.A (handleBy ev X.env (h1 :: hr)) (SP X ps0 D) X.xe t3) X.xe t2) X.xe t1) (fun u0 t0 xx => ?_) PassesOwn.looking).run [] s0 τ0 G0 D (I0.toTry _) z0) (fun fl t1 sp1 => ?_) (fun _ _ he => he)
  · obtain ⟨a, B0, sJ, psJ, τ1, G1, cl, dd, rfl, J0, nb, up, sky, na, os, ag, wm⟩ := xx
    have J1 : Inv X ps0 τ1 G1 sJ := J0.ofTry okX
    have skyX : Sky B0 (X.env :: X.outer) a (Zc cl dd) X.env.locals t0.heap := by rw [← hst]; exact sky
    show wpAny (model X.prog X.w) X.A (noteFrame (.ref a) X.env) _ _ _
    refine Sky.land Zc.steady hfrs hfl skyX fun g3 fg3 ug3 => ?_
    have J3 : Inv X ps0 τ1 G1 { t0 with heap := g3 } := J1.landed nb fg3.1 (up.trans ug3) os ag
    obtain ⟨ob3, fv3, at3, zc3, dt3⟩ := fg3.there
    have outF : a ∉ frs (X.env :: X.outer) := fun hm => by
      obtain ⟨_, ob', at', hnf⟩ := fg3.2.2.1.mem hm
      rw [at3] at at'
      cases at'
      exact hnf _ dt3
    have outL : a ≠ X.env.locals := fun z => outF (List.mem_filterMap.mpr ⟨X.env, List.mem_cons_self, by rw [hfl, z]⟩)
    have outS : a ∉ X.fs := fun hm => by
      obtain ⟨en, hen, q⟩ := List.mem_filterMap.mp hm
      exact outF (List.mem_filterMap.mpr ⟨en, List.mem_cons_of_mem _ hen, q⟩)
    have S3 := J3.suite at3 dt3 na outL outS
    have tst : ∀ {x : Str} {c : Value} {np : Pos} {Q E : Value → Shared → Prop}, Names X x c → Q c { t0 with heap := g3 } → wpAny (model X.prog X.w) (X.A.mark (some (.ref a))) (eval (.Name x np) X.env) Q E { t0 with heap := g3 } := fun {x c np Q E} hc q => by
      obtain ⟨hgl, hdb, hm | ⟨hm, hv, hnn⟩⟩ := hc
      · exact ld_glob (X := X.suite a ((a, ob3) :: (X.pn ++ ps0))) S3 hgl hm q hdb
      · exact ld_blt (X := X.suite a ((a, ob3) :: (X.pn ++ ps0))) S3 hgl hm hv q hnn hdb
    have LT : PySem.W.Looks (model X.prog X.w) g3 (typeOf (.ref a)) cl := fun _ _ _ _ kk q => wpAny_typeOf_ref (kk _ _ at3) (by rw [zc3.1]; exact q)
    have go : ∀ {hx : List ExceptHandler} {lx : List (Value × Option Nat × Suite)}, HdA X hx lx → wMix X.K Wo D lx cl dd τ1 G1 → wpAny (model X.prog X.w) X.A (handleBy (.ref a) X.env hx) (SP X ps0 D) X.xe { t0 with heap := g3 } := by
      intro hx lx hk
      induction hk with
      | nil =>
        intro wm
        refine wpAny_handleBy_nil ?_
        obtain ⟨_, _, _, _, _, T0, _, _, atT, _, dtT, f1, _⟩ := id fg3
        unfold PySem.passOn
        refine wpAny_bind (wpAny_field atT dtT f1 ?_)
        rw [if_neg (show ¬ ((Value.ref T0 == Value.none) = true) from by simp)]
        have fin : wpAny (model X.prog X.w) X.A (setFlight (.ref a) X.env.frame) (fun _ t4 => wpAny (model X.prog X.w) X.A (throw (.ref a) : Sem Flow) (SP X ps0 D) X.xe t4) X.xe { t0 with heap := g3 } := by
          rw [hfl]
          refine HandSPX.setFlight_upZ fg3 fun g4 hg4 ug4 => wpAny_throw (tk _ _ ?_)
          exact ⟨a, B0, sJ, ps0, τ1, G1, cl, dd, rfl, J1, nb, (up.trans ug3).trans ug4, .inr (.inr (by rw [hst]; exact hg4)), na, os, ag, wm⟩
        first
          | exact wpAny_bind (wpAny_pure (wpAny_bind fin))
          | exact wpAny_bind fin
      | cons hc hsu r ih =>
        intro wm
        obtain ⟨b, hb1, yes, no⟩ := wm
        refine wpAny_handleBy_cons (codeAny_handlers_test ?_) (by intro q; cases q)
        refine tst hc ((PySem.W.exm_one (M := model X.prog X.w) (J3.kIn) LT hb1).here ?_)
        cases b with
        | true =>
          refine codeAny_handlers_suite ?_
          refine HandSPX.lands_againZ fg3 fun g4 fg4 ug4 => ?_
          have J4 : Inv X ps0 τ1 G1 { t0 with heap := g4 } := J1.landed nb fg4.1 ((up.trans ug3).trans ug4) os ag
          obtain ⟨ob4, fv4, at4, zc4, dt4⟩ := fg4.there
          refine wpAny_mono ((hsu a ob4 cl dd (X.pn ++ ps0) zc4 ⟨_, dt4⟩).run [] _ _ G1 _ (J4.suite at4 dt4 na outL outS) (yes rfl a na)) (fun fl t6 sp6 => ?_) (fun _ _ z => False.elim z)
          cases fl with
          | next => obtain ⟨_, _, S6, q6⟩ := sp6; exact ⟨_, _, S6.unsuite okX, q6⟩
          | brk => obtain ⟨_, _, S6, q6⟩ := sp6; exact ⟨_, _, S6.unsuite okX, q6⟩
          | cont => obtain ⟨_, _, S6, q6⟩ := sp6; exact ⟨_, _, S6.unsuite okX, q6⟩
          | ret _ => obtain ⟨_, _, _, S6, r6, q6⟩ := sp6; exact ⟨_, _, _, S6.unsuite okX, r6, q6⟩
        | false => exact ih (no rfl)
      | named hN hi hln hc hsu r ih =>
        rename_i n0 i0 _ _ _ _ _ pp0 _ _
        intro wm
        obtain ⟨b, hb1, yes, no⟩ := wm
        refine wpAny_handleBy_cons (codeAny_handlers_test ?_) (by intro q; cases q)
        refine tst hc ((PySem.W.exm_one (M := model X.prog X.w) (J3.kIn) LT hb1).here ?_)
        cases b with
        | true =>
          refine codeAny_handlers_suite_as ?_
          refine HandSPX.lands_againZ fg3 fun g4 fg4 ug4 => ?_
          have J4 : Inv X ps0 τ1 G1 { t0 with heap := g4 } := J1.landed nb fg4.1 ((up.trans ug3).trans ug4) os ag
          obtain ⟨ob4, fv4, at4, zc4, dt4⟩ := fg4.there
          refine store_ok (X := X.suite a ((a, ob4) :: (X.pn ++ ps0))) (v := .ref a) (J4.suite at4 dt4 na outL outS) hN hi (.inl hln) rfl (fun t5 S5 => ?_) (.inr hln)
          refine wpAny_mono ((hsu a ob4 cl dd (X.pn ++ ps0) zc4 ⟨_, dt4⟩).run [] t5 _ G1 _ S5 (yes rfl a na)) (fun fl t6 sp6 => ?_) (fun _ _ z => False.elim z)
          have fin : ∀ {τ6 : L2.St} {G6 : Hp} {Q : Shared → Prop}, Inv (X.suite a ((a, ob4) :: (X.pn ++ ps0))) [] τ6 G6 t6 → (∀ t7, Inv X ps0 (τ6.set i0 none) G6 t7 → Q t7) →
              wpAny (model X.prog X.w) X.A (do bindName X.env n0 .none; unbindBehindTheSuite X.env n0 pp0) (fun _ t7 => Q t7) X.xe t6 := fun S6 hq => gone_ok (S6.unsuite okX) hN hi hln hq
          cases fl with
          | next => obtain ⟨_, _, S6, q6⟩ := sp6; exact fin S6 fun _ J7 => ⟨_, _, J7, q6⟩
          | brk => obtain ⟨_, _, S6, q6⟩ := sp6; exact fin S6 fun _ J7 => ⟨_, _, J7, q6⟩
          | cont => obtain ⟨_, _, S6, q6⟩ := sp6; exact fin S6 fun _ J7 => ⟨_, _, J7, q6⟩
          | ret _ => obtain ⟨_, _, _, S6, r6, q6⟩ := sp6; exact fin S6 fun _ J7 => ⟨_, _, _, J7, r6, q6⟩
        | false => exact ih (no rfl)
    exact go hhd wm
  · cases fl with
    | next => obtain ⟨_, _, Jz, qz⟩ := sp1; exact wpAny_execs_nil ⟨_, _, Jz.ofTry okX, qz⟩
    | brk => obtain ⟨_, _, Jz, qz⟩ := sp1; exact ⟨_, _, Jz.ofTry okX, qz⟩
    | cont => obtain ⟨_, _, Jz, qz⟩ := sp1; exact ⟨_, _, Jz.ofTry okX, qz⟩
    | ret _ => obtain ⟨_, _, _, Jz, rz, qz⟩ := sp1; exact ⟨_, _, _, Jz.ofTry okX, rz, qz⟩
end
section
variable {K : PySem.W.Frag} {mg : Str → Option Value} {xn : Str} {fs : List (Str × V)} {H : Hp} {C : Addr} {c : Value} {D : Ends} {ts : Suite} {σ : L2.St} {Wo : WX} {l : List (Value × Option Nat × Suite)}
def XdAt (fs : List (Str × V)) (H H' : Hp) (d : Option Addr) : Prop := fs = [] ∧ d = none ∨ ∃ a, d = some a ∧ H' a = some (.xd fs) ∧ H a = none ∧ fs ≠ []
theorem mix_hit (hC : mg xn = some (.ref C)) (h : PySem.W.exmOne K (.ref C) c = some true) (k : ∀ H' d a, Ex H H' → H' a = none → XdAt fs H H' d → ts a (.ref C) d D σ H') : RaiseX mg xn fs H (WE (wMix K Wo D ((c, none, ts) :: l)) σ) := fun H' C' d e g cc => by
  rw [hC] at g
  cases g
  exact ⟨true, h, fun _ a ha => k H' d a e ha cc, fun z => nomatch z⟩
theorem mix_hitN {i : Nat} (hC : mg xn = some (.ref C)) (h : PySem.W.exmOne K (.ref C) c = some true) (k : ∀ H' d a, Ex H H' → H' a = none → XdAt fs H H' d → ts a (.ref C) d (unE D i) (σ.set i (some (.ref a))) H') : RaiseX mg xn fs H (WE (wMix K Wo D ((c, some i, ts) :: l)) σ) := fun H' C' d e g cc => by
  rw [hC] at g
  cases g
  exact ⟨true, h, fun _ a ha => k H' d a e ha cc, fun z => nomatch z⟩
theorem mix_miss {o : Option Nat} (hC : mg xn = some (.ref C)) (h : PySem.W.exmOne K (.ref C) c = some false) (k : RaiseX mg xn fs H (WE (wMix K Wo D l) σ)) : RaiseX mg xn fs H (WE (wMix K Wo D ((c, o, ts) :: l)) σ) := fun H' C' d e g cc => by
  have z := k H' C' d e g cc
  rw [hC] at g
  cases g
  cases o with
  | none => exact ⟨false, h, (fun z => nomatch z), fun _ => z⟩
  | some i => exact ⟨false, h, (fun z => nomatch z), fun _ => z⟩
/-- e.f of the exception at hand -/
theorem ev_xf {te : TE} {a dd : Addr} {f : Str} {v : V} (he : Ev te σ H (.ref a)) (hd : H dd = some (.xd fs)) (hl : fs.lookup f = some v) : Ev (tXf a (.ref C) (some dd) C f te) σ H v := fun H1 e Q q => he H1 e _ fun H2 e2 => ⟨rfl, rfl, dd, fs, v, rfl, e2 _ _ (e _ _ hd), hl, q H2 e2⟩
end
theorem pe_xfK {X : Cx} (K : PySem.W.Frag) {a C : Addr} {oe : Obj} {cls : Value} {d : Option Addr} {pn : List (Addr × Obj)} {e : Expr} {te : TE} {pos : Pos} {n : Str} (T : XfC K C) (hno : PySem.W.findIn K (.ref C) n = some none)
    (hz : Zc cls d oe) (hf : ∃ vs, oe.data = .fields vs) (he : PE (X.suite a ((a, oe) :: pn)) e te) (hK : X.K = K := by rfl) (hb : attributeBase e n X.env (eval e X.env) = eval e X.env := by rfl) : PE (X.suite a ((a, oe) :: pn)) (.Attribute e n pos) (tXf a cls d C n te) := by
  subst hK
  exact pe_xf T hno hz hf he hb
end Kj

/-! Kj8: dicts; comprehensions over something new; slices from behind. -/
namespace Kj
open PySem PySem.Spec PyProof.Rows L2 Evl
abbrev pDct (kvs : List (Key × V)) : Hp → V → Prop := fun N v => ∃ p, v = .ref p ∧ N p = some (.dK kvs)
section
variable {K : PySem.W.Frag} {σ : L2.St} {H G : Hp} {td ty tx te tv : TE} {d : Addr} {kvs : List (Key × V)} {k : Key} {z v : V} {P : Hp → V → Prop} {t : TE} {n : Nat} {Y : Nat → V → Hp → Prop} {Ns : List Hp} {D : Ends} {wi : TI} {g : TG} {tt : TT} {vs : List Nat}
theorem ep_dnew : EvP tDNewK σ H (pDct []) := fun H1 _ Q q p hp => q (.ref p) _ (sing p (.dK [])) (Ex.new hp) (sing_ex upd_same) (sing_fr hp) ⟨p, rfl, sing_at⟩
theorem ev_dget2 (hd : Ev td σ H (.ref d)) (h : H d = some (.dK kvs)) (hk : Ev ty σ H (kV k)) (hx : Ev tx σ H z) : Ev (tDGet2 td ty tx) σ H ((valV kvs k).getD z) := fun H1 e Q q =>
  hd H1 e _ fun H2 e2 => ⟨d, rfl, .inl ⟨kvs, .inl (e2 _ _ (e _ _ h))⟩, hk H2 (e.trans e2) _ fun H3 e3 => hx H3 ((e.trans e2).trans e3) _ fun H4 e4 => ⟨valV kvs k, .inl ⟨kvs, k, .inl (e4 _ _ (e3 _ _ (e2 _ _ (e _ _ h)))), rfl, rfl⟩, q H4 ((e2.trans e3).trans e4)⟩⟩
theorem ev_dget1 (hd : Ev td σ H (.ref d)) (h : H d = some (.dK kvs)) (hk : Ev ty σ H (kV k)) : Ev (tDGet1 td ty) σ H ((valV kvs k).getD .non) := fun H1 e Q q =>
  hd H1 e _ fun H2 e2 => ⟨d, rfl, .inl ⟨kvs, .inl (e2 _ _ (e _ _ h))⟩, hk H2 (e.trans e2) _ fun H3 e3 => ⟨valV kvs k, .inl ⟨kvs, k, .inl (e3 _ _ (e2 _ _ (e _ _ h))), rfl, rfl⟩, q H3 (e2.trans e3)⟩⟩
theorem ev_dix (hd : Ev td σ H (.ref d)) (h : H d = some (.dK kvs)) (hk : Ev ty σ H (kV k)) (hv : valV kvs k = some v) : Ev (tDGet td ty) σ H v := fun H1 e Q q =>
  hd H1 e _ fun H2 e2 => hk H2 (e.trans e2) _ fun H3 e3 => ⟨d, v, rfl, .inl ⟨kvs, k, .inl (e3 _ _ (e2 _ _ (e _ _ h))), rfl, hv.symm⟩, q H3 (e2.trans e3)⟩
theorem ev_din (hd : Ev td σ H (.ref d)) (h : H d = some (.dK kvs)) (hk : Ev ty σ H (kV k)) : Ev (tDIn ty td) σ H (.bl (valV kvs k).isSome) := fun H1 e Q q =>
  hk H1 e _ fun H2 e2 => hd H2 (e.trans e2) _ fun H3 e3 => ⟨d, valV kvs k, rfl, .inl ⟨kvs, k, .inl (e3 _ _ (e2 _ _ (e _ _ h))), rfl, rfl⟩, q H3 (e2.trans e3)⟩
theorem s_dput {j : Nat} (o : Own Ns H) (hj : Ns[j]? = some (sing d (.dK kvs))) (hv : EvP tv σ H P) (hd : Ev td σ H (.ref d)) (hk : Ev ty σ H (kV k)) (hz : kvs.length < 100000) (h : ∀ v H1 N, Own (N :: Ns.set j (sing d (.dK (putK kvs k v)))) H1 → P N v → D.nx σ H1) : sDPut td ty tv D σ H :=
  hv H (Ex.refl H) _ fun v H1 N e1 i1 f1 p1 => hd H1 e1 _ fun H2 e2 => hk H2 (e1.trans e2) _ fun H3 e3 => by
    have o3 : Own (N :: Ns) H3 := ((o.add e1 i1 f1).mono e2).mono e3
    have hj3 : (N :: Ns)[j + 1]? = some (sing d (.dK kvs)) := hj
    exact ⟨d, _, rfl, .inl ⟨kvs, k, o3.at hj3, rfl, sz_lt hz, rfl⟩, h v _ N (o3.set hj3) p1⟩
theorem s_dputV {j : Nat} (o : Own Ns H) (hj : Ns[j]? = some (sing d (.dK kvs))) (hv : Ev tv σ H v) (hd : Ev td σ H (.ref d)) (hk : Ev ty σ H (kV k)) (hz : kvs.length < 100000) (h : ∀ H1, Own (Ns.set j (sing d (.dK (putK kvs k v)))) H1 → D.nx σ H1) : sDPut td ty tv D σ H :=
  s_dput o hj (ep_v hv) hd hk hz fun v' H1 N o p => by
    have p : v' = v := p
    subst p
    exact h H1 o.tail
/-! ### for .. in d.items(): the dict is held fast meanwhile -/
theorem drw_items {o : Obj} (h : G d = some (.frz o (.dK kvs))) : Drw (Iti d o kvs) G kvs.length fun i x H' => ∃ T k y, x = .ref T ∧ H' T = some (.tup [kV k, y]) ∧ kvs[i]? = some (k, y) where
  go := fun i H' e hi => ⟨e _ _ h, hi⟩
  stop := fun H' e => ⟨e _ _ h, Nat.le_refl _⟩
  yld := fun i H' x H'' e hi y => by
    obtain ⟨T, k, z, y, e1, e2, e3⟩ := y
    subst e3
    exact ⟨Ex.new e2, T, k, z, e1, upd_same, y⟩
theorem ei_items {o : Obj} (h : Ev td σ H (.ref d)) (hd : G d = some (.frz o (.dK kvs))) (eg : Ex G H) : EvI (iItems td) σ H G kvs.length fun i x H' => ∃ T k y, x = .ref T ∧ H' T = some (.tup [kV k, y]) ∧ kvs[i]? = some (k, y) := fun H1 e R q =>
  h H1 e _ fun H2 e2 => ⟨d, o, kvs, rfl, e2 _ _ (e _ _ (eg _ _ hd)), q _ H2 e2 (drw_items hd)⟩
theorem ep_lock (hd : H d = some (.dK kvs)) (h : ∀ od H1, (∀ a u, a ≠ d → H a = some u → H1 a = some u) → H1 d = some (.frz od (.dK kvs)) → EvP t σ H1 P) : EvP (tLockE t) σ H P := fun H1 e Q q => ⟨d, .dK kvs, e _ _ hd, trivial, fun od =>
  h od (upd H1 d (.frz od (.dK kvs))) (fun a u ha hu => by rw [upd_ne ha]; exact e _ _ hu) upd_same _ (Ex.refl _) _ fun v H2 N e2 i2 f2 p2 => by
    have hN : N d = none := by
      cases z : N d with
      | none => rfl
      | some u =>
        have := f2 d (by rw [z]; exact (fun z => nomatch z))
        rw [upd_same] at this
        cases this
    refine ⟨e2 _ _ upd_same, q v _ N (fun a u hu => ?_) (fun a u hu => ?_) (fun a ha => ?_) p2⟩
    · by_cases hz : a = d
      · subst hz
        rw [e _ _ hd] at hu
        rw [upd_same, hu]
      · rw [upd_ne hz]
        exact e2 _ _ (by rw [upd_ne hz]; exact hu)
    · rw [upd_ne (fun z => by rw [z, hN] at hu; cases hu)]
      exact i2 _ _ hu
    · have := f2 a ha
      rw [upd_ne (fun z => ha (by rw [z]; exact hN))] at this
      exact this⟩
/-! ### a comprehension over something new -/
theorem ep_lcOf (hi : EvJ wi σ H n Y) (h : ∀ J H2 N, Ex H H2 → Ex N H2 → Drw J N n Y → EvP (tLc (fun _ G R => R J G) g tt te vs) σ H2 P) : EvP (tLc wi g tt te vs) σ H P := fun H1 e Q q => hi H1 e _ fun J H2 N e2 i2 _ dr => h J H2 N (e.trans e2) i2 dr H2 (Ex.refl H2) Q (q.fwd e2)
theorem ei_at {J : L2.It} (dr : Drw J G n Y) : EvI (fun _ G R => R J G) σ H G n Y := fun H1 _ R q => q J H1 (Ex.refl H1) dr
end
theorem el_lcOf {σ : L2.St} {H : Hp} {te : TE} {wi : TI} {g : TG} {tt : TT} {vs : List Nat} {n : Nat} {Y : Nat → V → Hp → Prop} {xs : List V} (hi : EvJ wi σ H n Y) (h : ∀ J H2 N, Ex H H2 → Ex N H2 → Drw J N n Y → EvL (tLc (fun _ G R => R J G) g tt te vs) σ H2 xs) : EvL (tLc wi g tt te vs) σ H xs := fun H1 e Q q => hi H1 e _ fun J H2 N e2 i2 _ dr => h J H2 N (e.trans e2) i2 dr H2 (Ex.refl H2) Q fun p H3 hp e3 h3 => q p H3 (fresh_back e2 hp) (e2.trans e3) h3
theorem ep_lcP {K : PySem.W.Frag} {σ : L2.St} {H : Hp} {tl te : TE} {g : TG} {tt : TT} {vs : List Nat} {X : List V → Hp → Prop} {P : Hp → V → Prop} (h : EvP tl σ H (fun N v => ∃ p xs, v = .ref p ∧ N p = some (.lst xs) ∧ X xs N)) (hb : ∀ J H2 N xs, Ex H H2 → Ex N H2 → X xs N → Drw J N xs.length (fun i x _ => xs[i]? = some x) → EvP (tLc (fun _ G R => R J G) g tt te vs) σ H2 P) : EvP (tLc (iList K tl) g tt te vs) σ H P := fun H1 e Q q =>
  ej_listP h H1 e _ fun J H2 N xs e2 i2 _ hx dr => hb J H2 N xs (e.trans e2) i2 hx dr H2 (Ex.refl H2) Q (q.fwd e2)
theorem el_lcP {K : PySem.W.Frag} {σ : L2.St} {H : Hp} {tl te : TE} {g : TG} {tt : TT} {vs : List Nat} {X : List V → Hp → Prop} {ys : List V} (h : EvP tl σ H (fun N v => ∃ p xs, v = .ref p ∧ N p = some (.lst xs) ∧ X xs N)) (hb : ∀ J H2 N xs, Ex H H2 → Ex N H2 → X xs N → Drw J N xs.length (fun i x _ => xs[i]? = some x) → EvL (tLc (fun _ G R => R J G) g tt te vs) σ H2 ys) : EvL (tLc (iList K tl) g tt te vs) σ H ys := fun H1 e Q q =>
  ej_listP h H1 e _ fun J H2 N xs e2 i2 _ hx dr => hb J H2 N xs (e.trans e2) i2 hx dr H2 (Ex.refl H2) Q fun p H3 hp e3 h3 => q p H3 (fresh_back e2 hp) (e2.trans e3) h3
theorem el_p {σ : L2.St} {H : Hp} {te : TE} {xs : List V} (h : EvP te σ H (pLst xs)) : EvL te σ H xs := fun H1 e Q q => h H1 e Q fun v H2 N e2 i2 f2 ⟨p, ev, hp⟩ => by
  subst ev
  exact q p H2 (f2 p (by rw [hp]; exact (fun z => nomatch z))) e2 (i2 _ _ hp)
theorem er_lc {K : PySem.W.Frag} {mg : Str → Option Value} {W : WX} {xn : Str} {fs : List (Str × V)} {σ : L2.St} {H : Hp} {te tb : TE} {g : TG} {tt : TT} {vs : List Nat} (h : EvErr mg W xn fs te σ H) : EvErr mg W xn fs (tLc (iList K te) g tt tb vs) σ H := fun H1 e q Q => h H1 e q _
theorem s_forEr {K : PySem.W.Frag} {mg : Str → Option Value} {W : WX} {xn : Str} {fs : List (Str × V)} {σ : L2.St} {H : Hp} {te : TE} {g : TG} {tu : TS} {D : Ends} (h : EvErr mg W xn fs te σ H) (k : RaiseX mg xn fs H (WE W σ)) : tFor (iList K te) g tu D σ H := h H (Ex.refl H) k _
theorem q_forEr {K : PySem.W.Frag} {mg : Str → Option Value} {W : WX} {xn : Str} {fs : List (Str × V)} {σ : L2.St} {H : Hp} {te : TE} {g : TG} {tu tz : TS} {D : Ends} (h : EvErr mg W xn fs te σ H) (k : RaiseX mg xn fs H (WE W σ)) : tSeq (tFor (iList K te) g tu) tz D σ H := s_forEr (D := { D with nx := tz D }) h k
theorem el_rev {K : PySem.W.Frag} {σ : L2.St} {H : Hp} {te : TE} {a : Addr} {xs : List V} (h : Ev te σ H (.ref a)) (hs : SqL K H a xs) : EvL (tRevL K te) σ H xs.reverse := fun H1 e Q q => h H1 e _ fun H2 e2 => ⟨a, xs, rfl, ex_l (e.trans e2) hs, fun p hp => q p _ (fresh_back e2 hp) (e2.trans (Ex.new hp)) upd_same⟩
theorem pe_revLK {X : Cx} (K : PySem.W.Frag) {e : Expr} {te : TE} {k : Nat} {p1 p2 p3 pos : Pos} (he : PE X e te) (hK : X.K = K := by rfl) : PE X (.Subscript e (.Slice none none (some (.UnaryOp .USub (.Constant (.int 1) k p1) p2)) p3) pos) (tRevL K te) := by
  subst hK
  exact pe_revL he
theorem cutV_init (xs : List V) : cutV xs none (some (-1)) = xs.dropLast := by
  unfold cutV
  have e1 : HT.sIx xs.length 0 none = 0 := rfl
  have e2 : HT.sIx xs.length xs.length (some (-1)) = xs.length - 1 := by
    unfold HT.sIx
    simp only []
    split <;> omega
  rw [e1, e2, List.drop_zero, Nat.sub_zero, List.dropLast_eq_take]
/-! ### counting -/
def toK (acc : List (Str × Nat)) : List (Key × V) := acc.map fun p => (.inr p.1, .int (p.2 : Nat))
def getC (acc : List (Str × Nat)) (s : Str) : Nat := ((acc.find? fun p => decide (p.1 = s)).map (·.2)).getD 0
def bump (acc : List (Str × Nat)) (s : Str) : List (Str × Nat) := if (acc.any fun p => decide (p.1 = s)) = true then acc.map fun p => if p.1 = s then (p.1, getC acc s + 1) else p else acc ++ [(s, getC acc s + 1)]
theorem valV_toK (s : Str) : ∀ acc : List (Str × Nat), (valV (toK acc) (.inr s)).getD (.int 0) = .int (getC acc s : Nat)
  | [] => rfl
  | p :: r => by
    have ih := valV_toK s r
    by_cases e : p.1 = s
    · have h1 : valV (toK (p :: r)) (.inr s) = some (.int (p.2 : Nat)) := valV_pos (p := ((.inr p.1 : Key), V.int (p.2 : Nat))) (by rw [e])
      have h2 : getC (p :: r) s = p.2 := by unfold getC; rw [List.find?_cons, decide_eq_true e]; rfl
      rw [h1, h2]
      rfl
    · have h1 : valV (toK (p :: r)) (.inr s) = valV (toK r) (.inr s) := valV_neg (p := ((.inr p.1 : Key), V.int (p.2 : Nat))) (fun z => e (Sum.inr.inj z))
      have h2 : getC (p :: r) s = getC r s := by unfold getC; rw [List.find?_cons, decide_eq_false e]
      rw [h1, h2]
      exact ih
theorem putK_toK (acc : List (Str × Nat)) (s : Str) : putK (toK acc) (.inr s) (.int ((getC acc s + 1 : Nat) : Int)) = toK (bump acc s) := by
  unfold putK bump
  have e : ((toK acc).any fun kv => decide (kv.1 = Sum.inr s)) = acc.any fun p => decide (p.1 = s) := by
    unfold toK
    rw [List.any_map]
    congr 1
    funext p
    simp
  rw [e]
  split
  · unfold toK
    rw [List.map_map, List.map_map]
    congr 1
    funext p
    simp only [Function.comp]
    by_cases h : p.1 = s
    · rw [if_pos h, if_pos (by rw [h])]
    · rw [if_neg h, if_neg (fun z => h (Sum.inr.inj z))]
  · unfold toK
    rw [List.map_append]
    rfl
/-! ### the shape of data: may be laid, is not too deep, not too long -/
structure Ly (n : Nat) (d : PyData) : Prop where
  lay : d.canLay0 = true
  dep : d.depth ≤ n
  sm : smD d
theorem ly_int (n : Nat) (i : Int) : Ly n (.int i) := ⟨by simp [PyData.canLay0], by simp [PyData.depth], by simp [smD]⟩
theorem ly_bool (n : Nat) (b : Bool) : Ly n (.bool b) := ⟨by simp [PyData.canLay0], by simp [PyData.depth], by simp [smD]⟩
theorem ly_none (n : Nat) : Ly n .none := ⟨by simp [PyData.canLay0], by simp [PyData.depth], by simp [smD]⟩
theorem ly_str (n : Nat) {x : Str} (h : TxtOk x) : Ly n (.str x) := ⟨by simp [PyData.canLay0, strOk_of h], by simp [PyData.depth], by simp [smD]⟩
theorem layAll {ds : List PyData} (h : ∀ d ∈ ds, d.canLay0 = true) : PyData.canLayAll0 ds = true := by
  induction ds with
  | nil => simp [PyData.canLayAll0]
  | cons d r ih => simp only [PyData.canLayAll0, h d List.mem_cons_self, ih fun t ht => h t (List.mem_cons_of_mem _ ht), Bool.and_self]
theorem depAll {n : Nat} {ds : List PyData} (h : ∀ d ∈ ds, d.depth ≤ n) : PyData.depthAll ds ≤ n := by
  induction ds with
  | nil => simp [PyData.depthAll]
  | cons d r ih =>
    have h1 := h d List.mem_cons_self
    have h2 := ih fun t ht => h t (List.mem_cons_of_mem _ ht)
    simp only [PyData.depthAll]
    omega
theorem ly_list {n : Nat} {ds : List PyData} (hl : ds.length ≤ 40000) (h : ∀ d ∈ ds, Ly n d) : Ly (n + 1) (.list ds) := ⟨by simp only [PyData.canLay0, layAll fun d hd => (h d hd).lay], by have := depAll fun d hd => (h d hd).dep; simp only [PyData.depth]; omega, smD_list.mpr ⟨hl, fun d hd => (h d hd).sm⟩⟩
theorem ly_tup {n : Nat} {ds : List PyData} (hl : ds.length ≤ 40000) (h : ∀ d ∈ ds, Ly n d) : Ly (n + 1) (.tuple ds) := ⟨by simp only [PyData.canLay0, layAll fun d hd => (h d hd).lay], by have := depAll fun d hd => (h d hd).dep; simp only [PyData.depth]; omega, smD_tuple.mpr ⟨hl, fun d hd => (h d hd).sm⟩⟩
theorem Ly.shp {n : Nat} {d : PyData} (h : Ly n d) (hn : n ≤ 64) : SeqAt.shaped d = true := by
  show (d.canLay0 && decide (d.depth ≤ 64)) = true
  rw [h.lay, decide_eq_true (Nat.le_trans h.dep hn)]
  rfl
theorem Ly.up {n m : Nat} {d : PyData} (h : Ly n d) (hm : n ≤ m) : Ly m d := ⟨h.lay, Nat.le_trans h.dep hm, h.sm⟩
/-- == and != of two that hold the same -/
theorem rv_eqL {K : PySem.W.Frag} {H : Hp} {x y : V} {n : Nat} {d : PyData} (h : Ly n d) (hn : n ≤ 64) (h1 : Dp K H x d) (h2 : Dp K H y d) : RV (rEqU K) x y H (.bl true) := by
  have z := rv_eqD (K := K) h1 h2 (h.shp hn) (h.shp hn)
  rw [PySem.SeqAt.eqv_refl d h.lay] at z
  exact z
theorem rv_neL {K : PySem.W.Frag} {H : Hp} {x y : V} {n : Nat} {d : PyData} (h : Ly n d) (hn : n ≤ 64) (h1 : Dp K H x d) (h2 : Dp K H y d) : RV (rNeU K) x y H (.bl false) := by
  have z := rv_neD (K := K) h1 h2 (h.shp hn) (h.shp hn)
  rw [PySem.SeqAt.eqv_refl d h.lay] at z
  exact z
theorem ly_line {l : List Str} (hl : l.length ≤ 40000) (h : ∀ x ∈ l, TxtOk x) : Ly 1 (eLine l) := ly_list (by rw [List.length_map]; exact hl) fun d hd => by
  obtain ⟨x, hx, rfl⟩ := List.mem_map.mp hd
  exact ly_str 0 (h x hx)
theorem ly_ints {l : List Int} (hl : l.length ≤ 40000) : Ly 1 (eInts l) := ly_list (by rw [List.length_map]; exact hl) fun d hd => by
  obtain ⟨x, hx, rfl⟩ := List.mem_map.mp hd
  exact ly_int 0 x
theorem own_split {H N : Hp} {r : List Hp} {p : Addr} {u : HO} (o : Own (N :: r) H) (h : N p = some u) : Own (sing p u :: L2.del N p :: r) H := by
  have e : Ex (L2.del N p) N := fun a o h => by
    unfold L2.del at h
    split at h
    · cases h
    · exact h
  refine ⟨(sing_ex h).trans o.1, fun M hM a ha => ?_, e.trans o.1, fun M hM a ha => o.2.1 M hM a (fun z => ha (fresh_back e z)), o.2.2⟩
  have ea : a = p := by
    by_cases q : a = p
    · exact q
    · exact absurd (sing_ne q) ha
  subst ea
  rcases List.mem_cons.mp hM with z | z
  · subst z
    exact L2.del_same
  · exact o.2.1 M z a (by rw [h]; exact (fun z => nomatch z))
end Kj

/-! Kj9: max(xs, default=d) of ints. -/
namespace Kj
open PySem PySem.Spec PyProof.Rows L2 Evl
theorem vals_reads {h : Heap} : ∀ {ns : List Int} {us : List Value}, Vals (ns.map V.int) us → ∃ as, ReadsAll h us (ns.map PyData.int) as
  | [], _, .nil => ⟨_, .nil⟩
  | n :: r, _, .cons a b => by
    obtain ⟨t, rfl⟩ := a
    obtain ⟨as, hr⟩ := vals_reads b
    exact ⟨_, .cons (.int n t) hr⟩
theorem maxOf_int (ys : List Int) : ∀ y : Int, PySem.W.maxOf y ys ∈ y :: ys ∧ ∀ z ∈ y :: ys, z ≤ PySem.W.maxOf y ys := by
  unfold PySem.W.maxOf
  induction ys with
  | nil => intro y; exact ⟨List.mem_cons_self, fun z hz => by rw [List.mem_singleton.mp hz]; exact Int.le_refl _⟩
  | cons x r ih =>
    intro y
    rw [List.foldl_cons]
    by_cases h : y < x
    · have e : (if PySem.W.DatumOrd.lt y x = true then x else y) = x := if_pos (decide_eq_true h)
      rw [e]
      obtain ⟨h1, h2⟩ := ih x
      refine ⟨List.mem_cons_of_mem _ h1, fun z hz => ?_⟩
      rcases List.mem_cons.mp hz with q | q
      · have := h2 x List.mem_cons_self
        omega
      · exact h2 z q
    · have e : (if PySem.W.DatumOrd.lt y x = true then x else y) = y := if_neg (by show ¬ decide (y < x) = true; rw [decide_eq_false h]; decide)
      rw [e]
      obtain ⟨h1, h2⟩ := ih y
      refine ⟨?_, fun z hz => ?_⟩
      · rcases List.mem_cons.mp h1 with q | q
        · rw [q]; exact List.mem_cons_self
        · exact List.mem_cons_of_mem _ (List.mem_cons_of_mem _ q)
      · rcases List.mem_cons.mp hz with q | q
        · exact h2 z (by rw [q]; exact List.mem_cons_self)
        · rcases List.mem_cons.mp q with q | q
          · have := h2 y List.mem_cons_self
            omega
          · exact h2 z (List.mem_cons_of_mem _ q)
def rMaxDf (K : PySem.W.Frag) : List V → List V → Hp → VK → Prop := fun vs zs H Q => ∃ (a : Addr) (ns : List Int) (d : V), vs = [V.ref a] ∧ zs = [d] ∧ SqL K H a (ns.map V.int) ∧ (ns = [] → Q d H) ∧ ∀ m, m ∈ ns → (∀ y, y ∈ ns → y ≤ m) → Q (.int m) H
theorem cr_maxDf {X : Cx} (hc : X.calm = true) (hu : X.A.units + 1 < cLine) : CallRK X (.builtin "max") [Str.ofString "default"] (rMaxDf X.K) := by
  intro pins s σ H vs zs us ws Q I r rz h
  obtain ⟨a, ns, d, rfl, rfl, hs, q0, q1⟩ := h
  obtain rfl := Vals.ref1 r
  obtain ⟨w1, rfl, e1⟩ := vals1 rz
  obtain ⟨its, rv, hl, hz⟩ := I.list hs
  obtain ⟨as, hr⟩ := vals_reads (h := s.heap) rv
  refine PySem.W.max_list_datum_default (α := Int) (xs := ns) (I.ok.hd hc) hl.isList ⟨as, by show ReadsAll s.heap (its.toArray).toList (ns.map PyData.int) as; simpa using hr⟩ (by show X.A.units + 1 + 0 < cLine; omega) (fun e h' tk hk => ⟨d, H, I.kept hk, e1, q0 e⟩) fun y ys i v h' tk e hi hv hk => ?_
  obtain ⟨bs, hv⟩ := hv
  have hv : Reads h' v (.int (PySem.W.maxOf y ys)) bs := hv
  cases hv with
  | int n t =>
    have z := maxOf_int ys y
    exact ⟨.int _, H, I.kept hk, ⟨t, rfl⟩, q1 _ (by rw [e]; exact z.1) (by rw [e]; exact z.2)⟩
theorem cr_maxDfK {X : Cx} (K : PySem.W.Frag) (hc : X.calm = true) (hu : X.A.units + 1 < cLine) (hK : X.K = K := by rfl) : CallRK X (.builtin "max") [Str.ofString "default"] (rMaxDf K) := by
  subst hK
  exact cr_maxDf hc hu
/-- the greatest, or d -/
def maxD (d : Nat) (l : List Nat) : Nat := l.foldl max d
theorem maxD_ge {l : List Nat} {d x : Nat} : (x ∈ l → x ≤ maxD d l) ∧ d ≤ maxD d l := by
  unfold maxD
  induction l generalizing d with
  | nil => exact ⟨(fun h => nomatch h), Nat.le_refl _⟩
  | cons y r ih =>
    rw [List.foldl_cons]
    have h1 := (ih (d := max d y)).2
    exact ⟨fun h => by
      rcases List.mem_cons.mp h with z | z
      · omega
      · exact (ih (d := max d y)).1 z, by omega⟩
theorem maxD_mem (l : List Nat) (d : Nat) : maxD d l = d ∨ maxD d l ∈ l := by
  unfold maxD
  induction l generalizing d with
  | nil => exact .inl rfl
  | cons y r ih =>
    rw [List.foldl_cons]
    rcases ih (max d y) with z | z
    · rw [z]
      by_cases h : d ≤ y
      · exact .inr (by rw [Nat.max_eq_right h]; exact List.mem_cons_self)
      · exact .inl (by omega)
    · exact .inr (List.mem_cons_of_mem _ z)
theorem ev_maxD {K : PySem.W.Frag} {σ : L2.St} {H : Hp} {te td : TE} {l : List Nat} (h : EvL te σ H (l.map fun i => V.int (i : Nat))) (hd : Ev td σ H (.int 0)) : Ev (tCKw (rMaxDf K) (tCons te tNil) (tCons td tNil)) σ H (.int (maxD 0 l : Nat)) := fun H1 e Q q =>
  h H1 e _ fun p H2 hp e2 h2 => hd H2 (e.trans e2) _ fun H3 e3 => by
    refine ⟨p, l.map fun i => ((i : Nat) : Int), .int 0, rfl, rfl, sq_of (by rw [List.map_map]; exact e3 _ _ h2), fun z => ?_, fun m hm hy => ?_⟩
    · have z : l = [] := List.map_eq_nil_iff.mp z
      subst z
      exact q H3 (e2.trans e3)
    · obtain ⟨j, hj, rfl⟩ := List.mem_map.mp hm
      have e1 : maxD 0 l = j := by
        have h1 := (maxD_ge (d := 0) (x := j)).1 hj
        rcases maxD_mem l 0 with z | z
        · omega
        · have := hy _ (List.mem_map.mpr ⟨_, z, rfl⟩)
          omega
      rw [← e1]
      exact q H3 (e2.trans e3)
theorem drw_ex {J : L2.It} {G : Hp} {n : Nat} {Y : Nat → V → Hp → Prop} (d : Drw J G n Y) : Drw J G n (fun i x H' => Y i x H' ∧ Ex G H') := ⟨d.go, d.stop, fun i H' x H'' e hi y => ⟨(d.yld i H' x H'' e hi y).1, (d.yld i H' x H'' e hi y).2, e.trans (d.yld i H' x H'' e hi y).1⟩⟩
theorem picks_getD {α β : Type} (acc : List α) (d : α) (f : α → Bool) (g : α → β) : (picks acc.length fun j => f (acc.getD j d)).map (fun j => g (acc.getD j d)) = (acc.filter f).map g := by
  have e : (List.range acc.length).map (fun j => acc.getD j d) = acc := by
    refine List.ext_getElem (by simp) fun i h1 h2 => ?_
    rw [List.getElem_map, List.getElem_range, List.getD_eq_getElem?_getD, List.getElem?_eq_getElem h2]
    rfl
  unfold picks
  have h : (acc.filter f).map g = (((List.range acc.length).map (fun j => acc.getD j d)).filter f).map g := by rw [e]
  rw [h, List.filter_map, List.map_map]
  rfl
end Kj

/-! Kj10: list(zip(a, b)). -/
namespace Kj
open PySem PySem.Spec PyProof.Rows L2 Evl
theorem zip_nolen : typeLookup (.type "zip") "__len__" = pure none := by rw [typeLookup_type, builtinLookup_eq_fast]; kernel_rfl
theorem zip_nohint : typeLookup (.type "zip") "__length_hint__" = pure none := by rw [typeLookup_type, builtinLookup_eq_fast]; kernel_rfl
/-- the places of a zip at work -/
structure ZA where
  (z TI TO i1 i2 l1 l2 : Addr)
abbrev ZA.Ap (c : ZA) : Prop := ZipApart c.z c.TI c.TO c.i1 c.i2 c.l1 c.l2
/-- i pairs are drawn; S: where the new list lies -/
def ZSt (c : ZA) (S : Addr) (xs ys : Array Value) (i : Nat) (h : Heap) : Prop :=
  IsPair h c.TI (.ref c.i1) (.ref c.i2) ∧ h.IsListIter c.i1 c.l1 i ∧ h.IsListIter c.i2 c.l2 i ∧ h.IsList c.l1 xs ∧ h.IsList c.l2 ys ∧
    ((IsZip h c.z c.TI c.TO .none ∧ ∃ a b, IsPair h c.TO a b) ∨ ∃ T f oT, IsZipHeld h c.z c.TI c.TO T f ∧ h.get? T = some oT ∧ T ≠ c.z ∧ T ≠ c.i1 ∧ T ≠ c.i2 ∧ T ≠ S)
def ZA.Low (c : ZA) (S : Addr) : Prop := c.z < S ∧ c.TI < S ∧ c.TO < S ∧ c.i1 < S ∧ c.i2 < S ∧ c.l1 < S ∧ c.l2 < S
theorem ZSt.keep {c : ZA} {S : Addr} {xs ys : Array Value} {i : Nat} {h h' : Heap} (st : ZSt c S xs ys i h) (lo : c.Low S) (hk : ∀ b o, b ≠ S → h.get? b = some o → h'.get? b = some o) : ZSt c S xs ys i h' := by
  obtain ⟨hTI, h1, h2, hl1, hl2, hz⟩ := st
  obtain ⟨o1, o2, o3, o4, o5, o6, o7⟩ := lo
  have ne : ∀ {a : Addr}, a < S → a ≠ S := fun h => Nat.ne_of_lt h
  exact ⟨hk _ _ (ne o2) hTI, h1.at (fun o e => hk _ o (ne o4) e), h2.at (fun o e => hk _ o (ne o5) e), hl1.at (fun o e => hk _ o (ne o6) e), hl2.at (fun o e => hk _ o (ne o7) e),
    hz.imp (fun ⟨w1, a, b, w2⟩ => ⟨hk _ _ (ne o1) w1, a, b, hk _ _ (ne o3) w2⟩) fun ⟨T, f, oT, w1, w2, r1, r2, r3, r4⟩ => ⟨T, f, oT, hk _ _ (ne o1) w1, hk _ _ r4 w2, r1, r2, r3, r4⟩⟩
/-- the pairs that are handed out, as tuples behind lo -/
structure ZG (xs ys : Array Value) (lo : Addr) (h : Heap) (as : List Addr) : Prop where
  up : as.Pairwise (· < ·)
  behind : ∀ a ∈ as, lo < a
  tup : ∀ (j : Nat) (a : Addr), as[j]? = some a → ∃ x y, xs[j]? = some x ∧ ys[j]? = some y ∧ IsPair h a x y
abbrev IsL (h : Heap) (S : Addr) (acc : Array Value) (c : Nat) : Prop := h.get? S = some { cls := .type "list", dict := none, data := .seq acc c, slots := #[] }
section
variable {prog : Program} {w : World} {A : Around} {E : Value → Shared → Prop} {s : Shared} {c : ZA} {S : Addr} {xs ys : Array Value} {i : Nat}
theorem z_item {x y : Value} {Q : Option Value → Shared → Prop} (D : c.Ap) (st : ZSt c S xs ys i s.heap) (hS : S < s.heap.objs.size) (ex : xs[i]? = some x) (ey : ys[i]? = some y)
    (hQ : ∀ h', ZSt c S xs ys (i + 1) h' → IsPair h' s.heap.objs.size x y → (∀ b o, b ≠ c.z → b ≠ c.TO → b ≠ c.i1 → b ≠ c.i2 → s.heap.get? b = some o → h'.get? b = some o) → Q (some (.ref s.heap.objs.size)) { s with heap := h' }) :
    wpAny (model prog w) A (pyNext (.ref c.z)) Q E s := by
  obtain ⟨hTI, h1, h2, hl1, hl2, hz⟩ := st
  have new : ∀ {b o}, s.heap.get? b = some o → s.heap.objs.size ≠ b := fun e => Nat.ne_of_gt (Heap.lt_size e)
  have n1 : s.heap.objs.size ≠ c.i1 := by obtain ⟨_, e, _⟩ := h1; exact new e
  have n2 : s.heap.objs.size ≠ c.i2 := by obtain ⟨_, e, _⟩ := h2; exact new e
  rcases hz with ⟨hz, a, b, hTO⟩ | ⟨T, f, oT, hz, hT, r1, r2, r3, r4⟩
  · exact wpAny_pyNext_zip_item D hz hTI hTO h1 h2 hl1 hl2 ex ey fun h' a1 a2 a3 a4 a5 a6 hk => hQ h' ⟨hk _ _ D.TIz D.TITO D.TIi1 D.TIi2 hTI, a3, a4, hl1.at (fun o e => hk _ o D.l1z D.l1TO D.l1i1 D.l1i2 e), hl2.at (fun o e => hk _ o D.l2z D.l2TO D.l2i1 D.l2i2 e), .inr ⟨_, false, _, a1, a5, new hz, n1, n2, Nat.ne_of_gt hS⟩⟩ a5 hk
  · exact wpAny_pyNext_zip_item_held D hz hT hTI h1 h2 hl1 hl2 ex ey fun h' a1 a3 a4 a5 a6 hk => hQ h' ⟨hk _ _ D.TIz D.TIi1 D.TIi2 hTI, a3, a4, hl1.at (fun o e => hk _ o D.l1z D.l1i1 D.l1i2 e), hl2.at (fun o e => hk _ o D.l2z D.l2i1 D.l2i2 e), .inr ⟨T, true, oT, a1, hk _ _ r1 r2 r3 hT, r1, r2, r3, r4⟩⟩ a5 fun b o b1 _ b3 b4 e => hk b o b1 b3 b4 e
theorem z_done {Q : Option Value → Shared → Prop} (hh : A.handled = none) (D : c.Ap) (st : ZSt c S xs ys i s.heap) (hend : xs[i]? = none ∨ ys[i]? = none)
    (hQ : ∀ h', (∀ b o, b ≠ c.z → b ≠ c.TO → b ≠ c.i1 → b ≠ c.i2 → s.heap.get? b = some o → h'.get? b = some o) → Q none { s with heap := h' }) : wpAny (model prog w) A (pyNext (.ref c.z)) Q E s := by
  obtain ⟨hTI, h1, h2, hl1, hl2, hz⟩ := st
  rcases hz with ⟨hz, a, b, hTO⟩ | ⟨T, f, oT, hz, hT, r1, r2, r3, r4⟩
  · exact wpAny_pyNext_zip_end hh D hz hTI hTO h1 h2 hl1 hl2 hend hQ
  · exact wpAny_pyNext_zip_end_held hh D hz hT hTI h1 h2 hl1 hl2 hend fun h' hk => hQ h' fun b o b1 _ b3 b4 e => hk b o b1 b3 b4 e
end
section
variable {prog : Program} {w : World} {A : Around} {s : Shared} {c : ZA} {S : Addr} {xs ys : Array Value} {R : Result → Shared → Prop}
theorem z_loop (hh : A.handled = none) (D : c.Ap) (lo : c.Low S) (hn : min xs.size ys.size ≤ sizeLine) (res : Value) {h₀ : Heap}
    (hR : ∀ h' tk acc cc as, (∀ b o, b ≠ S → b ≠ c.z → b ≠ c.TO → b ≠ c.i1 → b ≠ c.i2 → h₀.get? b = some o → h'.get? b = some o) → IsL h' S acc cc → as.length = min xs.size ys.size → ZG xs ys S h' as → acc.toList = as.map Value.ref → R (.ok (.ret res)) { s with heap := h', toks := tk }) :
    ∀ (k i : Nat) (h : Heap) (tk cc : Nat) (acc : Array Value) (as : List Addr), min xs.size ys.size - i = k → i ≤ min xs.size ys.size → ZSt c S xs ys i h → (∀ b o, b ≠ S → b ≠ c.z → b ≠ c.TO → b ≠ c.i1 → b ≠ c.i2 → h₀.get? b = some o → h.get? b = some o) →
      IsL h S acc cc → acc.toList = as.map Value.ref → as.length = i → ZG xs ys S h as → codeAny (model prog w) A (.builtin "list.extend.loop" ⟨[.ref S, .ref c.z, res], []⟩) R { s with heap := h, toks := tk } := by
  have off : ∀ {a : Addr}, S < a → a ≠ c.z ∧ a ≠ c.TO ∧ a ≠ c.i1 ∧ a ≠ c.i2 := fun {a} h => by
    obtain ⟨o1, o2, o3, o4, o5, o6, o7⟩ := lo
    exact ⟨Nat.ne_of_gt (Nat.lt_trans o1 h), Nat.ne_of_gt (Nat.lt_trans o3 h), Nat.ne_of_gt (Nat.lt_trans o4 h), Nat.ne_of_gt (Nat.lt_trans o5 h)⟩
  have offS : S ≠ c.z ∧ S ≠ c.TO ∧ S ≠ c.i1 ∧ S ≠ c.i2 := by
    obtain ⟨o1, o2, o3, o4, o5, o6, o7⟩ := lo
    exact ⟨Nat.ne_of_gt o1, Nat.ne_of_gt o3, Nat.ne_of_gt o4, Nat.ne_of_gt o5⟩
  intro k
  induction k with
  | zero =>
    intro i h tk cc acc as hk hi st kp hS hacc hal hG
    (refine codeAny_builtin PySem.F.entry_extend_loop ?_; rw [Around.under_plainId PySem.F.plain_extend_loop _]; show wpAny _ A.in1 (pyNext (.ref c.z) >>= _) _ _ _; refine wpAny_bind ?_)
    refine z_done (s := { s with heap := h, toks := tk }) (A := A.in1) hh D st ?_ fun h' kp2 => ?_
    · rcases Nat.le_total xs.size ys.size with z | z
      · exact .inl (Array.getElem?_eq_none (by omega))
      · exact .inr (Array.getElem?_eq_none (by omega))
    · refine wpAny_pure (hR h' tk acc cc as (fun b o b0 b1 b2 b3 b4 e => kp2 b o b1 b2 b3 b4 (kp b o b0 b1 b2 b3 b4 e)) (kp2 S _ offS.1 offS.2.1 offS.2.2.1 offS.2.2.2 hS) (by omega) ⟨hG.up, hG.behind, fun j a hj => ?_⟩ hacc)
      obtain ⟨x, y, e1, e2, e3⟩ := hG.tup j a hj
      obtain ⟨f1, f2, f3, f4⟩ := off (hG.behind a (List.mem_of_getElem? hj))
      exact ⟨x, y, e1, e2, kp2 a _ f1 f2 f3 f4 e3⟩
  | succ k ih =>
    intro i h tk cc acc as hk hi st kp hS hacc hal hG
    have hx : xs[i]? = some xs[i] := Array.getElem?_eq_getElem (by omega)
    have hy : ys[i]? = some ys[i] := Array.getElem?_eq_getElem (by omega)
    have hsz : acc.size = i := by rw [← Array.length_toList, hacc, List.length_map, hal]
    have hSl : S < h.objs.size := Heap.lt_size hS
    (refine codeAny_builtin PySem.F.entry_extend_loop ?_; rw [Around.under_plainId PySem.F.plain_extend_loop _]; show wpAny _ A.in1 (pyNext (.ref c.z) >>= _) _ _ _; refine wpAny_bind ?_)
    refine z_item (s := { s with heap := h, toks := tk }) D st hSl hx hy fun h' st' ht kp2 => ?_
    dsimp only at ht kp2 ⊢
    have hS' := kp2 S _ offS.1 offS.2.1 offS.2.2.1 offS.2.2.2 hS
    have up : ∀ b o, b ≠ S → h'.get? b = some o → (h'.update S (Obj.mapSeq (·.push (Value.ref h.objs.size)))).get? b = some o := fun b o hb e => (Heap.get?_update_other _ _ (Ne.symm hb)).trans e
    have htop := up _ _ (Nat.ne_of_gt hSl) ht
    show wpAny _ A.in1 (updateSeq S (·.push (Value.ref h.objs.size)) >>= _) _ _ _
    refine wpAny_bind (wpAny_updateSeq hS' rfl (wpAny_pure ⟨plainId_quiet PySem.F.plain_extend_loop _, ih (i + 1) _ tk _ (acc.push (Value.ref h.objs.size)) (as ++ [h.objs.size]) (by omega) (by omega) (st'.keep lo up) (fun b o b0 b1 b2 b3 b4 e => up b o b0 (kp2 b o b1 b2 b3 b4 (kp b o b0 b1 b2 b3 b4 e)))
      (Heap.get?_update_self _ hS' rfl) (by rw [Array.toList_push, hacc, List.map_append]; rfl) (by rw [List.length_append, hal]; rfl) ⟨List.pairwise_append.mpr ⟨hG.up, List.pairwise_singleton _ _, fun a ha b hb => ?_⟩, fun a ha => ?_, fun j b hj => ?_⟩⟩) (by rw [hsz]; omega) (by show (acc.push (Value.ref h.objs.size)).size ≤ sizeLine + 1; rw [Array.size_push, hsz]; omega))
    · obtain ⟨j, hj⟩ := List.mem_iff_getElem?.mp ha
      obtain ⟨_, _, _, _, e⟩ := hG.tup j a hj
      rw [List.mem_singleton.mp hb]
      exact Heap.lt_size e
    · rcases List.mem_append.mp ha with z | z
      · exact hG.behind a z
      · rw [List.mem_singleton.mp z]
        exact hSl
    · rcases Nat.lt_or_ge j as.length with z | z
      · rw [List.getElem?_append_left z] at hj
        obtain ⟨x, y, e1, e2, e3⟩ := hG.tup j b hj
        have hb := hG.behind b (List.mem_of_getElem? hj)
        obtain ⟨f1, f2, f3, f4⟩ := off hb
        exact ⟨x, y, e1, e2, up b _ (Nat.ne_of_gt hb) (kp2 b _ f1 f2 f3 f4 e3)⟩
      · rw [List.getElem?_append_right z] at hj
        rcases Nat.eq_zero_or_pos (j - as.length) with q | q
        · rw [q] at hj
          have hb : h.objs.size = b := by simpa using hj
          have hji : j = i := by omega
          subst hb hji
          exact ⟨_, _, hx, hy, htop⟩
        · rw [List.getElem?_eq_none (by rw [List.length_singleton]; omega)] at hj
          cases hj
end
section
variable {prog : Program} {w : World} {A : Around} {E : Value → Shared → Prop} {s : Shared} {c : ZA} {S : Addr} {xs ys : Array Value}
theorem z_hint {r : Addr} (hT : s.TypeIs (.ref r) "zip") {Q : Bool → Shared → Prop} (h : ∀ b, Q b s) : wpAny (model prog w) A (Builtin.List.listLengthHint (.ref r)) Q E s := by
  unfold Builtin.List.listLengthHint
  refine wpAny_bind (wpAny_specialOf hT zip_nolen ?_)
  show wpAny _ A (specialOf (Value.ref r) (Str.ofString "__length_hint__") >>= _) _ _ _
  exact wpAny_bind (wpAny_specialOf hT zip_nohint (wpAny_pure (h _)))
theorem z_extend {R : Result → Shared → Prop} {c₀ : Nat} (hh : A.handled = none) (D : c.Ap) (lo : c.Low S) (hn : min xs.size ys.size ≤ sizeLine) (st : ZSt c S xs ys 0 s.heap) (hz : IsZip s.heap c.z c.TI c.TO .none) (hS : IsL s.heap S #[] c₀)
    (hR : ∀ h' tk acc cc as, (∀ b o, b ≠ S → b ≠ c.z → b ≠ c.TO → b ≠ c.i1 → b ≠ c.i2 → s.heap.get? b = some o → h'.get? b = some o) → IsL h' S acc cc → as.length = min xs.size ys.size → ZG xs ys S h' as → acc.toList = as.map Value.ref → R (.ok (.ret .none)) { s with heap := h', toks := tk }) :
    wpAny (model prog w) A.in1 (Builtin.List.listExtendWith (.ref S) (.ref c.z) .none) (fun fin s' => match fin with | .done f => R (.ok f) s' | .again c' => c'.quiet = true ∧ codeAny (model prog w) A c' R s') (fun e s' => R (.error e) s') s := by
  have go : ∀ (h : Heap) (c₁ tk : Nat), (∀ b o, b ≠ S → s.heap.get? b = some o → h.get? b = some o) → IsL h S #[] c₁ → codeAny (model prog w) A (.builtin "list.extend.loop" ⟨[.ref S, .ref c.z, .none], []⟩) R { s with heap := h, toks := tk } := fun h c₁ tk hk hS₁ =>
    z_loop hh D lo hn .none hR _ 0 h tk c₁ #[] [] rfl (Nat.zero_le _) (st.keep lo hk) (fun b o b0 _ _ _ _ e => hk b o b0 e) hS₁ rfl rfl ⟨List.Pairwise.nil, (fun _ ha => nomatch ha), (fun j a hj => by simp at hj)⟩
  have hT : s.TypeIs (.ref c.z) "zip" := ⟨_, hz, rfl⟩
  have q1 : Builtin.List.listSameRef (.ref S) (.ref c.z) = false := by simp [Builtin.List.listSameRef, Nat.ne_of_gt lo.1]
  have q2 : (Value.type "zip" == Value.type "list") = false ∧ (Value.type "zip" == Value.type "tuple") = false := ⟨by decide, by decide⟩
  unfold Builtin.List.listExtendWith
  refine wpAny_bind (wpAny_typeOf (T := "zip") hT ?_)
  simp only [q1, q2.1, q2.2, Bool.or_false, Bool.false_eq_true, if_false]
  refine wpAny_bind (wpAny_pyIter_zip hz (wpAny_bind (wpAny_holding (z_hint hT fun b => ?_))))
  refine wpAny_ite_split (fun _ => wpAny_bind (wpAny_rule (wpAny_bind ?_))) (fun _ => wpAny_pure ⟨plainId_quiet PySem.F.plain_extend_loop _, go _ c₀ _ (fun b o _ e => e) hS⟩)
  show wpAny _ _ (updateSeq S (·.push .none) >>= fun _ => updateSeq S (·.pop)) _ _ s
  refine wpAny_bind (wpAny_updateSeq hS rfl ?_)
  have w2 := Heap.get?_update_self (Obj.mapSeq (·.push Value.none)) hS rfl
  refine wpAny_updateSeq (hz := by seq_fits) w2 rfl ?_
  have w3 := Heap.get?_update_self (Obj.mapSeq (·.pop)) w2 rfl
  exact wpAny_pure ⟨plainId_quiet PySem.F.plain_extend_loop _, go _ _ _ (fun b o hb e => (Heap.get?_update_other _ _ (Ne.symm hb)).trans ((Heap.get?_update_other _ _ (Ne.symm hb)).trans e)) w3⟩
theorem z_call {Q : Value → Shared → Prop} (hh : A.handled = none) (D : c.Ap) (lo : c.Low s.heap.objs.size) (hn : min xs.size ys.size ≤ sizeLine) (hTI : IsPair s.heap c.TI (.ref c.i1) (.ref c.i2)) {a b : Value} (hTO : IsPair s.heap c.TO a b) (h1 : s.heap.IsListIter c.i1 c.l1 0) (h2 : s.heap.IsListIter c.i2 c.l2 0) (hl1 : s.heap.IsList c.l1 xs) (hl2 : s.heap.IsList c.l2 ys) (hz : IsZip s.heap c.z c.TI c.TO .none)
    (hQ : ∀ h' tk acc cc as, (∀ b o, b ≠ c.z → b ≠ c.TO → b ≠ c.i1 → b ≠ c.i2 → s.heap.get? b = some o → h'.get? b = some o) → IsL h' s.heap.objs.size acc cc → as.length = min xs.size ys.size → ZG xs ys s.heap.objs.size h' as → acc.toList = as.map Value.ref → Q (.ref s.heap.objs.size) { s with heap := h', toks := tk }) :
    wpAny (model prog w) A (call (.type "list") [.ref c.z]) Q E s := by
  refine callType_codes (Q₁ := fun obj s₁ => obj = .ref s.heap.objs.size ∧ s₁ = { s with heap := s.heap.push { cls := .type "list", data := .seq #[] } }) PySem.F.called_list (PySem.F.typeCall_list_1 _) PySem.F.entry_list_init (code_list_new _ ⟨rfl, rfl⟩) fun obj s₁ e => ?_
  obtain ⟨rfl, rfl⟩ := e
  have up : ∀ {b : Addr} {o : Obj}, s.heap.get? b = some o → (s.heap.push { cls := .type "list", data := .seq #[] }).get? b = some o := fun e => Heap.get?_push_of_some _ e
  have hS : (s.heap.push { cls := .type "list", data := .seq #[] }).get? s.heap.objs.size = some { cls := .type "list", data := .seq #[] } := Heap.get?_push_size _ rfl
  refine ⟨⟨_, hS, rfl⟩, PySem.F.args_list_init_2 _ _, ?_⟩
  show wpAny _ _ (do let old ← Builtin.List.listItems (.ref s.heap.objs.size); Builtin.List.listUpdate (.ref s.heap.objs.size) (fun _ => #[]); letGo old.toList.reverse; Builtin.List.listExtendWith (.ref s.heap.objs.size) (.ref c.z) .none) _ _ _
  refine wpAny_bind ?_
  unfold Builtin.List.listItems
  refine wpAny_bind (wpAny_seqItems hS rfl (wpAny_pure ?_))
  show wpAny _ _ (updateSeq s.heap.objs.size (fun _ => #[]) >>= fun _ => letGo (#[] : Array Value).toList.reverse >>= fun _ => Builtin.List.listExtendWith (.ref s.heap.objs.size) (.ref c.z) .none) _ _ _
  refine wpAny_bind (wpAny_updateSeq hS rfl (wpAny_bind (wpAny_letGo ?_)))
  have w2 := Heap.get?_update_self (Obj.mapSeq (fun _ => (#[] : Array Value))) hS rfl
  have oth : ∀ b o, b ≠ s.heap.objs.size → (s.heap.push { cls := .type "list", data := .seq #[] }).get? b = some o → ((s.heap.push { cls := .type "list", data := .seq #[] }).update s.heap.objs.size (Obj.mapSeq (fun _ => (#[] : Array Value)))).get? b = some o := fun b o hb e => (Heap.get?_update_other _ _ (Ne.symm hb)).trans e
  have st0 : ZSt c s.heap.objs.size xs ys 0 (s.heap.push { cls := .type "list", data := .seq #[] }) := ⟨up hTI, h1.at (fun _ e => up e), h2.at (fun _ e => up e), hl1.at (fun _ e => up e), hl2.at (fun _ e => up e), .inl ⟨up hz, a, b, up hTO⟩⟩
  refine z_extend (A := A.in1) hh D lo hn (st0.keep lo oth) (oth _ _ (Nat.ne_of_lt lo.1) (up hz)) w2 fun h' tk acc cc as kp hL hl hG hacc => ?_
  exact ⟨rfl, hQ h' tk acc cc as (fun b o b1 b2 b3 b4 e => kp b o (Nat.ne_of_lt (Heap.lt_size e)) b1 b2 b3 b4 (oth b o (Nat.ne_of_lt (Heap.lt_size e)) (up e))) hL hl hG hacc⟩
end
/-- tuples laid at their places -/
def putZ : Hp → List Addr → List (V × V) → Hp
  | H, a :: as, q :: qs => putZ (upd H a (.tup [q.1, q.2])) as qs
  | H, _, _ => H
theorem putZ_off {b : Addr} : ∀ {as : List Addr} {qs : List (V × V)} {H : Hp}, b ∉ as → putZ H as qs b = H b
  | [], _, _, _ => rfl
  | _ :: _, [], _, _ => rfl
  | a :: as, q :: qs, H, h => by
    have h1 : b ≠ a := fun e => h (e ▸ List.mem_cons_self)
    have h2 : b ∉ as := fun e => h (List.mem_cons_of_mem _ e)
    unfold putZ
    rw [putZ_off h2, upd_ne h1]
theorem putZ_at : ∀ {as : List Addr} {qs : List (V × V)} {H : Hp}, as.length = qs.length → as.Nodup → Paired (fun (t : Addr) (q : V × V) => putZ H as qs t = some (.tup [q.1, q.2])) as qs
  | [], [], _, _, _ => .nil
  | [], _ :: _, _, h, _ => nomatch h
  | _ :: _, [], _, h, _ => nomatch h
  | a :: as, q :: qs, H, h, hn => by
    obtain ⟨n1, n2⟩ := List.nodup_cons.mp hn
    refine .cons ?_ (putZ_at (H := upd H a (.tup [q.1, q.2])) (Nat.succ.inj h) n2)
    show putZ (upd H a (.tup [q.1, q.2])) as qs a = _
    rw [putZ_off n1, upd_same]
theorem zip_laid {X : Cx} {pins : List (Addr × Obj)} {σ : L2.St} {H : Hp} {s : Shared} {h' : Heap} {tk : Nat} {xs ys : List V} {us ws : List Value} {acc : Array Value} {cc : Nat} {as : List Addr} {L : Addr} (I : Inv X pins σ H s) (hL : s.heap.objs.size ≤ L) (rx : Vals xs us) (ry : Vals ys ws) (hz : (xs.zip ys).length ≤ sizeLine)
    (hk : ∀ b o, s.heap.get? b = some o → h'.get? b = some o) (hS : IsL h' L acc cc) (hl : as.length = (xs.zip ys).length) (hG : ZG us.toArray ws.toArray L h' as) (hacc : acc.toList = as.map Value.ref) :
    ∃ H' : Hp, Ex H H' ∧ H L = none ∧ (∀ t ∈ as, H t = none) ∧ L ∉ as ∧ H' L = some (.lst (as.map V.ref)) ∧ Paired (fun (t : Addr) (q : V × V) => H' t = some (.tup [q.1, q.2])) as (xs.zip ys) ∧ Inv X pins σ H' { s with heap := h', toks := tk } := by
  have nS : L ∉ as := fun z => Nat.lt_irrefl _ (hG.behind _ z)
  have nd : as.Nodup := List.Pairwise.imp (fun {a b} (h : a < b) => Nat.ne_of_lt h) hG.up
  have nT : ∀ t ∈ as, H t = none := fun t ht => I.hok.fresh (Nat.le_trans hL (Nat.le_of_lt (hG.behind t ht)))
  have nL : H L = none := I.hok.fresh hL
  have tp := putZ_at (as := as) (qs := xs.zip ys) (H := upd H L (.lst (as.map V.ref))) hl nd
  have off : ∀ {b : Addr}, b ∉ as → b ≠ L → putZ (upd H L (.lst (as.map V.ref))) as (xs.zip ys) b = H b := fun h1 h2 => by rw [putZ_off h1, upd_ne h2]
  have low : ∀ {b : Addr} {o : Obj}, s.heap.get? b = some o → b ∉ as ∧ b ≠ L := fun {b o} e => ⟨fun z => absurd (Heap.lt_size e) (Nat.not_lt.mpr (Nat.le_trans hL (Nat.le_of_lt (hG.behind b z)))), fun z => absurd (Heap.lt_size e) (Nat.not_lt.mpr (z ▸ hL))⟩
  have kp : ∀ b u, H b = some u → putZ (upd H L (.lst (as.map V.ref))) as (xs.zip ys) b = some u := fun b u e => by
    have h1 : b ∉ as := fun z => by rw [nT b z] at e; cases e
    have h2 : b ≠ L := fun z => by rw [z, nL] at e; cases e
    rw [off h1 h2, e]
  have eL : putZ (upd H L (.lst (as.map V.ref))) as (xs.zip ys) L = some (.lst (as.map V.ref)) := by rw [putZ_off nS, upd_same]
  refine ⟨putZ (upd H L (.lst (as.map V.ref))) as (xs.zip ys), kp, nL, nT, nS, eL, tp, ?_⟩
  refine I.call' (ch := []) rfl ⟨fun b o q _ _ _ => hk b o q, fun b o q _ _ _ => ⟨o.slots, hk b o q⟩, fun b o q n _ => by rw [off (low q).1 (low q).2]; exact n, fun b o q _ => ⟨o, hk b o q⟩, fun b xs q => kp b _ q, fun b o u q => kp b _ q, fun b ps q => ⟨#[], by rw [kp b _ q]; simp⟩⟩ (fun b u q => ?_) I.bare fun b z => by simp at z
  by_cases hb : b ∈ as
  · obtain ⟨j, qq, e1, e2, e3⟩ := LiI.paired_ix tp hb
    rw [e3] at q
    cases q
    obtain ⟨x, y, f1, f2, f3⟩ := hG.tup j b e1
    obtain ⟨g1, g2⟩ := List.getElem?_zip_eq_some.mp e2
    obtain ⟨u1, k1, k2⟩ := LiI.paired_get rx g1
    obtain ⟨w1, k3, k4⟩ := LiI.paired_get ry g2
    rw [List.getElem?_toArray, k1] at f1
    rw [List.getElem?_toArray, k3] at f2
    cases f1
    cases f2
    exact ⟨by show 2 ≤ sizeLine; decide, [x, y], .cons k2 (.cons k4 .nil), ⟨_, f3, rfl, _, rfl⟩⟩
  · by_cases hb2 : b = L
    · rw [hb2] at q ⊢
      rw [eL] at q
      cases q
      exact ⟨by rw [List.length_map]; omega, acc.toList, cc, by rw [hacc]; exact LiI.vals_refs as, by rw [Array.toArray_toList]; exact hS⟩
    · rw [off hb hb2] at q
      exact (I.hok b u q).stay (fun d v _ y => hk d v y) (fun d y => kp d _ y) fun d xs y => kp d _ y
def tListZip (K : PySem.W.Frag) (ta : TA) : TE := fun σ H Q => ta σ H fun vs H1 => ∃ a b xs ys, vs = [.ref a, .ref b] ∧ SqL K H1 a xs ∧ SqL K H1 b ys ∧
  ∀ (H' : Hp) (p : Addr) (ts : List Addr), Ex H1 H' → H1 p = none → (∀ t ∈ ts, H1 t = none) → p ∉ ts → H' p = some (.lst (ts.map V.ref)) → Paired (fun (t : Addr) (q : V × V) => H' t = some (.tup [q.1, q.2])) ts (xs.zip ys) → Q (.ref p) H'
theorem pe_listZip {X : Cx} (K : PySem.W.Frag) {e e2 : Expr} {ta : TA} {p p2 q pos : Pos} (hc : X.calm = true) (hg : Gl X "list") (hm : X.mg "list" = none) (hg2 : Gl X "zip") (hm2 : X.mg "zip" = none) (ha : PA X [e, e2] ta) (hK : X.K = K := by rfl)
    (hs : starEach [e, e2] X.env = (false, eval e X.env) :: starEach [e2] X.env := by rfl) (hpl : (backTo q (starEach [e2] X.env)).any (·.1) = false := by rfl) : PE X (.Call (.Name "list" p) [.Call (.Name "zip" p2) [e, e2] [] q] [] pos) (tListZip K ta) := by
  subst hK
  refine ⟨fun pins s σ H Q I h => ?_⟩
  refine Call_ (ld_blt I hg hm boot_list (PyProof.Rows.callWith_type1 (PyProof.Rows.args_cons ?_ rfl) rfl rfl))
  refine Call_ (ld_blt I hg2 hm2 PyProof.Rows.boot_zip (PyProof.Rows.callWith_type1 (thn (ha.run q pins s σ H _ I h) fun us s1 ⟨vs, H1, I1, r1, q1⟩ => ?_) hs hpl))
  obtain ⟨a, b, xs, ys, rfl, hx, hy, q1⟩ := q1
  obtain ⟨u, w, rfl, ru, rw'⟩ : ∃ u w, us = [u, w] ∧ RelV (.ref a) u ∧ RelV (.ref b) w := by
    cases r1 with
    | cons r rr => cases rr with
      | cons r' rr => cases rr; exact ⟨_, _, rfl, r, r'⟩
  cases ru
  cases rw'
  obtain ⟨us, rv, p1, z1⟩ := I1.list hx
  obtain ⟨ws, rv2, p3, z2⟩ := I1.list hy
  have la : a < s1.heap.objs.size := p1.lt
  have lb : b < s1.heap.objs.size := p3.lt
  have hlz : (xs.zip ys).length = min us.toArray.size ws.toArray.size := by rw [List.length_zip, List.size_toArray, List.size_toArray, rv.length, rv2.length]
  have hzz : (xs.zip ys).length ≤ sizeLine := by rw [List.length_zip]; omega
  refine call_zip_2 p1.isList p3.isList fun h' hz hTI hTO h1 h2 hsz hk => PyProof.Rows.args_nil ?_
  refine z_call (s := { s1 with heap := h' }) (c := ⟨s1.heap.objs.size + 4, s1.heap.objs.size + 2, s1.heap.objs.size + 3, s1.heap.objs.size, s1.heap.objs.size + 1, a, b⟩) (xs := us.toArray) (ys := ws.toArray) (I1.ok.hd hc) (PySem.W.ktu_apart s1.heap.objs.size a b la lb) ?_ (by rw [← hlz]; exact hzz) hTI hTO h1 h2 (p1.isList.at fun o e => hk _ o e) (p3.isList.at fun o e => hk _ o e) hz fun h2' tk acc cc as kp hL hl hG hacc => ?_
  · show _ ∧ _
    dsimp only
    rw [hsz]
    exact ⟨Nat.lt_succ_self _, Nat.add_lt_add_left (by decide) _, Nat.add_lt_add_left (by decide) _, Nat.lt_add_of_pos_right (by decide), Nat.add_lt_add_left (by decide) _, Nat.lt_of_lt_of_le la (Nat.le_add_right _ _), Nat.lt_of_lt_of_le lb (Nat.le_add_right _ _)⟩
  · dsimp only at kp hL hG ⊢
    have far : ∀ {b : Addr} {o : Obj}, s1.heap.get? b = some o → ∀ n : Nat, b ≠ s1.heap.objs.size + n := fun e n => Nat.ne_of_lt (Nat.lt_of_lt_of_le (Heap.lt_size e) (Nat.le_add_right _ n))
    obtain ⟨H', k1, k2, k3, k4, k5, k6, J⟩ := zip_laid (tk := tk) I1 (by rw [hsz]; omega) rv rv2 hzz (fun b o e => kp b o (far e 4) (far e 3) (far e 0) (far e 1) (hk b o e)) hL (by rw [hl, hlz]) hG hacc
    exact ⟨.ref _, H', J, rfl, q1 H' _ as k1 k2 k3 k4 k5 k6⟩
abbrev pZip (xs ys : List V) : Hp → V → Prop := fun N v => ∃ p ts, v = .ref p ∧ N p = some (.lst (ts.map V.ref)) ∧ Paired (fun (t : Addr) (q : V × V) => N t = some (.tup [q.1, q.2])) ts (xs.zip ys)
theorem paired_memL {α β : Type} {R : α → β → Prop} : ∀ {xs : List α} {ys : List β}, Paired R xs ys → Paired (fun x y => x ∈ xs ∧ R x y) xs ys
  | _, _, .nil => .nil
  | _, _, .cons a r => .cons ⟨List.mem_cons_self, a⟩ (paired_imp (fun _ _ h => ⟨List.mem_cons_of_mem _ h.1, h.2⟩) (paired_memL r))
section
variable {K : PySem.W.Frag} {σ : L2.St} {H : Hp} {ta tb te ti : TE} {tr : TA} {a b : Addr} {xs ys : List V} {Ns : List Hp} {D : Ends} {tz : TS}
theorem ep_listZip (h : EvA tr σ H [.ref a, .ref b]) (hx : SqL K H a xs) (hy : SqL K H b ys) : EvP (tListZip K tr) σ H (pZip xs ys) := fun H1 e Q q =>
  h H1 e _ fun H2 e2 => ⟨a, b, xs, ys, rfl, ex_l (e.trans e2) hx, ex_l (e.trans e2) hy, fun H' p ts e3 hp hts hn h1 h2 =>
    q (.ref p) H' (fun x => if x = p ∨ x ∈ ts then H' x else none) (e2.trans e3) (fun x o hx => by
      dsimp only at hx
      split at hx
      · exact hx
      · cases hx) (fun x hx => by
      dsimp only at hx
      split at hx
      · rename_i z
        rcases z with z | z
        · rw [z]; exact fresh_back e2 hp
        · exact fresh_back e2 (hts x z)
      · exact absurd rfl hx) ⟨p, ts, rfl, by dsimp only; rw [if_pos (.inl rfl)]; exact h1, paired_imp (fun t q ⟨h3, h4⟩ => by dsimp only; rw [if_pos (.inr h3)]; exact h4) (paired_memL h2)⟩⟩
theorem el_lrg1 {m : Nat} (h : Ev te σ H (.int (m : Nat))) (hm : m ≤ 100000) : EvL (tLstRg (tRg1 te)) σ H (rngV m) := fun H1 e Q q =>
  h H1 e _ fun H2 e2 => ⟨(m : Nat), rfl, RgOk.of_le (by decide) (by omega) (by decide) (by omega), fun p hp => by
    have e0 : rgV 0 ((m : Nat) : Int) = rngV m := by
      unfold rgV rngV
      rw [show (((m : Nat) : Int) - 0).toNat = m by omega]
      exact List.map_congr_left fun i _ => by rw [Int.zero_add]
    rw [e0]
    exact q p _ (fresh_back e2 hp) (e2.trans (Ex.new hp)) upd_same⟩
/-- sorted(ints) -/
abbrev pSrt (ns : List Int) : Hp → V → Prop := fun N v => ∃ (p : Addr) (l : List Int), v = .ref p ∧ N p = some (.lst (l.map V.int)) ∧ l.Perm ns ∧ l.Pairwise (· ≤ ·)
theorem ep_sorted {ns : List Int} (h : Ev te σ H (.ref a)) (hx : SqL K H a (ns.map V.int)) : EvP (tCB (rSortedI K) (tCons te tNil)) σ H (pSrt ns) := fun H1 e Q q =>
  h H1 e _ fun H2 e2 => ⟨a, ns, rfl, ex_l (e.trans e2) hx, fun l p h1 h2 hp => q (.ref p) _ (sing p (.lst (l.map V.int))) (e2.trans (Ex.new hp)) (sing_ex upd_same) (sing_fr (fresh_back e2 hp)) ⟨p, l, rfl, sing_at, h1, h2⟩⟩
/-- xs.append(ys.pop(i)) -/
theorem s_appPop {l m : Addr} {j k : Nat} {n : Nat} {y : V} (o : Own Ns H) (hj : Ns[j]? = some (sing l (.lst xs))) (hk : Ns[k]? = some (sing m (.lst ys))) (hjk : j ≠ k) (ha : Ev ta σ H (.ref l)) (hb : Ev tb σ H (.ref m)) (hi : Ev ti σ H (.int (n : Nat))) (hn : n < ys.length) (hy : ys[n]? = some y) (hz : xs.length < 100000) (hz2 : ys.length < 100000)
    (k0 : ∀ H1, Own ((Ns.set k (sing m (.lst (ys.eraseIdx n)))).set j (sing l (.lst (xs ++ [y])))) H1 → D.nx σ H1) : tDrop (tBM K "list" rAppend ta (tCons (tBM K "list" rPopAt tb (tCons ti tNil)) tNil)) D σ H := ha H (Ex.refl H) _ fun H1 e1 =>
  ⟨Or.inl ⟨rfl, xs, sq_of (e1 l _ (o.at hj))⟩, hb H1 e1 _ fun H2 e2 => ⟨Or.inl ⟨rfl, ys, sq_of (e2 _ _ (e1 _ _ (o.at hk)))⟩, hi H2 (e1.trans e2) _ fun H3 e3 => by
    have o3 : Own Ns H3 := ((o.mono e1).mono e2).mono e3
    have o4 : Own (Ns.set k (sing m (.lst (ys.eraseIdx n)))) (upd H3 m (.lst (ys.eraseIdx n))) := o3.set hk
    have hj4 : (Ns.set k (sing m (.lst (ys.eraseIdx n))))[j]? = some (sing l (.lst xs)) := by rw [List.getElem?_set_ne (Ne.symm hjk)]; exact hj
    refine ⟨m, ys, (n : Nat), n, y, rfl, rfl, o3.at hk, by omega, by omega, ?_, hy, l, xs, y, rfl, rfl, o4.at hj4, sz_lt hz, k0 _ (o4.set hj4)⟩
    unfold seqIndex?
    simp
    rw [if_neg (show ¬ ((n : Nat) : Int) < 0 by omega)]
    omega⟩⟩
theorem q_appPop {l m : Addr} {j k : Nat} {n : Nat} {y : V} (o : Own Ns H) (hj : Ns[j]? = some (sing l (.lst xs))) (hk : Ns[k]? = some (sing m (.lst ys))) (hjk : j ≠ k) (ha : Ev ta σ H (.ref l)) (hb : Ev tb σ H (.ref m)) (hi : Ev ti σ H (.int (n : Nat))) (hn : n < ys.length) (hy : ys[n]? = some y) (hz : xs.length < 100000) (hz2 : ys.length < 100000)
    (k0 : ∀ H1, Own ((Ns.set k (sing m (.lst (ys.eraseIdx n)))).set j (sing l (.lst (xs ++ [y])))) H1 → tz D σ H1) : tSeq (tDrop (tBM K "list" rAppend ta (tCons (tBM K "list" rPopAt tb (tCons ti tNil)) tNil))) tz D σ H := s_appPop (D := { D with nx := tz D }) o hj hk hjk ha hb hi hn hy hz hz2 k0
/-- xs.remove(k) -/
theorem s_remove {l : Addr} {j n : Nat} {ns : List Int} {k : Int} (o : Own Ns H) (hj : Ns[j]? = some (sing l (.lst (ns.map V.int)))) (ha : Ev ta σ H (.ref l)) (hi : Ev ti σ H (.int k)) (hn : ns[n]? = some k) (hf : ∀ m, m < n → ns[m]? ≠ some k) (k0 : ∀ H1, Own (Ns.set j (sing l (.lst ((ns.eraseIdx n).map V.int)))) H1 → D.nx σ H1) : tDrop (tBM K "list" rRemI ta (tCons ti tNil)) D σ H := ha H (Ex.refl H) _ fun H1 e1 =>
  ⟨Or.inl ⟨rfl, _, sq_of (e1 l _ (o.at hj))⟩, hi H1 e1 _ fun H2 e2 => by
    have o2 : Own Ns H2 := (o.mono e1).mono e2
    exact ⟨l, ns, k, n, rfl, rfl, o2.at hj, hn, hf, k0 _ (o2.set hj)⟩⟩
end
end Kj

/-! Kj12: values told by kinds: what a value stands for in a heap; expressions, loops and comprehensions over such kinds. -/
namespace Kj
open PySem PySem.Spec PyProof.Rows L2 Evl
/-! ### kinds -/
structure Tp (α : Type) where
  R : Hp → V → α → Prop
  up : ∀ {H H' v x}, Ex H H' → R H v x → R H' v x
theorem up {α : Type} {T : Tp α} {H H' : Hp} {v : V} {x : α} (e : Ex H H') (h : T.R H v x) : T.R H' v x := T.up e h
theorem paired_up {α : Type} {T : Tp α} {H H' : Hp} {xs : List V} {l : List α} (e : Ex H H') (h : Paired (T.R H) xs l) : Paired (T.R H') xs l := paired_imp (fun _ _ z => T.up e z) h
def tI : Tp Int := ⟨fun _ v x => v = .int x, fun _ h => h⟩
def tB : Tp Bool := ⟨fun _ v x => v = .bl x, fun _ h => h⟩
def tS : Tp Str := ⟨fun _ v x => v = .str x ∧ PyData.strOk x = true, fun _ h => h⟩
/-- a short text of plain signs -/
def tX : Tp Str := ⟨fun _ v x => v = .str x ∧ TxtOk x, fun _ h => h⟩
def tN : Tp Unit := ⟨fun _ v _ => v = .non, fun _ h => h⟩
def tO {α : Type} (T : Tp α) : Tp (Option α) := ⟨fun H v x => match x with | none => v = .non | some y => T.R H v y ∧ v ≠ .non, fun {H H' v x} e h => by
  cases x with
  | none => exact h
  | some y => exact ⟨T.up e h.1, h.2⟩⟩
/-- a list, perhaps one that must not be changed | one of the heap's own -/
def tL (K : PySem.W.Frag) {α : Type} (T : Tp α) : Tp (List α) := ⟨fun H v l => ∃ p xs, v = .ref p ∧ SqL K H p xs ∧ Paired (T.R H) xs l ∧ l.length ≤ 40000, fun e ⟨p, xs, h1, h2, h3, h4⟩ => ⟨p, xs, h1, ex_l e h2, paired_up e h3, h4⟩⟩
def tW {α : Type} (T : Tp α) : Tp (List α) := ⟨fun H v l => ∃ p xs, v = .ref p ∧ H p = some (.lst xs) ∧ Paired (T.R H) xs l ∧ l.length ≤ 40000, fun e ⟨p, xs, h1, h2, h3, h4⟩ => ⟨p, xs, h1, e _ _ h2, paired_up e h3, h4⟩⟩
def tP (K : PySem.W.Frag) {α β : Type} (T : Tp α) (S : Tp β) : Tp (α × β) := ⟨fun H v x => ∃ p a b, v = .ref p ∧ SqT K H p [a, b] ∧ T.R H a x.1 ∧ S.R H b x.2, fun e ⟨p, a, b, h1, h2, h3, h4⟩ => ⟨p, a, b, h1, ex_t e h2, T.up e h3, S.up e h4⟩⟩
structure T3 (α β γ : Type) where
  a : α
  b : β
  c : γ
deriving DecidableEq, Inhabited
structure T4 (α β γ δ : Type) where
  a : α
  b : β
  c : γ
  d : δ
deriving DecidableEq, Inhabited
def tT3 (K : PySem.W.Frag) {α β γ : Type} (T : Tp α) (S : Tp β) (U : Tp γ) : Tp (T3 α β γ) := ⟨fun H v x => ∃ p a b c, v = .ref p ∧ SqT K H p [a, b, c] ∧ T.R H a x.a ∧ S.R H b x.b ∧ U.R H c x.c, fun e ⟨p, a, b, c, h1, h2, h3, h4, h5⟩ => ⟨p, a, b, c, h1, ex_t e h2, T.up e h3, S.up e h4, U.up e h5⟩⟩
def tT4 (K : PySem.W.Frag) {α β γ δ : Type} (T : Tp α) (S : Tp β) (U : Tp γ) (W : Tp δ) : Tp (T4 α β γ δ) := ⟨fun H v x => ∃ p a b c d, v = .ref p ∧ SqT K H p [a, b, c, d] ∧ T.R H a x.a ∧ S.R H b x.b ∧ U.R H c x.c ∧ W.R H d x.d, fun e ⟨p, a, b, c, d, h1, h2, h3, h4, h5, h6⟩ => ⟨p, a, b, c, d, h1, ex_t e h2, T.up e h3, S.up e h4, U.up e h5, W.up e h6⟩⟩
/-- a kind that does not look at the heap -/
class Flt {α : Type} (T : Tp α) : Prop where
  any : ∀ {H H' v x}, T.R H v x → T.R H' v x

instance : Flt tI := ⟨fun h => h⟩
instance : Flt tB := ⟨fun h => h⟩
instance : Flt tS := ⟨fun h => h⟩
instance : Flt tX := ⟨fun h => h⟩
instance : Flt tN := ⟨fun h => h⟩
instance {α : Type} {T : Tp α} [F : Flt T] : Flt (tO T) := ⟨fun {H H' v x} h => by
  cases x with
  | none => exact h
  | some y => exact ⟨F.any h.1, h.2⟩⟩
theorem paired_any {α : Type} {T : Tp α} [F : Flt T] {H H' : Hp} {xs : List V} {l : List α} (h : Paired (T.R H) xs l) : Paired (T.R H') xs l := paired_imp (fun _ _ z => F.any z) h
/-- one kind is another one, too -/
class Sub {α : Type} (T S : Tp α) : Prop where
  to : ∀ {H v x}, T.R H v x → S.R H v x
instance (priority := low) {α : Type} {T : Tp α} : Sub T T := ⟨fun h => h⟩
instance {K : PySem.W.Frag} {α : Type} {T S : Tp α} [Z : Sub T S] : Sub (tW T) (tL K S) := ⟨fun ⟨p, xs, h1, h2, h3, h4⟩ => ⟨p, xs, h1, sq_of h2, paired_imp (fun _ _ z => Z.to z) h3, h4⟩⟩
instance {K : PySem.W.Frag} {α : Type} {T S : Tp α} [Z : Sub T S] : Sub (tL K T) (tL K S) := ⟨fun ⟨p, xs, h1, h2, h3, h4⟩ => ⟨p, xs, h1, h2, paired_imp (fun _ _ z => Z.to z) h3, h4⟩⟩
instance {α : Type} {T S : Tp α} [Z : Sub T S] : Sub (tW T) (tW S) := ⟨fun ⟨p, xs, h1, h2, h3, h4⟩ => ⟨p, xs, h1, h2, paired_imp (fun _ _ z => Z.to z) h3, h4⟩⟩
instance {K : PySem.W.Frag} {α β : Type} {T T' : Tp α} {S S' : Tp β} [Z : Sub T T'] [Y : Sub S S'] : Sub (tP K T S) (tP K T' S') := ⟨fun ⟨p, a, b, h1, h2, h3, h4⟩ => ⟨p, a, b, h1, h2, Z.to h3, Y.to h4⟩⟩
instance {α : Type} {T S : Tp α} [Z : Sub T S] : Sub (tO T) (tO S) := ⟨fun {H v x} h => by
  cases x with
  | none => exact h
  | some y => exact ⟨Z.to h.1, h.2⟩⟩
instance : Sub tX tS := ⟨fun h => ⟨h.1, strOk_of h.2⟩⟩
theorem to {α : Type} {T S : Tp α} [Z : Sub T S] {H : Hp} {v : V} {x : α} (h : T.R H v x) : S.R H v x := Z.to h
/-- never None -/
class NN {α : Type} (T : Tp α) : Prop where
  nn : ∀ {H v x}, T.R H v x → v ≠ .non
instance : NN tI := ⟨fun h z => by cases h; cases z⟩
instance : NN tB := ⟨fun h z => by cases h; cases z⟩
instance : NN tS := ⟨fun h z => by cases h.1; cases z⟩
instance : NN tX := ⟨fun h z => by cases h.1; cases z⟩
instance {K : PySem.W.Frag} {α : Type} {T : Tp α} : NN (tL K T) := ⟨fun ⟨_, _, h, _⟩ z => by cases h; cases z⟩
instance {α : Type} {T : Tp α} : NN (tW T) := ⟨fun ⟨_, _, h, _⟩ z => by cases h; cases z⟩
instance {K : PySem.W.Frag} {α β : Type} {T : Tp α} {S : Tp β} : NN (tP K T S) := ⟨fun ⟨_, _, _, h, _⟩ z => by cases h; cases z⟩
instance {K : PySem.W.Frag} {α β γ : Type} {T : Tp α} {S : Tp β} {U : Tp γ} : NN (tT3 K T S U) := ⟨fun ⟨_, _, _, _, h, _⟩ z => by cases h; cases z⟩
instance {K : PySem.W.Frag} {α β γ δ : Type} {T : Tp α} {S : Tp β} {U : Tp γ} {W : Tp δ} : NN (tT4 K T S U W) := ⟨fun ⟨_, _, _, _, _, h, _⟩ z => by cases h; cases z⟩
theorem opt_nn {α : Type} {x : Option α} (h : x.isNone = false) : x.isSome = true := by cases x with | none => cases h | some y => rfl
theorem opt_get {α : Type} [Inhabited α] {T : Tp α} {H : Hp} {v : V} {x : Option α} (h : x.isSome = true) (f : (tO T).R H v x) : T.R H v (x.getD default) := by
  cases x with
  | none => cases h
  | some y => exact f.1
/-- plain data -/
class Pla (K : PySem.W.Frag) {α : Type} (T : Tp α) where
  enc : α → PyData
  dp : ∀ {H v x}, T.R H v x → Dp K H v (enc x)
  lay : ∀ {H v x}, T.R H v x → (enc x).canLay0 = true
  sm : ∀ {H v x}, T.R H v x → smD (enc x)
  dep : Nat
  depth : ∀ x, (enc x).depth ≤ dep
  inj : ∀ {H v x w y}, T.R H v x → T.R H w y → (PyData.eqv (enc x) (enc y) = true ↔ x = y)
section
variable {K : PySem.W.Frag}
instance : Pla K tI := ⟨.int, fun h => by cases h; exact .int _, fun _ => by simp [PyData.canLay0], fun _ => by simp [smD], 0, fun x => by simp [PyData.depth], fun _ _ => by simp [PyData.eqv]⟩
instance : Pla K tB := ⟨.bool, fun h => by cases h; exact .bl _, fun _ => by simp [PyData.canLay0], fun _ => by simp [smD], 0, fun x => by simp [PyData.depth], fun _ _ => by simp [PyData.eqv]⟩
instance : Pla K tS := ⟨.str, fun h => by cases h.1; exact .str _, fun h => by simp [PyData.canLay0, h.2], fun _ => by simp [smD], 0, fun x => by simp [PyData.depth], fun _ _ => by simp [PyData.eqv]⟩
instance : Pla K tX := ⟨.str, fun h => by cases h.1; exact .str _, fun h => by simp [PyData.canLay0, strOk_of h.2], fun _ => by simp [smD], 0, fun x => by simp [PyData.depth], fun _ _ => by simp [PyData.eqv]⟩
instance : Pla K tN := ⟨fun _ => .none, fun h => by cases h; exact .non, fun _ => by simp [PyData.canLay0], fun _ => by simp [smD], 0, fun x => by simp [PyData.depth], fun _ _ => by simp [PyData.eqv]⟩
theorem dpa_of {α : Type} {T : Tp α} [Q : Pla K T] {H : Hp} : ∀ {xs : List V} {l : List α}, Paired (T.R H) xs l → DpAll K H xs (l.map Q.enc)
  | _, _, .nil => .nil
  | _, _, .cons h r => .cons (Q.dp h) (dpa_of r)
theorem laya_of {α : Type} {T : Tp α} [Q : Pla K T] {H : Hp} : ∀ {xs : List V} {l : List α}, Paired (T.R H) xs l → PyData.canLayAll0 (l.map Q.enc) = true
  | _, _, .nil => by simp [PyData.canLayAll0]
  | _, _, .cons h r => by simp [PyData.canLayAll0, Q.lay h, laya_of r]
theorem sma_of {α : Type} {T : Tp α} [Q : Pla K T] {H : Hp} : ∀ {xs : List V} {l : List α}, Paired (T.R H) xs l → ∀ d ∈ l.map Q.enc, smD d
  | _, _, .nil => fun _ h => nomatch h
  | _, _, .cons h r => fun d hd => by
    rcases List.mem_cons.mp hd with z | z
    · subst z; exact Q.sm h
    · exact sma_of r d z
theorem eqva_of {α : Type} {T : Tp α} [Q : Pla K T] {H G : Hp} : ∀ {xs ys : List V} {l m : List α}, Paired (T.R H) xs l → Paired (T.R H) ys m → (PyData.eqvAll (l.map Q.enc) (m.map Q.enc) = true ↔ l = m)
  | _, _, _, _, .nil, .nil => by simp [PyData.eqvAll]
  | _, _, _, _, .nil, .cons _ _ => by simp [PyData.eqvAll]
  | _, _, _, _, .cons _ _, .nil => by simp [PyData.eqvAll]
  | _, _, _, _, .cons h r, .cons h2 r2 => by
    simp only [List.map_cons, PyData.eqvAll, Bool.and_eq_true, eqva_of (G := G) r r2, Q.inj h h2, List.cons.injEq]
theorem eqv_lst (a b : List PyData) : PyData.eqv (.list a) (.list b) = PyData.eqvAll a b := by simp [PyData.eqv]
theorem eqv_tup (a b : List PyData) : PyData.eqv (.tuple a) (.tuple b) = PyData.eqvAll a b := by simp [PyData.eqv]
instance {α : Type} {T : Tp α} [Q : Pla K T] : Pla K (tL K T) := ⟨fun l => .list (l.map Q.enc), fun ⟨p, xs, h1, h2, h3, _⟩ => by subst h1; exact .lst h2 (dpa_of h3), fun ⟨p, xs, h1, h2, h3, _⟩ => by simp only [PyData.canLay0, laya_of h3], fun ⟨p, xs, h1, h2, h3, h4⟩ => smD_list.mpr ⟨by rw [List.length_map]; exact h4, sma_of h3⟩, Q.dep + 1, fun l => by
  have := depAll (n := Q.dep) (ds := l.map Q.enc) fun d hd => by
    obtain ⟨x, _, rfl⟩ := List.mem_map.mp hd
    exact Q.depth x
  simp only [PyData.depth]
  omega, fun {H v x w y} ⟨p, xs, _, _, h3, _⟩ ⟨q, ys, _, _, g3, _⟩ => by rw [eqv_lst, eqva_of (G := H) h3 g3]⟩
instance {α : Type} {T : Tp α} [Q : Pla K T] : Pla K (tW T) := ⟨fun l => .list (l.map Q.enc), fun ⟨p, xs, h1, h2, h3, _⟩ => by subst h1; exact .lst (sq_of h2) (dpa_of h3), fun ⟨p, xs, h1, h2, h3, _⟩ => by simp only [PyData.canLay0, laya_of h3], fun ⟨p, xs, h1, h2, h3, h4⟩ => smD_list.mpr ⟨by rw [List.length_map]; exact h4, sma_of h3⟩, Q.dep + 1, fun l => by
  have := depAll (n := Q.dep) (ds := l.map Q.enc) fun d hd => by
    obtain ⟨x, _, rfl⟩ := List.mem_map.mp hd
    exact Q.depth x
  simp only [PyData.depth]
  omega, fun {H v x w y} ⟨p, xs, _, _, h3, _⟩ ⟨q, ys, _, _, g3, _⟩ => by rw [eqv_lst, eqva_of (G := H) h3 g3]⟩
instance {α β : Type} {T : Tp α} {S : Tp β} [Q : Pla K T] [Y : Pla K S] : Pla K (tP K T S) := ⟨fun x => .tuple [Q.enc x.1, Y.enc x.2], fun ⟨p, a, b, h1, h2, h3, h4⟩ => by subst h1; exact .tup h2 (.cons (Q.dp h3) (.cons (Y.dp h4) .nil)), fun ⟨p, a, b, h1, h2, h3, h4⟩ => by simp [PyData.canLay0, PyData.canLayAll0, Q.lay h3, Y.lay h4], fun ⟨p, a, b, h1, h2, h3, h4⟩ => by simp [smD, smA, Q.sm h3, Y.sm h4], max Q.dep Y.dep + 1, fun x => by
  have h1 := Q.depth x.1
  have h2 := Y.depth x.2
  simp only [PyData.depth, PyData.depthAll]
  omega, fun {H v x w y} ⟨p, a, b, _, _, h3, h4⟩ ⟨q, c, d, _, _, g3, g4⟩ => by
  obtain ⟨x1, x2⟩ := x
  obtain ⟨y1, y2⟩ := y
  simp only [eqv_tup, PyData.eqvAll, Bool.and_eq_true, Q.inj h3 g3, Y.inj h4 g4, Prod.mk.injEq, and_true]⟩
instance {α β γ : Type} {T : Tp α} {S : Tp β} {U : Tp γ} [Q : Pla K T] [Y : Pla K S] [Z : Pla K U] : Pla K (tT3 K T S U) := ⟨fun x => .tuple [Q.enc x.a, Y.enc x.b, Z.enc x.c], fun ⟨p, a, b, c, h1, h2, h3, h4, h5⟩ => by subst h1; exact .tup h2 (.cons (Q.dp h3) (.cons (Y.dp h4) (.cons (Z.dp h5) .nil))), fun ⟨p, a, b, c, h1, h2, h3, h4, h5⟩ => by simp [PyData.canLay0, PyData.canLayAll0, Q.lay h3, Y.lay h4, Z.lay h5], fun ⟨p, a, b, c, h1, h2, h3, h4, h5⟩ => by simp [smD, smA, Q.sm h3, Y.sm h4, Z.sm h5], max Q.dep (max Y.dep Z.dep) + 1, fun x => by
  have h1 := Q.depth x.a
  have h2 := Y.depth x.b
  have h3 := Z.depth x.c
  simp only [PyData.depth, PyData.depthAll]
  omega, fun {H v x w y} ⟨p, a, b, c, _, _, h3, h4, h5⟩ ⟨q, a', b', c', _, _, g3, g4, g5⟩ => by
  obtain ⟨x1, x2, x3⟩ := x
  obtain ⟨y1, y2, y3⟩ := y
  simp only [eqv_tup, PyData.eqvAll, Bool.and_eq_true, Q.inj h3 g3, Y.inj h4 g4, Z.inj h5 g5, T3.mk.injEq, and_true]⟩
instance {α β γ δ : Type} {T : Tp α} {S : Tp β} {U : Tp γ} {W : Tp δ} [Q : Pla K T] [Y : Pla K S] [Z : Pla K U] [O : Pla K W] : Pla K (tT4 K T S U W) := ⟨fun x => .tuple [Q.enc x.a, Y.enc x.b, Z.enc x.c, O.enc x.d], fun ⟨p, a, b, c, d, h1, h2, h3, h4, h5, h6⟩ => by subst h1; exact .tup h2 (.cons (Q.dp h3) (.cons (Y.dp h4) (.cons (Z.dp h5) (.cons (O.dp h6) .nil)))), fun ⟨p, a, b, c, d, h1, h2, h3, h4, h5, h6⟩ => by simp [PyData.canLay0, PyData.canLayAll0, Q.lay h3, Y.lay h4, Z.lay h5, O.lay h6], fun ⟨p, a, b, c, d, h1, h2, h3, h4, h5, h6⟩ => by simp [smD, smA, Q.sm h3, Y.sm h4, Z.sm h5, O.sm h6], max Q.dep (max Y.dep (max Z.dep O.dep)) + 1, fun x => by
  have h1 := Q.depth x.a
  have h2 := Y.depth x.b
  have h3 := Z.depth x.c
  have h4 := O.depth x.d
  simp only [PyData.depth, PyData.depthAll]
  omega, fun {H v x w y} ⟨p, a, b, c, d, _, _, h3, h4, h5, h6⟩ ⟨q, a', b', c', d', _, _, g3, g4, g5, g6⟩ => by
  obtain ⟨x1, x2, x3, x4⟩ := x
  obtain ⟨y1, y2, y3, y4⟩ := y
  simp only [eqv_tup, PyData.eqvAll, Bool.and_eq_true, Q.inj h3 g3, Y.inj h4 g4, Z.inj h5 g5, O.inj h6 g6, T4.mk.injEq, and_true]⟩
theorem dp_non {H : Hp} {d : PyData} (h : Dp K H .non d) : d = .none := by cases h; rfl
theorem eqv_none {d : PyData} (h : PyData.eqv .none d = true) : d = .none := by cases d <;> simp [PyData.eqv] at h ⊢
theorem eqv_none2 {d : PyData} (h : PyData.eqv d .none = true) : d = .none := by cases d <;> simp [PyData.eqv] at h ⊢
theorem dp_is_non {H : Hp} {v : V} (h : Dp K H v .none) : v = .non := by cases h; rfl
instance {α : Type} {T : Tp α} [Q : Pla K T] : Pla K (tO T) := ⟨fun x => match x with | none => .none | some y => Q.enc y, fun {H v x} h => by
  cases x with
  | none => cases h; exact .non
  | some y => exact Q.dp h.1, fun {H v x} h => by
  cases x with
  | none => simp [PyData.canLay0]
  | some y => exact Q.lay h.1, fun {H v x} h => by
  cases x with
  | none => simp [smD]
  | some y => exact Q.sm h.1, Q.dep, fun x => by
  cases x with
  | none => simp [PyData.depth]
  | some y => exact Q.depth y, fun {H v x w y} h g => by
  cases x with
  | none =>
    cases y with
    | none => simp [PyData.eqv]
    | some y =>
      refine ⟨fun z => ?_, fun z => nomatch z⟩
      have e : Q.enc y = .none := eqv_none z
      have := Q.dp g.1
      rw [e] at this
      exact absurd (dp_is_non this) g.2
  | some x =>
    cases y with
    | none =>
      refine ⟨fun z => ?_, fun z => nomatch z⟩
      have e : Q.enc x = .none := eqv_none2 z
      have := Q.dp h.1
      rw [e] at this
      exact absurd (dp_is_non this) h.2
    | some y => rw [Option.some.injEq]; exact Q.inj h.1 g.1⟩
end
/-! ### what an expression is worth, told in B and the new part -/
def EvB (te : TE) (σ : L2.St) (H B : Hp) (P : Hp → V → Prop) : Prop := ∀ H1, Ex H H1 → ∀ Q : VK, (∀ v H2 N, Ex H1 H2 → Ex N H2 → Fr H1 N → P (uni B N) v → Q v H2) → te σ H1 Q
/-- an argument: its kind and what it stands for -/
structure Arg where
  {α : Type}
  T : Tp α
  x : α
def ArgsR (G : Hp) : List V → List Arg → Prop
  | [], [] => True
  | v :: vs, a :: as => a.T.R G v a.x ∧ ArgsR G vs as
  | _, _ => False
theorem ArgsR.up {G G' : Hp} (e : Ex G G') : ∀ {vs : List V} {as : List Arg}, ArgsR G vs as → ArgsR G' vs as
  | [], [], h => h
  | _ :: _, _ :: _, h => ⟨Tp.up _ e h.1, ArgsR.up e h.2⟩
  | [], _ :: _, h => h.elim
  | _ :: _, [], h => h.elim
theorem ArgsR.len {G : Hp} : ∀ {vs : List V} {as : List Arg}, ArgsR G vs as → vs.length = as.length
  | [], [], _ => rfl
  | _ :: _, _ :: _, h => by rw [List.length_cons, List.length_cons, ArgsR.len h.2]
  | [], _ :: _, h => h.elim
  | _ :: _, [], h => h.elim
theorem args0 {G : Hp} {vs : List V} (h : ArgsR G vs []) : vs = [] := by
  cases vs with
  | nil => rfl
  | cons _ _ => exact h.elim
theorem argsC {G : Hp} {vs : List V} {a : Arg} {as : List Arg} (h : ArgsR G vs (a :: as)) : ∃ v us, vs = v :: us ∧ a.T.R G v a.x ∧ ArgsR G us as := by
  cases vs with
  | nil => exact h.elim
  | cons v us => exact ⟨v, us, rfl, h.1, h.2⟩
theorem args1 {G : Hp} {vs : List V} {a : Arg} (h : ArgsR G vs [a]) : ∃ v, vs = [v] ∧ a.T.R G v a.x := by
  obtain ⟨v, us, rfl, h1, h2⟩ := argsC h
  cases args0 h2
  exact ⟨v, rfl, h1⟩
theorem args2 {G : Hp} {vs : List V} {a b : Arg} (h : ArgsR G vs [a, b]) : ∃ v w, vs = [v, w] ∧ a.T.R G v a.x ∧ b.T.R G w b.x := by
  obtain ⟨v, us, rfl, h1, h2⟩ := argsC h
  obtain ⟨w, rfl, h3⟩ := args1 h2
  exact ⟨v, w, rfl, h1, h3⟩
theorem args3 {G : Hp} {vs : List V} {a b c : Arg} (h : ArgsR G vs [a, b, c]) : ∃ v w u, vs = [v, w, u] ∧ a.T.R G v a.x ∧ b.T.R G w b.x ∧ c.T.R G u c.x := by
  obtain ⟨v, us, rfl, h1, h2⟩ := argsC h
  obtain ⟨w, u, rfl, h3⟩ := args2 h2
  exact ⟨v, w, u, rfl, h1, h3⟩
theorem args4 {G : Hp} {vs : List V} {a b c d : Arg} (h : ArgsR G vs [a, b, c, d]) : ∃ v w u z, vs = [v, w, u, z] ∧ a.T.R G v a.x ∧ b.T.R G w b.x ∧ c.T.R G u c.x ∧ d.T.R G z d.x := by
  obtain ⟨v, us, rfl, h1, h2⟩ := argsC h
  obtain ⟨w, u, z, rfl, h3⟩ := args3 h2
  exact ⟨v, w, u, z, rfl, h1, h3⟩
theorem args5 {G : Hp} {vs : List V} {a b c d e : Arg} (h : ArgsR G vs [a, b, c, d, e]) : ∃ v w u z s, vs = [v, w, u, z, s] ∧ a.T.R G v a.x ∧ b.T.R G w b.x ∧ c.T.R G u c.x ∧ d.T.R G z d.x ∧ e.T.R G s e.x := by
  obtain ⟨v, us, rfl, h1, h2⟩ := argsC h
  obtain ⟨w, u, z, s, rfl, h3⟩ := args4 h2
  exact ⟨v, w, u, z, s, rfl, h1, h3⟩
theorem args6 {G : Hp} {vs : List V} {a b c d e f : Arg} (h : ArgsR G vs [a, b, c, d, e, f]) : ∃ v w u z s r, vs = [v, w, u, z, s, r] ∧ a.T.R G v a.x ∧ b.T.R G w b.x ∧ c.T.R G u c.x ∧ d.T.R G z d.x ∧ e.T.R G s e.x ∧ f.T.R G r f.x := by
  obtain ⟨v, us, rfl, h1, h2⟩ := argsC h
  obtain ⟨w, u, z, s, r, rfl, h3⟩ := args5 h2
  exact ⟨v, w, u, z, s, r, rfl, h1, h3⟩
def EvBs (ta : TA) (σ : L2.St) (H B : Hp) (as : List Arg) : Prop := ∀ H1, Ex H H1 → ∀ Q : List V → Hp → Prop, (∀ vs H2 N, Ex H1 H2 → Ex N H2 → Fr H1 N → ArgsR (uni B N) vs as → Q vs H2) → ta σ H1 Q
/-- a value of a kind -/
abbrev Ed {α : Type} (T : Tp α) (te : TE) (σ : L2.St) (H B : Hp) (x : α) : Prop := EvB te σ H B fun G v => T.R G v x
theorem uni_emp (B : Hp) : uni B emp = B := rfl
theorem uni_ass (A B C : Hp) : uni (uni A B) C = uni A (uni B C) := by
  funext a
  unfold uni
  cases C a <;> cases B a <;> rfl
theorem uni_exl {B N H : Hp} (e : Ex B H) (f : Fr H N) : Ex B (uni B N) := uni_l fun a ha => ex_none e (f a ha)
theorem uni_up {B B' N H : Hp} (e : Ex B B') (e' : Ex B' H) (f : Fr H N) : Ex (uni B N) (uni B' N) := fun a o h => by
  unfold uni at h ⊢
  cases q : N a with
  | some u => rw [q] at h; exact h
  | none => rw [q] at h; exact e _ _ h
theorem uni_up2 {B N N' H : Hp} (e : Ex N N') (e' : Ex B H) (f : Fr H N') : Ex (uni B N) (uni B N') := fun a o h => by
  unfold uni at h ⊢
  cases q : N a with
  | some u => rw [q] at h; cases h; rw [e _ _ q]
  | none =>
    rw [q] at h
    have : N' a = none := by
      cases z : N' a with
      | none => rfl
      | some u => rw [ex_none e' (f a (by rw [z]; exact fun z => nomatch z))] at h; cases h
    rw [this]
    exact h
section
variable {K : PySem.W.Frag} {mg : Str → Option Value} {σ : L2.St} {H B B' : Hp} {ta tb te tx ti : TE} {tr : TA} {t u : TT} {v w : V} {P P' : Hp → V → Prop} {Ps : Hp → List V → Prop} {E : L2.St → XK} {W : WX} {α β γ δ : Type} {T : Tp α} {S : Tp β} {x : α} {y : β} {l m : List α}
theorem eb_ev (h : Ev te σ H v) (f : P B v) : EvB te σ H B P := fun H1 e Q q => h H1 e Q fun H2 e2 => q v H2 emp e2 emp_ex emp_fr f
theorem eb_var {i : Nat} (h : σ[i]? = some (some v)) (f : P B v) : EvB (tVar i) σ H B P := eb_ev (ev_var h) f
theorem ev_b (h : EvB te σ H B fun _ x => x = v) : Ev te σ H v := fun H1 e Q q => h H1 e Q fun x H2 _ e2 _ _ p => by
  have p : x = v := p
  subst p
  exact q H2 e2
theorem eb_imp (h : EvB te σ H B P) (i : ∀ G v, P G v → P' G v) : EvB te σ H B P' := fun H1 e Q q => h H1 e Q fun v H2 N e2 e3 f p => q v H2 N e2 e3 f (i _ v p)
theorem EvB.mono {H' : Hp} (e : Ex H H') (h : EvB te σ H B P) : EvB te σ H' B P := fun H1 a Q q => h H1 (e.trans a) Q q
/-- told in more -/
theorem ed_up (e : Ex B B') (eB : Ex B' H) (h : Ed T te σ H B x) : Ed T te σ H B' x := fun H1 a Q q => h H1 a Q fun v H2 N e2 e3 f p => q v H2 N e2 e3 f (T.up (uni_up e (eB.trans a) f) p)
theorem ed_flt [F : Flt T] (h : Ed T te σ H B x) : Ed T te σ H B' x := fun H1 a Q q => h H1 a Q fun v H2 N e2 e3 f p => q v H2 N e2 e3 f (F.any p)
theorem ed_to {S : Tp α} [Z : Sub T S] (h : Ed T te σ H B x) : Ed S te σ H B x := eb_imp h fun _ _ p => Z.to p
theorem ed_is {x' : α} (h : Ed T te σ H B x) (e : x = x') : Ed T te σ H B x' := e ▸ h
/-- what a call tells of a new thing -/
theorem ed_p (h : EvP te σ H P) (eB : Ex B H) (i : ∀ N v, P N v → T.R N v x) : Ed T te σ H B x := fun H1 a Q q => h H1 a Q fun v H2 N e2 e3 f p => q v H2 N e2 e3 f (T.up uni_r (i N v p))
/-- .. of which not all is told -/
theorem eb_pE {Z : α → Prop} (h : EvP te σ H P) (i : ∀ N v, P N v → ∃ x, T.R N v x ∧ Z x) : EvB te σ H B fun G v => ∃ x, T.R G v x ∧ Z x := fun H1 a Q q => h H1 a Q fun v H2 N e2 e3 f p => q v H2 N e2 e3 f (by
  obtain ⟨x, h1, h2⟩ := i N v p
  exact ⟨x, T.up uni_r h1, h2⟩)
theorem ed_some [Z : NN T] (h : Ed T te σ H B x) : Ed (tO T) te σ H B (some x) := eb_imp h fun _ _ p => ⟨p, Z.nn p⟩
theorem ed_x {s : Str} (h : Ev te σ H (.str s)) (hs : TxtOk s) : Ed tX te σ H B s := eb_ev h ⟨rfl, hs⟩
theorem ev_x {s : Str} (h : Ed tX te σ H B s) : Ev te σ H (.str s) := ev_b (eb_imp h fun _ _ p => p.1)
theorem ed_i {i : Int} (h : Ev te σ H (.int i)) : Ed tI te σ H B i := eb_ev h rfl
theorem ed_bl {b : Bool} (h : Ev te σ H (.bl b)) : Ed tB te σ H B b := eb_ev h rfl
theorem ed_s {s : Str} (h : Ev te σ H (.str s)) (hs : PyData.strOk s = true) : Ed tS te σ H B s := eb_ev h ⟨rfl, hs⟩
theorem ed_n (h : Ev te σ H .non) : Ed (tO T) te σ H B none := eb_ev h rfl
theorem ev_i {i : Int} (h : Ed tI te σ H B i) : Ev te σ H (.int i) := ev_b h
theorem ev_bl {b : Bool} (h : Ed tB te σ H B b) : Ev te σ H (.bl b) := ev_b h
theorem ev_s {s : Str} (h : Ed tS te σ H B s) : Ev te σ H (.str s) := ev_b (eb_imp h fun _ _ p => p.1)
/-! ### arguments -/
theorem ebs_nil : EvBs tNil σ H B [] := fun H1 _ Q q => q [] H1 emp (Ex.refl H1) emp_ex emp_fr trivial
theorem two_parts {H1 H2 H3 N N' : Hp} (eB : Ex B H1) (e2 : Ex H1 H2) (e3 : Ex N H2) (f : Fr H1 N) (f' : Fr H2 N') (e4 : Ex H2 H3) (e5 : Ex N' H3) : Fr H1 (uni N N') ∧ Ex (uni N N') H3 ∧ Ex (uni B N) (uni B (uni N N')) ∧ Ex (uni B N') (uni B (uni N N')) := by
  have fN : Fr H1 (uni N N') := uni_fr f (f'.back e2)
  refine ⟨fN, uni_ex (e3.trans e4) e5, ?_, uni_up2 uni_r eB fN⟩
  rw [← uni_ass]
  exact uni_l fun a ha => ex_none (uni_ex (eB.trans e2) e3) (f' a ha)
theorem ebs_cons {as : List Arg} (eB : Ex B H) (h : Ed T te σ H B x) (hr : EvBs tr σ H B as) : EvBs (tCons te tr) σ H B (⟨T, x⟩ :: as) := fun H1 e Q q =>
  h H1 e _ fun v H2 N e2 e3 f p => hr H2 (e.trans e2) _ fun us H3 N' e4 e5 f' p' => by
    obtain ⟨g1, g2, g3, g4⟩ := two_parts (eB.trans e) e2 e3 f f' e4 e5
    exact q (v :: us) H3 (uni N N') (e2.trans e4) g2 g1 ⟨T.up g3 p, p'.up g4⟩
/-! ### displays -/
theorem tup_new {H1 H2 N : Hp} {vs : List V} {p : Addr} (eB : Ex B H1) (e2 : Ex H1 H2) (e3 : Ex N H2) (f : Fr H1 N) (hp : H2 p = none) (o : HO) : Ex H1 (upd H2 p o) ∧ Ex (uni N (sing p o)) (upd H2 p o) ∧ Fr H1 (uni N (sing p o)) ∧ Ex (uni B N) (uni B (uni N (sing p o))) ∧ uni B (uni N (sing p o)) p = some o := by
  have f' : Fr H2 (sing p o) := sing_fr hp
  obtain ⟨g1, g2, g3, g4⟩ := two_parts (H3 := upd H2 p o) (N' := sing p o) eB e2 e3 f f' (Ex.new hp) (sing_ex upd_same)
  exact ⟨e2.trans (Ex.new hp), g2, g1, g3, g4 _ _ (uni_r _ _ sing_at)⟩
theorem eb_tup {as : List Arg} {P : Hp → V → Prop} (eB : Ex B H) (h : EvBs tr σ H B as) (hl : as.length ≤ 1000) (i : ∀ G p vs, G p = some (.tup vs) → ArgsR G vs as → P G (.ref p)) : EvB (tTup tr) σ H B P := fun H1 e Q q =>
  h H1 e _ fun vs H2 N e2 e3 f p => ⟨sz_of (by rw [p.len]; omega), fun r hr => by
    obtain ⟨g1, g2, g3, g4, g5⟩ := tup_new (vs := vs) (eB.trans e) e2 e3 f hr (.tup vs)
    exact q (.ref r) _ _ g1 g2 g3 (i _ r vs g5 (p.up g4))⟩
theorem eb_lst {as : List Arg} {P : Hp → V → Prop} (eB : Ex B H) (h : EvBs tr σ H B as) (hl : as.length ≤ 1000) (i : ∀ G p vs, G p = some (.lst vs) → ArgsR G vs as → P G (.ref p)) : EvB (tLst tr) σ H B P := fun H1 e Q q =>
  h H1 e _ fun vs H2 N e2 e3 f p => ⟨sz_of (by rw [p.len]; omega), fun r hr => by
    obtain ⟨g1, g2, g3, g4, g5⟩ := tup_new (vs := vs) (eB.trans e) e2 e3 f hr (.lst vs)
    exact q (.ref r) _ _ g1 g2 g3 (i _ r vs g5 (p.up g4))⟩
theorem ed_tup2 (eB : Ex B H) (h : EvBs tr σ H B [⟨T, x⟩, ⟨S, y⟩]) : Ed (tP K T S) (tTup tr) σ H B (x, y) := eb_tup eB h (Nat.le_of_ble_eq_true rfl) fun G p vs hp ha => by
  obtain ⟨v, w, rfl, h1, h2⟩ := args2 ha
  exact ⟨p, v, w, rfl, st_of hp, h1, h2⟩
theorem ed_tup3 {U : Tp γ} {z : γ} (eB : Ex B H) (h : EvBs tr σ H B [⟨T, x⟩, ⟨S, y⟩, ⟨U, z⟩]) : Ed (tT3 K T S U) (tTup tr) σ H B ⟨x, y, z⟩ := eb_tup eB h (Nat.le_of_ble_eq_true rfl) fun G p vs hp ha => by
  obtain ⟨v, w, u, rfl, h1, h2, h3⟩ := args3 ha
  exact ⟨p, v, w, u, rfl, st_of hp, h1, h2, h3⟩
theorem ed_tup4 {U : Tp γ} {z : γ} {W : Tp δ} {s : δ} (eB : Ex B H) (h : EvBs tr σ H B [⟨T, x⟩, ⟨S, y⟩, ⟨U, z⟩, ⟨W, s⟩]) : Ed (tT4 K T S U W) (tTup tr) σ H B ⟨x, y, z, s⟩ := eb_tup eB h (Nat.le_of_ble_eq_true rfl) fun G p vs hp ha => by
  obtain ⟨v, w, u, r, rfl, h1, h2, h3, h4⟩ := args4 ha
  exact ⟨p, v, w, u, r, rfl, st_of hp, h1, h2, h3, h4⟩
theorem argsL {G : Hp} {T : Tp α} : ∀ {l : List α} {vs : List V}, ArgsR G vs (l.map fun x => ⟨T, x⟩) → Paired (T.R G) vs l
  | [], vs, h => by cases args0 h; exact .nil
  | x :: l, vs, h => by
    obtain ⟨v, us, rfl, h1, h2⟩ := argsC h
    exact .cons h1 (argsL h2)
theorem ed_lst (eB : Ex B H) (h : EvBs tr σ H B (l.map fun x => ⟨T, x⟩)) (hl : l.length ≤ 1000) : Ed (tW T) (tLst tr) σ H B l := eb_lst eB h (by rw [List.length_map]; exact hl) fun G p vs hp ha => ⟨p, vs, rfl, hp, argsL ha, by omega⟩
/-! ### reading -/
theorem paired_at {R : V → α → Prop} : ∀ {xs : List V} {l : List α} {i : Nat} {y : α}, Paired R xs l → l[i]? = some y → ∃ v, xs[i]? = some v ∧ R v y
  | _, _, _, _, .nil, e => by simp at e
  | _, _, 0, _, .cons h _, e => by
    simp at e
    subst e
    exact ⟨_, rfl, h⟩
  | _, _, i + 1, _, .cons _ r, e => by
    obtain ⟨y, h1, h2⟩ := paired_at (i := i) r (by simpa using e)
    exact ⟨y, by simpa using h1, h2⟩
theorem paired_atI {R : V → α → Prop} {xs : List V} {i : Int} {y : α} (h : Paired R xs l) (e : atI l i = some y) : ∃ v, atI xs i = some v ∧ R v y := by
  unfold atI at e ⊢
  rw [Paired.length h]
  cases q : ixN l.length i with
  | none => rw [q] at e; cases e
  | some j => rw [q] at e; exact paired_at h e
theorem ed_ix {i : Int} (h : Ed (tL K T) te σ H B l) (hi : Ev ti σ H (.int i)) (hy : atI l i = some x) (eB : Ex B H) : Ed T (tOp (rIx K) te ti) σ H B x := fun H1 e Q q =>
  h H1 e _ fun v H2 N e2 e3 f ⟨p, xs, ev, h1, h2, hl0⟩ => hi H2 (e.trans e2) _ fun H3 e4 => by
    obtain ⟨w, h3, h4⟩ := paired_atI h2 hy
    subst ev
    have eU : Ex (uni B N) H3 := (uni_ex ((eB.trans e).trans e2) e3).trans e4
    exact .inl ⟨p, xs, i, w, rfl, rfl, ex_l eU h1, h3, q w H3 N (e2.trans e4) (e3.trans e4) f h4⟩
theorem eb_ixT {i : Int} {P : Hp → V → Prop} (h : EvB te σ H B fun G v => ∃ p xs w, v = .ref p ∧ SqT K G p xs ∧ atI xs i = some w ∧ P G w) (eB : Ex B H) : EvB (tOp (rIx K) te (tC (.int i))) σ H B P := fun H1 e Q q =>
  h H1 e _ fun v H2 N e2 e3 f ⟨p, xs, w, ev, h1, h2, h3⟩ => by
    subst ev
    exact .inr (.inl ⟨p, xs, i, w, rfl, rfl, ex_t (uni_ex ((eB.trans e).trans e2) e3) h1, h2, q w H2 N e2 e3 f h3⟩)
theorem ed_2a {z : α × β} (h : Ed (tP K T S) te σ H B z) (eB : Ex B H) : Ed T (tOp (rIx K) te (tC (.int 0))) σ H B z.1 := eb_ixT (eb_imp h fun G v ⟨p, a, b, h1, h2, h3, h4⟩ => ⟨p, [a, b], a, h1, h2, rfl, h3⟩) eB
theorem ed_2b {z : α × β} (h : Ed (tP K T S) te σ H B z) (eB : Ex B H) : Ed S (tOp (rIx K) te (tC (.int 1))) σ H B z.2 := eb_ixT (eb_imp h fun G v ⟨p, a, b, h1, h2, h3, h4⟩ => ⟨p, [a, b], b, h1, h2, rfl, h4⟩) eB
theorem ed_3a {U : Tp γ} {z : T3 α β γ} (h : Ed (tT3 K T S U) te σ H B z) (eB : Ex B H) : Ed T (tOp (rIx K) te (tC (.int 0))) σ H B z.a := eb_ixT (eb_imp h fun G v ⟨p, a, b, c, h1, h2, h3, h4, h5⟩ => ⟨p, [a, b, c], a, h1, h2, rfl, h3⟩) eB
theorem ed_3b {U : Tp γ} {z : T3 α β γ} (h : Ed (tT3 K T S U) te σ H B z) (eB : Ex B H) : Ed S (tOp (rIx K) te (tC (.int 1))) σ H B z.b := eb_ixT (eb_imp h fun G v ⟨p, a, b, c, h1, h2, h3, h4, h5⟩ => ⟨p, [a, b, c], b, h1, h2, rfl, h4⟩) eB
theorem ed_3c {U : Tp γ} {z : T3 α β γ} (h : Ed (tT3 K T S U) te σ H B z) (eB : Ex B H) : Ed U (tOp (rIx K) te (tC (.int 2))) σ H B z.c := eb_ixT (eb_imp h fun G v ⟨p, a, b, c, h1, h2, h3, h4, h5⟩ => ⟨p, [a, b, c], c, h1, h2, rfl, h5⟩) eB
theorem ed_4a {U : Tp γ} {W : Tp δ} {z : T4 α β γ δ} (h : Ed (tT4 K T S U W) te σ H B z) (eB : Ex B H) : Ed T (tOp (rIx K) te (tC (.int 0))) σ H B z.a := eb_ixT (eb_imp h fun G v ⟨p, a, b, c, d, h1, h2, h3, h4, h5, h6⟩ => ⟨p, [a, b, c, d], a, h1, h2, rfl, h3⟩) eB
theorem ed_4b {U : Tp γ} {W : Tp δ} {z : T4 α β γ δ} (h : Ed (tT4 K T S U W) te σ H B z) (eB : Ex B H) : Ed S (tOp (rIx K) te (tC (.int 1))) σ H B z.b := eb_ixT (eb_imp h fun G v ⟨p, a, b, c, d, h1, h2, h3, h4, h5, h6⟩ => ⟨p, [a, b, c, d], b, h1, h2, rfl, h4⟩) eB
theorem ed_4c {U : Tp γ} {W : Tp δ} {z : T4 α β γ δ} (h : Ed (tT4 K T S U W) te σ H B z) (eB : Ex B H) : Ed U (tOp (rIx K) te (tC (.int 2))) σ H B z.c := eb_ixT (eb_imp h fun G v ⟨p, a, b, c, d, h1, h2, h3, h4, h5, h6⟩ => ⟨p, [a, b, c, d], c, h1, h2, rfl, h5⟩) eB
theorem ed_4d {U : Tp γ} {W : Tp δ} {z : T4 α β γ δ} (h : Ed (tT4 K T S U W) te σ H B z) (eB : Ex B H) : Ed W (tOp (rIx K) te (tC (.int 3))) σ H B z.d := eb_ixT (eb_imp h fun G v ⟨p, a, b, c, d, h1, h2, h3, h4, h5, h6⟩ => ⟨p, [a, b, c, d], d, h1, h2, rfl, h6⟩) eB
theorem atI_get [Inhabited α] {i : Int} (h : -(l.length : Int) ≤ i ∧ i < l.length) : atI l i = some ((atI l i).getD default) := by
  unfold atI ixN
  by_cases h0 : 0 ≤ i
  · rw [if_pos h0, if_pos h.2]
    have : i.toNat < l.length := by omega
    simp [this]
  · rw [if_neg h0, if_pos h.1]
    have : (i + l.length).toNat < l.length := by omega
    simp [this]
/-- xs[i] -/
def getI {α : Type} [Inhabited α] (l : List α) (i : Int) : α := (atI l i).getD default
theorem ed_ixG [Inhabited α] {i : Int} (h : Ed (tL K T) te σ H B l) (hi : Ev ti σ H (.int i)) (hy : -(l.length : Int) ≤ i ∧ i < l.length) (eB : Ex B H) : Ed T (tOp (rIx K) te ti) σ H B (getI l i) := ed_ix h hi (atI_get hy) eB
theorem ev_lenB (h : Ed (tL K T) te σ H B l) (eB : Ex B H) : Ev (tCB (rLenU K) (tCons te tNil)) σ H (.int (l.length : Nat)) := fun H1 e Q q =>
  h H1 e _ fun v H2 N e2 e3 f ⟨p, xs, ev, h1, h2, hl0⟩ => by
    subst ev
    rw [← Paired.length h2] at q
    exact .inl ⟨p, xs, rfl, .inl (ex_l (uni_ex ((eB.trans e).trans e2) e3) h1), q H2 e2⟩
/-! ### slices, sums, copies -/
def cutI {α : Type} (l : List α) (lo hi : Option Int) : List α := (l.drop (HT.sIx l.length 0 lo)).take (HT.sIx l.length l.length hi - HT.sIx l.length 0 lo)
theorem paired_drop' {R : V → α → Prop} : ∀ {xs : List V} {l : List α} (n : Nat), Paired R xs l → Paired R (xs.drop n) (l.drop n)
  | _, _, 0, h => h
  | _, _, n + 1, .nil => .nil
  | _, _, n + 1, .cons _ r => paired_drop' n r
theorem paired_take' {R : V → α → Prop} : ∀ {xs : List V} {l : List α} (n : Nat), Paired R xs l → Paired R (xs.take n) (l.take n)
  | _, _, 0, _ => .nil
  | _, _, n + 1, .nil => .nil
  | _, _, n + 1, .cons h r => .cons h (paired_take' n r)
theorem paired_cut {R : V → α → Prop} {xs : List V} {lo hi : Option Int} (h : Paired R xs l) : Paired R (cutV xs lo hi) (cutI l lo hi) := by
  unfold cutV cutI
  rw [Paired.length h]
  exact paired_take' _ (paired_drop' _ h)
theorem cut_le (l : List α) (lo hi : Option Int) : (cutI l lo hi).length ≤ l.length := by
  unfold cutI
  rw [List.length_take, List.length_drop]
  omega
theorem paired_app' {R : V → α → Prop} : ∀ {xs ys : List V} {l m : List α}, Paired R xs l → Paired R ys m → Paired R (xs ++ ys) (l ++ m)
  | _, _, _, _, .nil, h => h
  | _, _, _, _, .cons a r, h => .cons a (paired_app' r h)
theorem ed_sl {tl th : TO} {lo hi : Option Int} (h : Ed (tL K T) te σ H B l) (h1 : EvO tl σ H lo) (h2 : EvO th σ H hi) (eB : Ex B H) : Ed (tW T) (tSl (rSlU K) te tl th) σ H B (cutI l lo hi) := fun H1 e Q q =>
  h H1 e _ fun v H2 N e2 e3 f ⟨p, xs, ev, g1, g2, hl0⟩ => h1 H2 (e.trans e2) _ fun H3 e4 => h2 H3 ((e.trans e2).trans e4) _ fun H4 e5 => by
    subst ev
    refine .inl (.inl ⟨p, xs, rfl, ex_l ((uni_ex ((eB.trans e).trans e2) e3).trans (e4.trans e5)) g1, fun r hr => ?_⟩)
    obtain ⟨g3, g4, g5, g6, g7⟩ := tup_new (vs := []) (eB.trans e) (e2.trans (e4.trans e5)) (e3.trans (e4.trans e5)) f hr (.lst (cutV xs lo hi))
    exact q (.ref r) _ _ g3 g4 g5 ⟨r, _, rfl, g7, paired_up g6 (paired_cut g2), Nat.le_trans (cut_le _ _ _) hl0⟩
theorem ed_cat (h : Ed (tW T) ta σ H B l) (h' : Ed (tW T) tb σ H B m) (eB : Ex B H) (hl : l.length + m.length ≤ 40000) : Ed (tW T) (tOp (rAddU K) ta tb) σ H B (l ++ m) := fun H1 e Q q =>
  h H1 e _ fun v H2 N e2 e3 f ⟨p, xs, ev, g1, g2, hl0⟩ => h' H2 (e.trans e2) _ fun w H3 N' e4 e5 f' ⟨p', ys, ew, g1', g2', hl0'⟩ => by
    subst ev ew
    obtain ⟨k1, k2, k3, k4⟩ := two_parts (eB.trans e) e2 e3 f f' e4 e5
    have u1 : Ex (uni B N) H3 := (uni_ex ((eB.trans e).trans e2) e3).trans e4
    have u2 : Ex (uni B N') H3 := uni_ex (((eB.trans e).trans e2).trans e4) e5
    refine .inr (.inl ⟨p, p', xs, ys, rfl, rfl, u1 _ _ g1, u2 _ _ g1', sz_of (by rw [Paired.length g2, Paired.length g2']; omega), fun r hr => ?_⟩)
    obtain ⟨g3, g4, g5, g6, g7⟩ := tup_new (vs := []) (eB.trans e) (e2.trans e4) k2 k1 hr (.lst (xs ++ ys))
    exact q (.ref r) _ _ g3 g4 g5 ⟨r, _, rfl, g7, paired_up g6 (paired_app' (paired_up k3 g2) (paired_up k4 g2')), by rw [List.length_append]; exact hl⟩
/-- list(xs) -/
theorem ed_list (h : Ed (tL K T) te σ H B l) (eB : Ex B H) : Ed (tW T) (tCB (rListS K) (tCons te tNil)) σ H B l := fun H1 e Q q =>
  h H1 e _ fun v H2 N e2 e3 f ⟨p, xs, ev, g1, g2, hl0⟩ => by
    subst ev
    refine ⟨p, xs, rfl, .inl (ex_l (uni_ex ((eB.trans e).trans e2) e3) g1), fun r hr => ?_⟩
    obtain ⟨g3, g4, g5, g6, g7⟩ := tup_new (vs := []) (eB.trans e) e2 e3 f hr (.lst xs)
    exact q (.ref r) _ _ g3 g4 g5 ⟨r, _, rfl, g7, paired_up g6 g2, hl0⟩
/-- where the items are flat, the copy lies in what is new alone -/
theorem ed_listF [F : Flt T] (h : Ed (tL K T) te σ H B l) (eB : Ex B H) : Ed (tW T) (tCB (rListS K) (tCons te tNil)) σ H B' l := fun H1 e Q q =>
  h H1 e _ fun v H2 N e2 e3 f ⟨p, xs, ev, g1, g2, hl0⟩ => by
    subst ev
    exact ⟨p, xs, rfl, .inl (ex_l (uni_ex ((eB.trans e).trans e2) e3) g1), fun r hr => q (.ref r) _ (sing r (.lst xs)) (e2.trans (Ex.new hr)) (sing_ex upd_same) (sing_fr (fresh_back e2 hr)) ⟨r, xs, rfl, uni_r _ _ sing_at, paired_any g2, hl0⟩⟩
theorem ed_slF [F : Flt T] {tl th : TO} {lo hi : Option Int} (h : Ed (tL K T) te σ H B l) (h1 : EvO tl σ H lo) (h2 : EvO th σ H hi) (eB : Ex B H) : Ed (tW T) (tSl (rSlU K) te tl th) σ H B' (cutI l lo hi) := fun H1 e Q q =>
  h H1 e _ fun v H2 N e2 e3 f ⟨p, xs, ev, g1, g2, hl0⟩ => h1 H2 (e.trans e2) _ fun H3 e4 => h2 H3 ((e.trans e2).trans e4) _ fun H4 e5 => by
    subst ev
    exact .inl (.inl ⟨p, xs, rfl, ex_l ((uni_ex ((eB.trans e).trans e2) e3).trans (e4.trans e5)) g1, fun r hr => q (.ref r) _ (sing r (.lst (cutV xs lo hi))) ((e2.trans (e4.trans e5)).trans (Ex.new hr)) (sing_ex upd_same) (sing_fr (fresh_back (e2.trans (e4.trans e5)) hr)) ⟨r, _, rfl, uni_r _ _ sing_at, paired_any (paired_cut g2), Nat.le_trans (cut_le _ _ _) hl0⟩⟩)
/-! ### comparisons -/
theorem shp_of [Z : Pla K T] {G : Hp} (h : T.R G v x) (hd : Z.dep ≤ 64) : SeqAt.shaped (Z.enc x) = true := by
  show ((Z.enc x).canLay0 && decide ((Z.enc x).depth ≤ 64)) = true
  rw [Z.lay h, decide_eq_true (Nat.le_trans (Z.depth x) hd)]
  rfl
theorem eqv_dec [Z : Pla K T] [DecidableEq α] {G : Hp} {x' : α} (h : T.R G v x) (h' : T.R G w x') : PyData.eqv (Z.enc x) (Z.enc x') = decide (x = x') := by
  by_cases e : x = x'
  · rw [decide_eq_true e]; exact (Z.inj h h').mpr e
  · rw [decide_eq_false e]
    cases q : PyData.eqv (Z.enc x) (Z.enc x') with
    | false => rfl
    | true => exact absurd ((Z.inj h h').mp q) e
theorem ev_eqB [Z : Pla K T] [DecidableEq α] {x' : α} (h : Ed T ta σ H B x) (h' : Ed T tb σ H B x') (eB : Ex B H) (hd : Z.dep ≤ 64 := by exact Nat.le_of_ble_eq_true rfl) : Ev (tOp (rEqU K) ta tb) σ H (.bl (decide (x = x'))) := fun H1 e Q q =>
  h H1 e _ fun v H2 N e2 e3 f g => h' H2 (e.trans e2) _ fun w H3 N' e4 e5 f' g' => by
    obtain ⟨k1, k2, k3, k4⟩ := two_parts (eB.trans e) e2 e3 f f' e4 e5
    have eU : Ex (uni B (uni N N')) H3 := uni_ex (((eB.trans e).trans e2).trans e4) k2
    have g := T.up k3 g
    have g' := T.up k4 g'
    rw [← eqv_dec (Z := Z) g g'] at q
    exact .inr ⟨_, _, dp_mono eU (Z.dp g), dp_mono eU (Z.dp g'), shp_of g hd, shp_of g' hd, q H3 (e2.trans e4)⟩
theorem ev_neB [Z : Pla K T] [DecidableEq α] {x' : α} (h : Ed T ta σ H B x) (h' : Ed T tb σ H B x') (eB : Ex B H) (hd : Z.dep ≤ 64 := by exact Nat.le_of_ble_eq_true rfl) : Ev (tOp (rNeU K) ta tb) σ H (.bl (!decide (x = x'))) := fun H1 e Q q =>
  h H1 e _ fun v H2 N e2 e3 f g => h' H2 (e.trans e2) _ fun w H3 N' e4 e5 f' g' => by
    obtain ⟨k1, k2, k3, k4⟩ := two_parts (eB.trans e) e2 e3 f f' e4 e5
    have eU : Ex (uni B (uni N N')) H3 := uni_ex (((eB.trans e).trans e2).trans e4) k2
    have g := T.up k3 g
    have g' := T.up k4 g'
    rw [← eqv_dec (Z := Z) g g'] at q
    exact .inr ⟨_, _, dp_mono eU (Z.dp g), dp_mono eU (Z.dp g'), shp_of g hd, shp_of g' hd, q H3 (e2.trans e4)⟩
theorem any_dec [Z : Pla K T] [DecidableEq α] {G : Hp} {xs : List V} (h : T.R G v x) (g : Paired (T.R G) xs l) : ((l.map Z.enc).any fun z => PyData.eqv z (Z.enc x)) = decide (x ∈ l) := by
  induction g with
  | nil => simp
  | cons a r ih =>
    rename_i v1 y1 vs1 m1
    rw [List.map_cons, List.any_cons, eqv_dec (Z := Z) a h, ih]
    by_cases e : y1 = x
    · subst e; simp
    · have e' : ¬ x = y1 := fun z => e z.symm
      simp [e, e']
theorem ev_inB [Z : Pla K T] [DecidableEq α] (h : Ed T ta σ H B x) (h' : Ed (tL K T) tb σ H B l) (eB : Ex B H) (hd : Z.dep ≤ 63 := by exact Nat.le_of_ble_eq_true rfl) : Ev (tOp (rInU K) ta tb) σ H (.bl (decide (x ∈ l))) := fun H1 e Q q =>
  h H1 e _ fun v H2 N e2 e3 f g => h' H2 (e.trans e2) _ fun w H3 N' e4 e5 f' g' => by
    obtain ⟨k1, k2, k3, k4⟩ := two_parts (eB.trans e) e2 e3 f f' e4 e5
    have eU : Ex (uni B (uni N N')) H3 := uni_ex (((eB.trans e).trans e2).trans e4) k2
    have g := T.up k3 g
    have g' := (tL K T).up k4 g'
    have hs := shp_of (K := K) (T := tL K T) g' (by show Z.dep + 1 ≤ 64; omega)
    have hp := dp_mono eU (Pla.dp (K := K) (T := tL K T) g')
    obtain ⟨p, xs, ev, g1, g2, hl0⟩ := g'
    rw [← any_dec (Z := Z) g g2] at q
    exact .inr ⟨_, _, dp_mono eU (Z.dp g), hp, shp_of g (by omega), hs, q H3 (e2.trans e4)⟩
theorem ev_niB [Z : Pla K T] [DecidableEq α] (h : Ed T ta σ H B x) (h' : Ed (tL K T) tb σ H B l) (eB : Ex B H) (hd : Z.dep ≤ 63 := by exact Nat.le_of_ble_eq_true rfl) : Ev (tOp (rNotInU K) ta tb) σ H (.bl (!decide (x ∈ l))) := fun H1 e Q q =>
  h H1 e _ fun v H2 N e2 e3 f g => h' H2 (e.trans e2) _ fun w H3 N' e4 e5 f' g' => by
    obtain ⟨k1, k2, k3, k4⟩ := two_parts (eB.trans e) e2 e3 f f' e4 e5
    have eU : Ex (uni B (uni N N')) H3 := uni_ex (((eB.trans e).trans e2).trans e4) k2
    have g := T.up k3 g
    have g' := (tL K T).up k4 g'
    have hs := shp_of (K := K) (T := tL K T) g' (by show Z.dep + 1 ≤ 64; omega)
    have hp := dp_mono eU (Pla.dp (K := K) (T := tL K T) g')
    obtain ⟨p, xs, ev, g1, g2, hl0⟩ := g'
    rw [← any_dec (Z := Z) g g2] at q
    exact .inr ⟨_, _, dp_mono eU (Z.dp g), hp, shp_of g (by omega), hs, q H3 (e2.trans e4)⟩
theorem ev_isnB {x : Option α} (h : Ed (tO T) te σ H B x) : Ev (tOp (fun x y H Q => y = .non ∧ Q (.bl (decide (x = .non))) H) te (tC .non)) σ H (.bl x.isNone) := fun H1 e Q q =>
  h H1 e _ fun v H2 N e2 e3 f g => ⟨rfl, by
    cases x with
    | none => cases g; simpa using q H2 e2
    | some y => have z : decide (v = V.non) = false := decide_eq_false g.2; rw [z]; exact q H2 e2⟩
theorem ev_ntnB {x : Option α} (h : Ed (tO T) te σ H B x) : Ev (tOp (fun x y H Q => y = .non ∧ Q (.bl (!decide (x = .non))) H) te (tC .non)) σ H (.bl x.isSome) := fun H1 e Q q =>
  h H1 e _ fun v H2 N e2 e3 f g => ⟨rfl, by
    cases x with
    | none => cases g; simpa using q H2 e2
    | some y => have z : decide (v = V.non) = false := decide_eq_false g.2; rw [z]; exact q H2 e2⟩
theorem ed_if {b : Bool} {x' : α} (h : EvT t σ H b) (h1 : b = true → Ed T ta σ H B x) (h2 : b = false → Ed T tb σ H B x') : Ed T (tIf t ta tb) σ H B (if b = true then x else x') := fun H1 e Q q => h H1 e _ fun H2 e2 => by
  cases b with
  | true =>
    show ta σ H2 Q
    exact h1 rfl H2 (e.trans e2) Q fun v H3 N e3 i3 f p => q v H3 N (e2.trans e3) i3 (f.back e2) p
  | false =>
    show tb σ H2 Q
    exact h2 rfl H2 (e.trans e2) Q fun v H3 N e3 i3 f p => q v H3 N (e2.trans e3) i3 (f.back e2) p
/-! ### calls -/
theorem args_ex {as : List Arg} {N H2 : Hp} {vs : List V} (eB : Ex B H2) (e3 : Ex N H2) (p : ArgsR (uni B N) vs as) : ArgsR H2 vs as := p.up (uni_ex eB e3)
theorem ep_callB {S : Rl} {as : List Arg} (eB : Ex B H) (ha : EvBs tr σ H B as) (hR : ∀ vs G, ArgsR G vs as → S.R vs G (.ok P)) : EvP (tCallS (S.sp mg) E tr) σ H P := fun H1 e Q q => ha H1 e _ fun vs H2 N e2 e3 f p => ⟨.ok P, hR vs H2 (args_ex ((eB.trans e).trans e2) e3 p), q.fwd e2⟩
/-- what comes back may hold what was handed in -/
theorem ed_callU {S : Rl} {as : List Arg} {x : α} (eB : Ex B H) (ha : EvBs tr σ H B as) (hR : ∀ vs G, ArgsR G vs as → ∃ P, S.R vs G (.ok P) ∧ ∀ N v G', Ex G G' → Ex N G' → P N v → T.R G' v x) : Ed T (tCallS (S.sp mg) E tr) σ H B x := fun H1 e Q q => ha H1 e _ fun vs H2 N e2 e3 f p => by
  have eU : Ex (uni B N) H2 := uni_ex ((eB.trans e).trans e2) e3
  obtain ⟨P, h1, h2⟩ := hR vs _ p
  refine ⟨.ok P, S.mono eU h1, fun v H3 N' e4 e5 f' p' => ?_⟩
  obtain ⟨g1, g2, g3, g4⟩ := two_parts (eB.trans e) e2 e3 f f' e4 e5
  refine q v H3 (uni N N') (e2.trans e4) g2 g1 (h2 N' v _ g3 ?_ p')
  exact uni_r.trans g4
theorem ed_makeU {S : Rl} {as : List Arg} {C : Addr} {x : α} (eB : Ex B H) (ha : EvBs tr σ H B as) (hR : ∀ vs G, ArgsR G vs as → ∃ P, S.R vs G (.ok P) ∧ ∀ N v G', Ex G G' → Ex N G' → P N v → T.R G' v x) : Ed T (tMakeS C (S.spI mg C) E tr) σ H B x := fun H1 e Q q => ha H1 e _ fun vs H2 N e2 e3 f p x dx hx hdx hne => by
  have eU : Ex (uni B N) H2 := uni_ex ((eB.trans e).trans e2) e3
  obtain ⟨P, h1, h2⟩ := hR vs _ p
  refine ⟨x, dx, vs, H2, .ok P, rfl, rfl, hx, hdx, hne, S.mono eU h1, fun H3 N' e4 e5 f' p' => ⟨rfl, ?_⟩⟩
  obtain ⟨g1, g2, g3, g4⟩ := two_parts (eB.trans e) e2 e3 f f' e4 e5
  exact q (.ref x) H3 (uni N N') (e2.trans e4) g2 g1 (h2 N' (.ref x) _ g3 (uni_r.trans g4) p')
theorem ed_methU {γ : Type} {O : Tp γ} {z : γ} {S : Rl} {as : List Arg} {C : Addr} {mn : Str} {x : α} (eB : Ex B H) (ho : Ed O ta σ H B z) (hC : ∀ {G v}, O.R G v z → ∃ a dx gs, v = .ref a ∧ G a = some (.ins C dx gs) ∧ gs.lookup mn = none) (ha : EvBs tr σ H B as) (hR : ∀ vs G, ArgsR G vs (⟨O, z⟩ :: as) → ∃ P, S.R vs G (.ok P) ∧ ∀ N v G', Ex G G' → Ex N G' → P N v → T.R G' v x) : Ed T (tMethS C mn (S.sp mg) E ta tr) σ H B x := fun H1 e Q q => ho H1 e _ fun v H2 N e2 e3 f p => by
  obtain ⟨a, dx, gs, rfl, h1, h2⟩ := hC p
  have eU : Ex (uni B N) H2 := uni_ex ((eB.trans e).trans e2) e3
  refine ⟨a, dx, gs, rfl, eU _ _ h1, h2, ha H2 (e.trans e2) _ fun vs H3 N1 e4 e5 f1 p1 => ?_⟩
  obtain ⟨g1, g2, g3, g4⟩ := two_parts (eB.trans e) e2 e3 f f1 e4 e5
  obtain ⟨P, k1, k2⟩ := hR (.ref a :: vs) (uni B (uni N N1)) ⟨O.up g3 p, p1.up g4⟩
  have eU2 : Ex (uni B (uni N N1)) H3 := uni_ex (((eB.trans e).trans e2).trans e4) g2
  refine ⟨.ok P, S.mono eU2 k1, fun v H4 N' e6 e7 f' p' => ?_⟩
  obtain ⟨m1, m2, m3, m4⟩ := two_parts (eB.trans e) (e2.trans e4) g2 g1 f' e6 e7
  exact q v H4 (uni (uni N N1) N') ((e2.trans e4).trans e6) m2 m1 (k2 N' v _ m3 (uni_r.trans m4) p')
theorem er_callB {S : Rl} {as : List Arg} {xn : Str} {fs : List (Str × V)} (eB : Ex B H) (ha : EvBs tr σ H B as) (hR : ∀ vs G, ArgsR G vs as → S.R vs G (.err xn fs)) : EvErr mg W xn fs (tCallS (S.sp mg) (WE W) tr) σ H := fun H1 e q Q => ha H1 e _ fun vs H2 N e2 e3 f p => ⟨.err xn fs, hR vs H2 (args_ex ((eB.trans e).trans e2) e3 p), q.fwd e2⟩
/-- o.m(..): OT: the kind of the object; it is an instance of C without a field m -/
theorem ep_methB {S : Rl} {as : List Arg} {C : Addr} {mn : Str} (eB : Ex B H) (ho : Ed T ta σ H B x) (hC : ∀ {G v}, T.R G v x → ∃ a dx gs, v = .ref a ∧ G a = some (.ins C dx gs) ∧ gs.lookup mn = none) (ha : EvBs tr σ H B as) (hR : ∀ vs G, ArgsR G vs (⟨T, x⟩ :: as) → S.R vs G (.ok P)) : EvP (tMethS C mn (S.sp mg) E ta tr) σ H P := fun H1 e Q q => ho H1 e _ fun v H2 N e2 e3 f p => by
  obtain ⟨a, dx, gs, rfl, h1, h2⟩ := hC p
  have eU : Ex (uni B N) H2 := uni_ex ((eB.trans e).trans e2) e3
  refine ⟨a, dx, gs, rfl, eU _ _ h1, h2, ha H2 (e.trans e2) _ fun vs H3 N' e4 e5 f' p' => ⟨.ok P, hR _ H3 ⟨T.up (eU.trans e4) p, args_ex (((eB.trans e).trans e2).trans e4) e5 p'⟩, q.fwd (e2.trans e4)⟩⟩
theorem er_methB {S : Rl} {as : List Arg} {C : Addr} {mn : Str} {xn : Str} {fs : List (Str × V)} (eB : Ex B H) (ho : Ed T ta σ H B x) (hC : ∀ {G v}, T.R G v x → ∃ a dx gs, v = .ref a ∧ G a = some (.ins C dx gs) ∧ gs.lookup mn = none) (ha : EvBs tr σ H B as) (hR : ∀ vs G, ArgsR G vs (⟨T, x⟩ :: as) → S.R vs G (.err xn fs)) : EvErr mg W xn fs (tMethS C mn (S.sp mg) (WE W) ta tr) σ H := fun H1 e q Q => ho H1 e _ fun v H2 N e2 e3 f p => by
  obtain ⟨a, dx, gs, rfl, h1, h2⟩ := hC p
  have eU : Ex (uni B N) H2 := uni_ex ((eB.trans e).trans e2) e3
  refine ⟨a, dx, gs, rfl, eU _ _ h1, h2, ha H2 (e.trans e2) _ fun vs H3 N' e4 e5 f' p' => ⟨.err xn fs, hR _ H3 ⟨T.up (eU.trans e4) p, args_ex (((eB.trans e).trans e2).trans e4) e5 p'⟩, q.fwd (e2.trans e4)⟩⟩
theorem ep_makeB {S : Rl} {as : List Arg} {C : Addr} (eB : Ex B H) (ha : EvBs tr σ H B as) (hR : ∀ vs G, ArgsR G vs as → S.R vs G (.ok P)) : EvP (tMakeS C (S.spI mg C) E tr) σ H P := fun H1 e Q q => ha H1 e _ fun vs H2 N e2 e3 f p x dx hx hdx hne =>
  ⟨x, dx, vs, H2, .ok P, rfl, rfl, hx, hdx, hne, hR vs H2 (args_ex ((eB.trans e).trans e2) e3 p), fun H' N e3 e4 f p => ⟨rfl, q (.ref x) H' N (e2.trans e3) e4 (f.back e2) p⟩⟩
theorem er_makeB {S : Rl} {as : List Arg} {C : Addr} {xn : Str} {fs : List (Str × V)} (eB : Ex B H) (ha : EvBs tr σ H B as) (hR : ∀ vs G, ArgsR G vs as → S.R vs G (.err xn fs)) : EvErr mg W xn fs (tMakeS C (S.spI mg C) (WE W) tr) σ H := fun H1 e q Q => ha H1 e _ fun vs H2 N e2 e3 f p x dx hx hdx hne =>
  ⟨x, dx, vs, H2, .err xn fs, rfl, rfl, hx, hdx, hne, hR vs H2 (args_ex ((eB.trans e).trans e2) e3 p), q.fwd e2⟩
end
/-! ### a new list whose spine lies apart -/
def Edn {α : Type} (T : Tp α) (te : TE) (σ : L2.St) (H B : Hp) (l : List α) : Prop := ∀ H1, Ex H H1 → ∀ Q : VK, (∀ p xs H2 N, Ex H1 H2 → Ex N H2 → Fr H1 N → H1 p = none → N p = none → H2 p = some (.lst xs) → Paired (T.R (uni B N)) xs l → l.length ≤ 40000 → Q (.ref p) H2) → te σ H1 Q
section
variable {K : PySem.W.Frag} {σ : L2.St} {H B B' : Hp} {ta tb te : TE} {tr : TA} {α : Type} {T : Tp α} {l m : List α}
theorem ed_of_n (eB : Ex B H) (h : Edn T te σ H B l) : Ed (tW T) te σ H B l := fun H1 e Q q => h H1 e Q fun p xs H2 N e2 e3 f h1 h2 h3 h4 h5 => by
  have f' : Fr H1 (sing p (.lst xs)) := sing_fr h1
  have fU : Fr H1 (uni N (sing p (.lst xs))) := uni_fr f f'
  have d : ∀ a, (sing p (.lst xs)) a ≠ none → N a = none := fun a ha => by
    by_cases z : a = p
    · subst z; exact h2
    · exact absurd (sing_ne z) ha
  exact q (.ref p) H2 (uni N (sing p (.lst xs))) e2 (uni_ex e3 (sing_ex h3)) fU ⟨p, xs, rfl, uni_r _ _ (uni_r _ _ sing_at), paired_up (uni_up2 (uni_l d) (eB.trans e) fU) h4, h5⟩
theorem en_flt [F : Flt T] (h : Edn T te σ H B l) : Edn T te σ H B' l := fun H1 e Q q => h H1 e Q fun p xs H2 N e2 e3 f h1 h2 h3 h4 h5 => q p xs H2 N e2 e3 f h1 h2 h3 (paired_any h4) h5
theorem en_lst (eB : Ex B H) (h : EvBs tr σ H B (l.map fun x => ⟨T, x⟩)) (hl : l.length ≤ 1000) : Edn T (tLst tr) σ H B l := fun H1 e Q q =>
  h H1 e _ fun vs H2 N e2 e3 f p => ⟨sz_of (by rw [p.len, List.length_map]; omega), fun r hr => q r vs _ N (e2.trans (Ex.new hr)) (e3.trans (Ex.new hr)) f (fresh_back e2 hr) (ex_none e3 hr) upd_same (argsL p) (by omega)⟩
theorem en_list (h : Ed (tL K T) te σ H B l) (eB : Ex B H) : Edn T (tCB (rListS K) (tCons te tNil)) σ H B l := fun H1 e Q q =>
  h H1 e _ fun v H2 N e2 e3 f ⟨p, xs, ev, g1, g2, hl0⟩ => by
    subst ev
    exact ⟨p, xs, rfl, .inl (ex_l (uni_ex ((eB.trans e).trans e2) e3) g1), fun r hr => q r xs _ N (e2.trans (Ex.new hr)) (e3.trans (Ex.new hr)) f (fresh_back e2 hr) (ex_none e3 hr) upd_same g2 hl0⟩
/-- list(a tuple) -/
theorem en_list4 {z : T4 α α α α} [F : Flt T] (h : Ed (tT4 K T T T T) te σ H B z) (eB : Ex B H) : Edn T (tCB (rListS K) (tCons te tNil)) σ H B' [z.a, z.b, z.c, z.d] := fun H1 e Q q =>
  h H1 e _ fun v H2 N e2 e3 f ⟨p, a, b, c, d, ev, g1, g2, g3, g4, g5⟩ => by
    subst ev
    exact ⟨p, _, rfl, .inr (ex_t (uni_ex ((eB.trans e).trans e2) e3) g1), fun r hr => q r _ _ N (e2.trans (Ex.new hr)) (e3.trans (Ex.new hr)) f (fresh_back e2 hr) (ex_none e3 hr) upd_same (.cons (F.any g2) (.cons (F.any g3) (.cons (F.any g4) (.cons (F.any g5) .nil)))) (Nat.le_of_ble_eq_true rfl)⟩
theorem en_sl {tl th : TO} {lo hi : Option Int} (h : Ed (tL K T) te σ H B l) (h1 : EvO tl σ H lo) (h2 : EvO th σ H hi) (eB : Ex B H) : Edn T (tSl (rSlU K) te tl th) σ H B (cutI l lo hi) := fun H1 e Q q =>
  h H1 e _ fun v H2 N e2 e3 f ⟨p, xs, ev, g1, g2, hl0⟩ => h1 H2 (e.trans e2) _ fun H3 e4 => h2 H3 ((e.trans e2).trans e4) _ fun H4 e5 => by
    subst ev
    have e6 := e4.trans e5
    exact .inl (.inl ⟨p, xs, rfl, ex_l ((uni_ex ((eB.trans e).trans e2) e3).trans e6) g1, fun r hr => q r _ _ N ((e2.trans e6).trans (Ex.new hr)) ((e3.trans e6).trans (Ex.new hr)) f (fresh_back (e2.trans e6) hr) (ex_none (e3.trans e6) hr) upd_same (paired_cut g2) (Nat.le_trans (cut_le _ _ _) hl0)⟩)
end
/-! ### what is walked -/
/-- wi draws the items l into the target g; Z B y σ σ': the slots σ' behind drawing y -/
def Dr {ι : Type} (wi : TI) (g : TG) (σ : L2.St) (H B : Hp) (l : List ι) (Z : Hp → ι → L2.St → L2.St → Prop) : Prop := ∀ H1, Ex H H1 → ∀ R : L2.It → Hp → Prop, (∀ J H2 N, Ex H1 H2 → Ex N H2 → Fr H1 N → l.length ≤ 40000 →
  (∀ i H', Ex (uni B N) H' → i < l.length → J.go i H') → (∀ H', Ex (uni B N) H' → J.stop l.length H') →
  (∀ i y H' x H'', Ex (uni B N) H' → l[i]? = some y → J.yld i H' x H'' → Ex H' H'' ∧ ∀ σ' (Q : L2.St → Hp → Prop), (∀ σ2, Z (uni B N) y σ' σ2 → Q σ2 H'') → g x σ' H'' Q) → R J H2) → wi σ H1 R
section
variable {K : PySem.W.Frag} {mg : Str → Option Value} {σ : L2.St} {H B M G : Hp} {ta tb te tx ti tl : TE} {tr : TA} {t u : TT} {v w : V} {P P' : Hp → V → Prop} {Ns : List Hp} {D : Ends} {tu tz : TS} {wi : TI} {g : TG} {α β ι : Type} {T : Tp α} {S : Tp β} {l : List α} {Z : Hp → ι → L2.St → L2.St → Prop}
theorem get_lt {x : α} {i : Nat} (h : l[i]? = some x) : i < l.length := (List.getElem?_eq_some_iff.mp h).1
theorem dr_list {Z : Hp → α → L2.St → L2.St → Prop} (h : Ed (tL K T) tl σ H B l) (eB : Ex B H) (hz : ∀ G x y H', Ex G H' → T.R G x y → ∀ σ' (Q : L2.St → Hp → Prop), (∀ σ2, Z G y σ' σ2 → Q σ2 H') → g x σ' H' Q) : Dr (iList K tl) g σ H B l Z := fun H1 e R q =>
  h H1 e _ fun v H2 N e2 e3 f ⟨p, xs, ev, h1, h2, hl0⟩ => by
    have eU : Ex (uni B N) H2 := uni_ex ((eB.trans e).trans e2) e3
    have d := drw_list (K := K) h1
    rw [Paired.length h2] at d
    exact ⟨p, ev, ⟨xs, ex_l eU h1⟩, q _ H2 N e2 e3 f hl0 d.go d.stop fun i y H' x H'' eH hi hy => by
      obtain ⟨g1, g2⟩ := d.yld i H' x H'' eH (get_lt hi) hy
      obtain ⟨w, g3, g4⟩ := paired_at h2 hi
      rw [g3] at g2
      cases g2
      exact ⟨g1, hz _ _ _ _ (eH.trans g1) g4⟩⟩
def enumI {α : Type} (l : List α) : List (Int × α) := l.zipIdx.map fun p => ((p.2 : Int), p.1)
theorem dr_enum {Z : Hp → Int × α → L2.St → L2.St → Prop} (h : Ed (tL K T) tl σ H B l) (eB : Ex B H) (hz : ∀ G (i : Nat) a x y H', Ex G H' → T.R G x y → H' a = some (.tup [.int (i : Nat), x]) → ∀ σ' (Q : L2.St → Hp → Prop), (∀ σ2, Z G ((i : Nat), y) σ' σ2 → Q σ2 H') → g (.ref a) σ' H' Q) :
    Dr (iEnum K (tCons tl tNil)) g σ H B (enumI l) Z := fun H1 e R q =>
  h H1 e _ fun v H2 N e2 e3 f ⟨p, xs, ev, h1, h2, hl0⟩ => by
    subst ev
    have eU : Ex (uni B N) H2 := uni_ex ((eB.trans e).trans e2) e3
    have d := drw_enum (K := K) h1
    have hl : (enumI l).length = xs.length := by rw [enumI, List.length_map, List.length_zipIdx, Paired.length h2]
    refine ⟨p, xs, rfl, ex_l eU h1, q _ H2 N e2 e3 f (by rw [hl, Paired.length h2]; exact hl0) (fun i H' eH hi => d.go i H' eH (by rw [← hl]; exact hi)) (fun H' eH => by rw [hl]; exact d.stop H' eH) fun i y H' x H'' eH hi hy => ?_⟩
    obtain ⟨g1, T0, w, rfl, g2, g3⟩ := d.yld i H' x H'' eH (by rw [← hl]; exact get_lt hi) hy
    rw [enumI, List.getElem?_map, List.getElem?_zipIdx] at hi
    cases hli : l[i]? with
    | none => rw [hli] at hi; cases hi
    | some z =>
      rw [hli] at hi
      cases hi
      obtain ⟨w', g4, g5⟩ := paired_at h2 hli
      rw [g4] at g3
      cases g3
      have e0 : ((0 + i : Nat) : Int) = ((i : Nat) : Int) := by omega
      refine ⟨g1, fun σ' Q hQ => hz _ i T0 _ _ _ (eH.trans g1) g5 g2 σ' Q fun σ2 hz2 => hQ σ2 ?_⟩
      show Z _ (((0 + i : Nat) : Int), _) _ _
      rw [e0]
      exact hz2
def rngI (n : Int) : List Int := (List.range n.toNat).map fun (i : Nat) => (i : Int)
def rngI2 (a b : Int) : List Int := (List.range (b - a).toNat).map fun (i : Nat) => a + (i : Int)
theorem dr_rng {Z : Hp → Int → L2.St → L2.St → Prop} {n : Int} (h : Ev te σ H (.int n)) (hn : -1000000 ≤ n ∧ n ≤ 40000) (hz : ∀ G y H' σ' (Q : L2.St → Hp → Prop), (∀ σ2, Z G y σ' σ2 → Q σ2 H') → g (.int y) σ' H' Q) : Dr (iRng1 (tCons te tNil)) g σ H B (rngI n) Z := fun H1 e R q =>
  h H1 e _ fun H2 e2 => by
    have hl : (rngI n).length = n.toNat := by simp [rngI]
    have d := drw_rng (G := uni B emp) (lo := 0) (n := n.toNat)
    refine ⟨n, rfl, by omega, by omega, q _ H2 emp e2 emp_ex emp_fr (by rw [hl]; omega) (fun i H' eH hi => d.go i H' eH (by rw [← hl]; exact hi)) (fun H' eH => by rw [hl]; exact d.stop H' eH) fun i y H' x H'' eH hi hy => ?_⟩
    have hlt : i < n.toNat := by rw [← hl]; exact get_lt hi
    obtain ⟨g1, g2⟩ := d.yld i H' x H'' eH hlt hy
    unfold rngI at hi
    rw [List.getElem?_map, List.getElem?_range hlt] at hi
    cases hi
    subst g2
    have e0 : (0 : Int) + (i : Nat) = (i : Nat) := by omega
    rw [e0]
    exact ⟨g1, hz _ _ _⟩
theorem dr_rng2 {Z : Hp → Int → L2.St → L2.St → Prop} {a b : Int} (h : Ev ta σ H (.int a)) (h' : Ev tb σ H (.int b)) (hn : (-1000000 ≤ a ∧ a ≤ 1000000) ∧ -1000000 ≤ b ∧ b ≤ 1000000 ∧ b - a ≤ 40000) (hz : ∀ G y H' σ' (Q : L2.St → Hp → Prop), (∀ σ2, Z G y σ' σ2 → Q σ2 H') → g (.int y) σ' H' Q) : Dr (iRng2 (tCons ta (tCons tb tNil))) g σ H B (rngI2 a b) Z := fun H1 e R q =>
  h H1 e _ fun H2 e2 => h' H2 (e.trans e2) _ fun H3 e3 => by
    have hl : (rngI2 a b).length = (b - a).toNat := by simp [rngI2]
    have d := drw_rng (G := uni B emp) (lo := a) (n := (b - a).toNat)
    refine ⟨a, b, rfl, ⟨by omega, by omega, by omega, by omega⟩, q _ H3 emp (e2.trans e3) emp_ex emp_fr (by rw [hl]; omega) (fun i H' eH hi => d.go i H' eH (by rw [← hl]; exact hi)) (fun H' eH => by rw [hl]; exact d.stop H' eH) fun i y H' x H'' eH hi hy => ?_⟩
    have hlt : i < (b - a).toNat := by rw [← hl]; exact get_lt hi
    obtain ⟨g1, g2⟩ := d.yld i H' x H'' eH hlt hy
    unfold rngI2 at hi
    rw [List.getElem?_map, List.getElem?_range hlt] at hi
    cases hi
    subst g2
    exact ⟨g1, hz _ _ _⟩
/-! ### loops -/
theorem for_dr {J : L2.It} {l : List ι} (hgo : ∀ i H', Ex B H' → i < l.length → J.go i H') (hstop : ∀ H', Ex B H' → J.stop l.length H') (hyld : ∀ i y H' x H'', Ex B H' → l[i]? = some y → J.yld i H' x H'' → Ex H' H'' ∧ ∀ σ' (Q : L2.St → Hp → Prop), (∀ σ2, Z B y σ' σ2 → Q σ2 H'') → g x σ' H'' Q)
    (Pv : Nat → L2.St → Hp → Prop) (h0 : Pv 0 σ H) (hG : ∀ i σ' H', Pv i σ' H' → Ex B H') (hs : ∀ i y σ' H' H'' σ2, l[i]? = some y → Pv i σ' H' → Ex H' H'' → Z B y σ' σ2 → tu { D with nx := Pv (i + 1), ct := Pv (i + 1), bk := D.nx } σ2 H'') (hd : ∀ σ' H', Pv l.length σ' H' → D.nx σ' H') :
    ∃ W : Nat → Nat → L2.St → Hp → Prop, (∃ m, W 0 m σ H) ∧ ∀ i m σ H, W i m σ H →
      (J.stop i H ∧ D.nx σ H) ∨ (J.go i H ∧ ∃ N : L2.St → Hp → Prop, (∀ σ' H', N σ' H' → ∃ m', m' < m ∧ W (i + 1) m' σ' H') ∧ ∀ x H', J.yld i H x H' → g x σ H' fun σ2 H2 => tu { D with nx := N, ct := N, bk := D.nx } σ2 H2) := by
  refine ⟨fun i m σ H => m = l.length - i ∧ i ≤ l.length ∧ Pv i σ H, ⟨l.length, by simp, Nat.zero_le _, h0⟩, ?_⟩
  rintro i m σ H ⟨rfl, hi, p⟩
  have eG := hG i σ H p
  by_cases hlt : i < l.length
  · refine .inr ⟨hgo i H eG hlt, Pv (i + 1), fun σ' H' p' => ⟨l.length - (i + 1), by omega, rfl, hlt, p'⟩, fun x H' y => ?_⟩
    obtain ⟨e, y⟩ := hyld i l[i] H x H' eG (List.getElem?_eq_getElem hlt) y
    exact y σ _ fun σ2 hz => hs i l[i] σ H H' σ2 (List.getElem?_eq_getElem hlt) p e hz
  · have e : i = l.length := by omega
    subst e
    exact .inl ⟨hstop H eG, hd σ H p⟩
/-- .. over something new or flat; M: what is new -/
theorem s_fo {l : List ι} (o : Own (M :: G :: Ns) H) (hr : Dr wi g σ H M l Z) (Pv : Hp → Nat → L2.St → Hp → Prop) (h0 : ∀ M1 H1, Ex M M1 → Own (M1 :: G :: Ns) H1 → Pv M1 0 σ H1) (hG : ∀ M1 i σ' H', Ex M M1 → Pv M1 i σ' H' → Ex M1 H')
    (hs : ∀ M1 i y σ' H' H'' σ2, Ex M M1 → l[i]? = some y → Pv M1 i σ' H' → Ex H' H'' → Z M1 y σ' σ2 → tu { D with nx := Pv M1 (i + 1), ct := Pv M1 (i + 1), bk := D.nx } σ2 H'') (hd : ∀ M1 σ' H', Ex M M1 → Pv M1 l.length σ' H' → D.nx σ' H') : tFor wi g tu D σ H :=
  hr H (Ex.refl H) _ fun J H1 N e e2 f _ g1 g2 g3 => by
    have o1 : Own (uni M N :: G :: Ns) H1 := (o.add e e2 f).merge
    have eM : Ex M (uni M N) := uni_exl o.e0 f
    exact for_dr g1 g2 g3 (Pv (uni M N)) (h0 _ H1 eM o1) (fun i σ' H' p => hG _ i σ' H' eM p) (fun i y σ' H' H'' σ2 => hs _ i y σ' H' H'' σ2 eM) (fun σ' H' p => hd _ σ' H' eM p)
/-- .. over anything -/
theorem s_fu {l : List ι} (o : Own (M :: G :: Ns) H) (hr : Dr wi g σ H (uni G M) l Z) (Pv : Hp → Nat → L2.St → Hp → Prop) (h0 : ∀ M1 H1, Ex M M1 → Own (M1 :: G :: Ns) H1 → Pv M1 0 σ H1) (hG : ∀ M1 i σ' H', Ex M M1 → Pv M1 i σ' H' → Ex (uni G M1) H')
    (hs : ∀ M1 i y σ' H' H'' σ2, Ex M M1 → l[i]? = some y → Pv M1 i σ' H' → Ex H' H'' → Z (uni G M1) y σ' σ2 → tu { D with nx := Pv M1 (i + 1), ct := Pv M1 (i + 1), bk := D.nx } σ2 H'') (hd : ∀ M1 σ' H', Ex M M1 → Pv M1 l.length σ' H' → D.nx σ' H') : tFor wi g tu D σ H :=
  hr H (Ex.refl H) _ fun J H1 N e e2 f _ g1 g2 g3 => by
    have o1 : Own (uni M N :: G :: Ns) H1 := (o.add e e2 f).merge
    have eM : Ex M (uni M N) := uni_exl o.e0 f
    rw [uni_ass] at g1 g2 g3
    exact for_dr g1 g2 g3 (Pv (uni M N)) (h0 _ H1 eM o1) (fun i σ' H' p => hG _ i σ' H' eM p) (fun i y σ' H' H'' σ2 => hs _ i y σ' H' H'' σ2 eM) (fun σ' H' p => hd _ σ' H' eM p)
theorem q_fo {l : List ι} (o : Own (M :: G :: Ns) H) (hr : Dr wi g σ H M l Z) (Pv : Hp → Nat → L2.St → Hp → Prop) (h0 : ∀ M1 H1, Ex M M1 → Own (M1 :: G :: Ns) H1 → Pv M1 0 σ H1) (hG : ∀ M1 i σ' H', Ex M M1 → Pv M1 i σ' H' → Ex M1 H')
    (hs : ∀ M1 i y σ' H' H'' σ2, Ex M M1 → l[i]? = some y → Pv M1 i σ' H' → Ex H' H'' → Z M1 y σ' σ2 → tu { D with nx := Pv M1 (i + 1), ct := Pv M1 (i + 1), bk := tz D } σ2 H'') (hd : ∀ M1 σ' H', Ex M M1 → Pv M1 l.length σ' H' → tz D σ' H') : tSeq (tFor wi g tu) tz D σ H := s_fo (D := { D with nx := tz D }) o hr Pv h0 hG hs hd
theorem q_fu {l : List ι} (o : Own (M :: G :: Ns) H) (hr : Dr wi g σ H (uni G M) l Z) (Pv : Hp → Nat → L2.St → Hp → Prop) (h0 : ∀ M1 H1, Ex M M1 → Own (M1 :: G :: Ns) H1 → Pv M1 0 σ H1) (hG : ∀ M1 i σ' H', Ex M M1 → Pv M1 i σ' H' → Ex (uni G M1) H')
    (hs : ∀ M1 i y σ' H' H'' σ2, Ex M M1 → l[i]? = some y → Pv M1 i σ' H' → Ex H' H'' → Z (uni G M1) y σ' σ2 → tu { D with nx := Pv M1 (i + 1), ct := Pv M1 (i + 1), bk := tz D } σ2 H'') (hd : ∀ M1 σ' H', Ex M M1 → Pv M1 l.length σ' H' → tz D σ' H') : tSeq (tFor wi g tu) tz D σ H := s_fu (D := { D with nx := tz D }) o hr Pv h0 hG hs hd
/-! ### comprehensions -/
theorem en_lc {l : List ι} {vs : List Nat} (hr : Dr wi g σ H B l Z) (eB : Ex B H) (f : ι → Bool) (m : ι → β) (hw : ∀ G y σ2, Z G y (wipe σ vs) σ2 → wipe σ2 vs = wipe σ vs)
    (ht : ∀ G y σ2 H1, Ex B G → Ex G H1 → Ex H H1 → y ∈ l → Z G y (wipe σ vs) σ2 → EvT t σ2 H1 (f y)) (he : ∀ G y σ2 H1, Ex B G → Ex G H1 → Ex H H1 → y ∈ l → f y = true → Z G y (wipe σ vs) σ2 → Ed S te σ2 H1 G (m y)) (zu : ∀ G G' y σ2, Ex G G' → Z G y (wipe σ vs) σ2 → Z G' y (wipe σ vs) σ2) :
    Edn S (tLc wi g t te vs) σ H B ((l.filter f).map m) := fun H1 e Q q =>
  hr H1 e _ fun J H2 N e2 e3 fN hn g1 g2 g3 Dl hD => by
    have eB2 : Ex B H2 := (eB.trans e).trans e2
    have eU : Ex (uni B N) H2 := uni_ex eB2 e3
    refine ⟨fun i k H' => k = l.length - i ∧ i ≤ l.length ∧ ∃ (N' : Hp) (xs : List V), Own [sing Dl (.lst xs), N', H2] H' ∧ Paired (S.R (uni (uni B N) N')) xs (((l.take i).filter f).map m), ⟨l.length, by simp, Nat.zero_le _, emp, [], ⟨sing_ex upd_same, fun M hM a ha => ?_, emp_ex, (fun _ _ a ha => absurd rfl ha), Ex.new hD, (fun _ h => nomatch h), trivial⟩, .nil⟩, ?_⟩
    · rcases List.mem_cons.mp hM with z | z
      · subst z; rfl
      · have z : M = H2 := by simpa using z
        subst z
        by_cases qa : a = Dl
        · subst qa; exact hD
        · exact absurd (sing_ne qa) ha
    rintro i k H' ⟨rfl, hi, N', xs, o, pr⟩
    have eB' : Ex (uni B N) H' := eU.trans o.e2
    have hlen : (((l.take i).filter f).map m).length ≤ 50000 := by
      rw [List.length_map]
      have := List.length_filter_le f (l.take i)
      rw [List.length_take] at this
      omega
    by_cases hlt : i < l.length
    · have hli : l[i]? = some l[i] := List.getElem?_eq_getElem hlt
      have hmem : l[i] ∈ l := List.getElem_mem hlt
      have htk : l.take (i + 1) = l.take i ++ [l[i]] := (List.take_append_getElem hlt).symm
      refine .inr ⟨g1 i H' eB' hlt, _, fun H3 p => p, fun x H3 hy => ?_⟩
      obtain ⟨e4, hy⟩ := g3 i l[i] H' x H3 eB' hli hy
      refine hy _ _ fun σ2 hz => ⟨hw _ _ _ hz, ?_⟩
      have o3 := o.mono e4
      have dj : Fr H2 N' := o3.dj (i := 1) (j := 2) (by decide) rfl rfl
      have eG : Ex (uni (uni B N) N') H3 := uni_ex (eU.trans o3.e2) o3.e1
      have eBG : Ex (uni B N) (uni (uni B N) N') := uni_exl eU dj
      have eBB : Ex B (uni (uni B N) N') := (uni_exl (eB.trans e) fN).trans eBG
      have hz' := zu _ _ _ _ eBG hz
      refine ht _ _ σ2 H3 eBB eG ((e.trans e2).trans o3.e2) hmem hz' H3 (Ex.refl _) _ fun H4 e5 => ?_
      cases hf : f l[i] with
      | false =>
        show ∃ _, _
        refine ⟨l.length - (i + 1), by omega, rfl, hlt, N', xs, o3.mono e5, ?_⟩
        rw [htk, List.filter_append, List.filter_cons, if_neg (by rw [hf]; decide)]
        simpa using pr
      | true =>
        show te σ2 H4 _
        refine he _ _ σ2 H4 eBB (eG.trans e5) (((e.trans e2).trans o3.e2).trans e5) hmem hf hz' H4 (Ex.refl _) _ fun y H5 N2 e6 e7 f2 p => ?_
        have o5 : Own [N2, sing Dl (.lst xs), N', H2] H5 := (o3.mono e5).add e6 e7 f2
        refine ⟨xs, o5.at (j := 1) rfl, by rw [Paired.length pr]; exact sz_lt (by omega), l.length - (i + 1), by omega, rfl, hlt, uni N' N2, xs ++ [y], ?_, ?_⟩
        · have o6 : Own [N2, sing Dl (.lst (xs ++ [y])), N', H2] (upd H5 Dl (.lst (xs ++ [y]))) := o5.set (j := 1) rfl
          exact own_merge2 o6.swap
        · rw [htk, List.filter_append, List.filter_cons, if_pos hf, List.map_append]
          have e8 : Ex (uni (uni B N) N') (uni (uni B N) (uni N' N2)) := by
            rw [← uni_ass]
            exact uni_exl (eG.trans e5) f2
          refine paired_app' (paired_up e8 pr) (.cons ?_ .nil)
          rw [← uni_ass]
          exact p
    · have ei : i = l.length := by omega
      subst ei
      rw [List.take_length] at pr
      refine .inl ⟨g2 H' eB', ?_⟩
      have dj : Fr H2 N' := o.dj (i := 1) (j := 2) (by decide) rfl rfl
      have hN : N' Dl = none := (o.dj (i := 0) (j := 1) (by decide) rfl rfl) Dl (by rw [sing_at]; exact fun z => nomatch z)
      refine q Dl xs H' (uni N N') (e2.trans o.e2) (uni_ex (e3.trans o.e2) o.e1) (uni_fr fN (dj.back e2)) (fresh_back e2 hD) ?_ (o.at (j := 0) rfl) ?_ (by rw [List.length_map]; exact Nat.le_trans (List.length_filter_le _ _) hn)
      · unfold uni
        rw [hN]
        exact ex_none e3 hD
      · rw [← uni_ass]
        exact pr
theorem ed_lc {l : List ι} {vs : List Nat} (hr : Dr wi g σ H B l Z) (eB : Ex B H) (f : ι → Bool) (m : ι → β) (hw : ∀ G y σ2, Z G y (wipe σ vs) σ2 → wipe σ2 vs = wipe σ vs)
    (ht : ∀ G y σ2 H1, Ex B G → Ex G H1 → Ex H H1 → y ∈ l → Z G y (wipe σ vs) σ2 → EvT t σ2 H1 (f y)) (he : ∀ G y σ2 H1, Ex B G → Ex G H1 → Ex H H1 → y ∈ l → f y = true → Z G y (wipe σ vs) σ2 → Ed S te σ2 H1 G (m y)) (zu : ∀ G G' y σ2, Ex G G' → Z G y (wipe σ vs) σ2 → Z G' y (wipe σ vs) σ2) :
    Ed (tW S) (tLc wi g t te vs) σ H B ((l.filter f).map m) := ed_of_n eB (en_lc hr eB f m hw ht he zu)
theorem en_lcA {l : List ι} {vs : List Nat} (hr : Dr wi g σ H B l Z) (eB : Ex B H) (m : ι → β) (hw : ∀ G y σ2, Z G y (wipe σ vs) σ2 → wipe σ2 vs = wipe σ vs) (he : ∀ G y σ2 H1, Ex B G → Ex G H1 → Ex H H1 → y ∈ l → Z G y (wipe σ vs) σ2 → Ed S te σ2 H1 G (m y)) (zu : ∀ G G' y σ2, Ex G G' → Z G y (wipe σ vs) σ2 → Z G' y (wipe σ vs) σ2) :
    Edn S (tLc wi g tYes te vs) σ H B (l.map m) := by
  have h := en_lc (t := tYes) hr eB (fun _ => true) m hw (fun _ _ _ _ _ _ _ _ _ => et_yes) (fun G y σ2 H1 a b c d _ e => he G y σ2 H1 a b c d e) zu
  rw [filter_all] at h
  exact h
theorem ed_lcA {l : List ι} {vs : List Nat} (hr : Dr wi g σ H B l Z) (eB : Ex B H) (m : ι → β) (hw : ∀ G y σ2, Z G y (wipe σ vs) σ2 → wipe σ2 vs = wipe σ vs) (he : ∀ G y σ2 H1, Ex B G → Ex G H1 → Ex H H1 → y ∈ l → Z G y (wipe σ vs) σ2 → Ed S te σ2 H1 G (m y)) (zu : ∀ G G' y σ2, Ex G G' → Z G y (wipe σ vs) σ2 → Z G' y (wipe σ vs) σ2) :
    Ed (tW S) (tLc wi g tYes te vs) σ H B (l.map m) := ed_of_n eB (en_lcA hr eB m hw he zu)
theorem rngI_get {n y : Int} {i : Nat} : (rngI n)[i]? = some y ↔ y = (i : Int) ∧ (i : Int) < n := by
  unfold rngI
  rw [List.getElem?_map]
  by_cases h : i < n.toNat
  · rw [List.getElem?_range h]
    constructor
    · intro e
      cases e
      exact ⟨rfl, by omega⟩
    · rintro ⟨rfl, _⟩
      rfl
  · rw [List.getElem?_eq_none (by simpa using h)]
    constructor
    · intro e
      cases e
    · rintro ⟨_, _⟩
      omega
theorem rngI2_get {a b y : Int} {i : Nat} : (rngI2 a b)[i]? = some y ↔ y = a + (i : Int) ∧ a + (i : Int) < b := by
  unfold rngI2
  rw [List.getElem?_map]
  by_cases h : i < (b - a).toNat
  · rw [List.getElem?_range h]
    constructor
    · intro e
      cases e
      exact ⟨rfl, by omega⟩
    · rintro ⟨rfl, _⟩
      rfl
  · rw [List.getElem?_eq_none (by simpa using h)]
    constructor
    · intro e
      cases e
    · rintro ⟨_, _⟩
      omega
theorem enumI_get {y : Int × α} {i : Nat} : (enumI l)[i]? = some y ↔ l[i]? = some y.2 ∧ y.1 = (i : Int) := by
  unfold enumI
  rw [List.getElem?_map, List.getElem?_zipIdx]
  cases h : l[i]? with
  | none => simp
  | some z =>
    obtain ⟨y1, y2⟩ := y
    simp
    constructor
    · rintro ⟨h1, h2⟩
      exact ⟨h2, h1.symm⟩
    · rintro ⟨h1, h2⟩
      exact ⟨h2.symm, h1⟩
theorem rngI_len {n : Int} : (rngI n).length = n.toNat := by simp [rngI]
theorem rngI2_len {a b : Int} : (rngI2 a b).length = (b - a).toNat := by simp [rngI2]
theorem enumI_len : (enumI l).length = l.length := by simp [enumI]
theorem rngI_mem {n y : Int} : y ∈ rngI n ↔ 0 ≤ y ∧ y < n := by
  rw [List.mem_iff_getElem?]
  constructor
  · rintro ⟨i, h⟩
    obtain ⟨h1, h2⟩ := rngI_get.mp h
    omega
  · rintro ⟨h1, h2⟩
    exact ⟨y.toNat, rngI_get.mpr ⟨by omega, by omega⟩⟩
theorem rngI2_mem {a b y : Int} : y ∈ rngI2 a b ↔ a ≤ y ∧ y < b := by
  rw [List.mem_iff_getElem?]
  constructor
  · rintro ⟨i, h⟩
    obtain ⟨h1, h2⟩ := rngI2_get.mp h
    omega
  · rintro ⟨h1, h2⟩
    exact ⟨(y - a).toNat, rngI2_get.mpr ⟨by omega, by omega⟩⟩
theorem enumI_mem {y : Int × α} : y ∈ enumI l ↔ ∃ i : Nat, l[i]? = some y.2 ∧ y.1 = (i : Int) := by
  rw [List.mem_iff_getElem?]
  constructor
  · rintro ⟨i, h⟩
    exact ⟨i, enumI_get.mp h⟩
  · rintro ⟨i, h⟩
    exact ⟨i, enumI_get.mpr h⟩
end
end Kj

/-! Kj13: statements over kinds. M: what is new since the def began, G: what was there. -/
namespace Kj
open PySem PySem.Spec PyProof.Rows L2 Evl
section
variable {M M1 G H H1 : Hp} {Ns : List Hp}
theorem Own.uu (o : Own (M1 :: G :: Ns) H1) (e : Ex M M1) : Ex (uni G M) (uni G M1) := fun a u h => by
  unfold uni at h ⊢
  cases q : M a with
  | some z =>
    rw [q] at h
    cases h
    rw [e _ _ q]
  | none =>
    rw [q] at h
    cases q1 : M1 a with
    | none => exact h
    | some z =>
      have := o.2.1 G List.mem_cons_self a (by rw [q1]; exact fun z => nomatch z)
      rw [this] at h
      cases h
theorem Own.ug (o : Own (M :: G :: Ns) H) : Ex G (uni G M) := uni_l fun a ha => o.2.1 G List.mem_cons_self a ha
theorem Own.uh (o : Own (M :: G :: Ns) H) : Ex (uni G M) H := uni_ex o.e1 o.e0
theorem Own.init (H : Hp) : Own [emp, H] H := ⟨emp_ex, (fun _ _ a ha => absurd rfl ha), Own.one H⟩
theorem Own.rot {N : Hp} (o : Own (N :: M :: G :: Ns) H) : Own (M :: G :: N :: Ns) H := by
  have o2 : Own (M :: N :: G :: Ns) H := o.swap
  exact ⟨o2.1, fun M' hM' => by
    rcases List.mem_cons.mp hM' with z | z
    · subst z; exact o2.2.1 M' (List.mem_cons_of_mem _ List.mem_cons_self)
    · rcases List.mem_cons.mp z with z | z
      · subst z; exact o2.2.1 M' List.mem_cons_self
      · exact o2.2.1 M' (List.mem_cons_of_mem _ (List.mem_cons_of_mem _ z)), o2.2.2.swap⟩
theorem Own.exO (o : Own (M :: G :: Ns) H) {N : Hp} {j : Nat} (h : Ns[j]? = some N) : Ex N H := o.ix (i := j + 2) h
theorem Own.setO {l : Addr} {u u' : HO} {j : Nat} (o : Own (M :: G :: Ns) H) (h : Ns[j]? = some (sing l u)) : Own (M :: G :: Ns.set j (sing l u')) (upd H l u') := Own.set (j := j + 2) o h
/-- what was one's own becomes common -/
theorem Own.join {N : Hp} {j : Nat} (o : Own (M :: G :: Ns) H) (h : Ns[j]? = some N) : Own (uni M N :: G :: Ns.eraseIdx j) H := by
  have o2 : Own (N :: M :: G :: Ns.eraseIdx j) H := Own.pull (i := j + 2) o h
  exact o2.merge
theorem Own.joinE {N : Hp} {j : Nat} (o : Own (M :: G :: Ns) H) (h : Ns[j]? = some N) : Ex M (uni M N) := by
  have o2 : Own (N :: M :: G :: Ns.eraseIdx j) H := Own.pull (i := j + 2) o h
  exact uni_l fun a ha => o2.2.1 M List.mem_cons_self a ha
end
section
variable {K : PySem.W.Frag} {mg : Str → Option Value} {σ : L2.St} {H M G : Hp} {ta tb te : TE} {tr : TA} {t : TT} {v : V} {P : Hp → V → Prop} {Ns : List Hp} {D : Ends} {tu tz : TS} {α β : Type} {T : Tp α} {S : Tp β} {l m : List α} {x : α} {xs : List V} {i j : Nat} {p : Addr}
/-! ### x = e -/
theorem s_b (o : Own (M :: G :: Ns) H) (h : EvB te σ H M P) (k : ∀ v M1 H1, Ex M M1 → Own (M1 :: G :: Ns) H1 → P M1 v → D.nx (σ.set i (some v)) H1) : tAsg te (gName i) D σ H := h H (Ex.refl H) _ fun v H1 N e e2 f p => k v (uni M N) H1 (uni_exl o.e0 f) (o.add e e2 f).merge p
theorem s_bu (o : Own (M :: G :: Ns) H) (h : EvB te σ H (uni G M) P) (k : ∀ v M1 H1, Ex M M1 → Own (M1 :: G :: Ns) H1 → P (uni G M1) v → D.nx (σ.set i (some v)) H1) : tAsg te (gName i) D σ H := h H (Ex.refl H) _ fun v H1 N e e2 f p => k v (uni M N) H1 (uni_exl o.e0 f) (o.add e e2 f).merge (by rw [uni_ass] at p; exact p)
theorem q_b (o : Own (M :: G :: Ns) H) (h : EvB te σ H M P) (k : ∀ v M1 H1, Ex M M1 → Own (M1 :: G :: Ns) H1 → P M1 v → tz D (σ.set i (some v)) H1) : tSeq (tAsg te (gName i)) tz D σ H := s_b (D := { D with nx := tz D }) o h k
theorem q_bu (o : Own (M :: G :: Ns) H) (h : EvB te σ H (uni G M) P) (k : ∀ v M1 H1, Ex M M1 → Own (M1 :: G :: Ns) H1 → P (uni G M1) v → tz D (σ.set i (some v)) H1) : tSeq (tAsg te (gName i)) tz D σ H := s_bu (D := { D with nx := tz D }) o h k
/-- a list that will be changed -/
theorem s_o (o : Own (M :: G :: Ns) H) (h : Edn T te σ H M l) (k : ∀ p xs M1 H1, Ex M M1 → Own (M1 :: G :: sing p (.lst xs) :: Ns) H1 → Paired (T.R M1) xs l → l.length ≤ 40000 → D.nx (σ.set i (some (.ref p))) H1) : tAsg te (gName i) D σ H := h H (Ex.refl H) _ fun p xs H1 N e e2 f h1 h2 h3 h4 h5 => k p xs (uni M N) H1 (uni_exl o.e0 f) (by
    have o1 : Own (uni M N :: G :: Ns) H1 := (o.add e e2 f).merge
    have d : ∀ M' ∈ uni M N :: G :: Ns, Dj (sing p (.lst xs)) M' := fun M' hM' a ha => by
      have z : a = p := Classical.byContradiction fun z => ha (sing_ne z)
      subst z
      rcases List.mem_cons.mp hM' with z | z
      · subst z
        unfold uni
        rw [h2]
        exact ex_none o.e0 h1
      · exact ex_none (o.exm (List.mem_cons_of_mem _ z)) h1
    have o2 : Own (sing p (.lst xs) :: uni M N :: G :: Ns) H1 := ⟨sing_ex h3, d, o1⟩
    exact o2.rot) h4 h5
theorem s_ou (o : Own (M :: G :: Ns) H) (h : Edn T te σ H (uni G M) l) (k : ∀ p xs M1 H1, Ex M M1 → Own (M1 :: G :: sing p (.lst xs) :: Ns) H1 → Paired (T.R (uni G M1)) xs l → l.length ≤ 40000 → D.nx (σ.set i (some (.ref p))) H1) : tAsg te (gName i) D σ H := h H (Ex.refl H) _ fun p xs H1 N e e2 f h1 h2 h3 h4 h5 => k p xs (uni M N) H1 (uni_exl o.e0 f) (by
    have o1 : Own (uni M N :: G :: Ns) H1 := (o.add e e2 f).merge
    have d : ∀ M' ∈ uni M N :: G :: Ns, Dj (sing p (.lst xs)) M' := fun M' hM' a ha => by
      have z : a = p := Classical.byContradiction fun z => ha (sing_ne z)
      subst z
      rcases List.mem_cons.mp hM' with z | z
      · subst z
        unfold uni
        rw [h2]
        exact ex_none o.e0 h1
      · exact ex_none (o.exm (List.mem_cons_of_mem _ z)) h1
    have o2 : Own (sing p (.lst xs) :: uni M N :: G :: Ns) H1 := ⟨sing_ex h3, d, o1⟩
    exact o2.rot) (by rw [uni_ass] at h4; exact h4) h5
theorem q_o (o : Own (M :: G :: Ns) H) (h : Edn T te σ H M l) (k : ∀ p xs M1 H1, Ex M M1 → Own (M1 :: G :: sing p (.lst xs) :: Ns) H1 → Paired (T.R M1) xs l → l.length ≤ 40000 → tz D (σ.set i (some (.ref p))) H1) : tSeq (tAsg te (gName i)) tz D σ H := s_o (D := { D with nx := tz D }) o h k
theorem q_ou (o : Own (M :: G :: Ns) H) (h : Edn T te σ H (uni G M) l) (k : ∀ p xs M1 H1, Ex M M1 → Own (M1 :: G :: sing p (.lst xs) :: Ns) H1 → Paired (T.R (uni G M1)) xs l → l.length ≤ 40000 → tz D (σ.set i (some (.ref p))) H1) : tSeq (tAsg te (gName i)) tz D σ H := s_ou (D := { D with nx := tz D }) o h k
/-! ### xs.append(e) -/
theorem s_ap (o : Own (M :: G :: Ns) H) (hj : Ns[j]? = some (sing p (.lst xs))) (hx : Paired (T.R M) xs l) (ha : Ev ta σ H (.ref p)) (h : Ed T te σ H M x) (hl : l.length < 40000) (k : ∀ v M1 H1, Ex M M1 → Own (M1 :: G :: Ns.set j (sing p (.lst (xs ++ [v])))) H1 → Paired (T.R M1) (xs ++ [v]) (l ++ [x]) → D.nx σ H1) : tDrop (tBM K "list" rAppend ta (tCons te tNil)) D σ H := ha H (Ex.refl H) _ fun H1 e1 =>
  ⟨Or.inl ⟨rfl, xs, sq_of (e1 p _ (o.exO hj _ _ sing_at))⟩, h H1 e1 _ fun v H2 N e2 e3 f q => by
    have o2 : Own (uni M N :: G :: Ns) H2 := ((o.mono e1).add e2 e3 f).merge
    have eM : Ex M (uni M N) := uni_exl (o.e0.trans e1) f
    exact ⟨p, xs, v, rfl, rfl, o2.exO hj _ _ sing_at, sz_lt (by rw [Paired.length hx]; omega), k v _ _ eM (o2.setO hj) (paired_app' (paired_up eM hx) (.cons q .nil))⟩⟩
theorem s_apu (o : Own (M :: G :: Ns) H) (hj : Ns[j]? = some (sing p (.lst xs))) (hx : Paired (T.R (uni G M)) xs l) (ha : Ev ta σ H (.ref p)) (h : Ed T te σ H (uni G M) x) (hl : l.length < 40000) (k : ∀ v M1 H1, Ex M M1 → Own (M1 :: G :: Ns.set j (sing p (.lst (xs ++ [v])))) H1 → Paired (T.R (uni G M1)) (xs ++ [v]) (l ++ [x]) → D.nx σ H1) : tDrop (tBM K "list" rAppend ta (tCons te tNil)) D σ H := ha H (Ex.refl H) _ fun H1 e1 =>
  ⟨Or.inl ⟨rfl, xs, sq_of (e1 p _ (o.exO hj _ _ sing_at))⟩, h H1 e1 _ fun v H2 N e2 e3 f q => by
    have o2 : Own (uni M N :: G :: Ns) H2 := ((o.mono e1).add e2 e3 f).merge
    have eM : Ex M (uni M N) := uni_exl (o.e0.trans e1) f
    rw [uni_ass] at q
    exact ⟨p, xs, v, rfl, rfl, o2.exO hj _ _ sing_at, sz_lt (by rw [Paired.length hx]; omega), k v _ _ eM (o2.setO hj) (paired_app' (paired_up (o2.uu eM) hx) (.cons q .nil))⟩⟩
theorem q_ap (o : Own (M :: G :: Ns) H) (hj : Ns[j]? = some (sing p (.lst xs))) (hx : Paired (T.R M) xs l) (ha : Ev ta σ H (.ref p)) (h : Ed T te σ H M x) (hl : l.length < 40000) (k : ∀ v M1 H1, Ex M M1 → Own (M1 :: G :: Ns.set j (sing p (.lst (xs ++ [v])))) H1 → Paired (T.R M1) (xs ++ [v]) (l ++ [x]) → tz D σ H1) : tSeq (tDrop (tBM K "list" rAppend ta (tCons te tNil))) tz D σ H := s_ap (D := { D with nx := tz D }) o hj hx ha h hl k
theorem q_apu (o : Own (M :: G :: Ns) H) (hj : Ns[j]? = some (sing p (.lst xs))) (hx : Paired (T.R (uni G M)) xs l) (ha : Ev ta σ H (.ref p)) (h : Ed T te σ H (uni G M) x) (hl : l.length < 40000) (k : ∀ v M1 H1, Ex M M1 → Own (M1 :: G :: Ns.set j (sing p (.lst (xs ++ [v])))) H1 → Paired (T.R (uni G M1)) (xs ++ [v]) (l ++ [x]) → tz D σ H1) : tSeq (tDrop (tBM K "list" rAppend ta (tCons te tNil))) tz D σ H := s_apu (D := { D with nx := tz D }) o hj hx ha h hl k
/-! ### xs[i] = e -/
theorem paired_set {R : V → α → Prop} {v : V} {x : α} (h : R v x) : ∀ {xs : List V} {l : List α} (n : Nat), Paired R xs l → Paired R (xs.set n v) (l.set n x)
  | _, _, _, .nil => .nil
  | _, _, 0, .cons _ r => .cons h r
  | _, _, n + 1, .cons a r => .cons a (paired_set h n r)
theorem s_si {ti : TE} {n : Int} (o : Own (M :: G :: Ns) H) (hj : Ns[j]? = some (sing p (.lst xs))) (hx : Paired (T.R M) xs l) (h : Ed T te σ H M x) (ha : Ev ta σ H (.ref p)) (hi : Ev ti σ H (.int n)) (hn : 0 ≤ n ∧ n < l.length) (k : ∀ xs' M1 H1, Ex M M1 → Own (M1 :: G :: Ns.set j (sing p (.lst xs'))) H1 → Paired (T.R M1) xs' (l.set n.toNat x) → D.nx σ H1) : tAsg te (gSub ta ti rSetL) D σ H := h H (Ex.refl H) _ fun v H1 N e1 e2 f q => ha H1 e1 _ fun H2 e3 => hi H2 (e1.trans e3) _ fun H3 e4 => by
  have o2 : Own (uni M N :: G :: Ns) H3 := (((o.add e1 e2 f).merge).mono e3).mono e4
  have eM : Ex M (uni M N) := uni_exl o.e0 f
  have en : ixN xs.length n = some n.toNat := by
    have : ((n.toNat : Nat) : Int) = n := by omega
    rw [← this]
    exact ixN_nat (by rw [Paired.length hx]; omega)
  exact ⟨p, xs, n, n.toNat, rfl, rfl, o2.exO hj _ _ sing_at, en, k _ _ _ eM (o2.setO hj) (paired_set q _ (paired_up eM hx))⟩
theorem q_si {ti : TE} {n : Int} (o : Own (M :: G :: Ns) H) (hj : Ns[j]? = some (sing p (.lst xs))) (hx : Paired (T.R M) xs l) (h : Ed T te σ H M x) (ha : Ev ta σ H (.ref p)) (hi : Ev ti σ H (.int n)) (hn : 0 ≤ n ∧ n < l.length) (k : ∀ xs' M1 H1, Ex M M1 → Own (M1 :: G :: Ns.set j (sing p (.lst xs'))) H1 → Paired (T.R M1) xs' (l.set n.toNat x) → tz D σ H1) : tSeq (tAsg te (gSub ta ti rSetL)) tz D σ H := s_si (D := { D with nx := tz D }) o hj hx h ha hi hn k
theorem s_aug' {a b : Int} (hx : σ[i]? = some (some (.int a))) (h : Ev te σ H (.int b)) (k : ∀ H1, Ex H H1 → D.nx (σ.set i (some (.int (a + b)))) H1) : tAug i te (ipI fun i j => i + j) D σ H := s_aug hx h k
theorem q_aug' {a b : Int} (hx : σ[i]? = some (some (.int a))) (h : Ev te σ H (.int b)) (k : ∀ H1, Ex H H1 → tz D (σ.set i (some (.int (a + b)))) H1) : tSeq (tAug i te (ipI fun i j => i + j)) tz D σ H := s_aug (D := { D with nx := tz D }) hx h k
theorem len_ofL {v : V} (h : (tL K T).R H v l) : l.length ≤ 40000 := by
  obtain ⟨_, _, _, _, _, h⟩ := h
  exact h
theorem len_ofW {v : V} (h : (tW T).R H v l) : l.length ≤ 40000 := by
  obtain ⟨_, _, _, _, _, h⟩ := h
  exact h
/-- xs, one's own, read -/
theorem own_rd (o : Own (M :: G :: Ns) H) (hj : Ns[j]? = some (sing p (.lst xs))) (hx : Paired (T.R M) xs l) (hl : l.length ≤ 40000) : (tW T).R H (.ref p) l := ⟨p, xs, rfl, o.exO hj _ _ sing_at, paired_up o.e0 hx, hl⟩
theorem own_rdu (o : Own (M :: G :: Ns) H) (hj : Ns[j]? = some (sing p (.lst xs))) (hx : Paired (T.R (uni G M)) xs l) (hl : l.length ≤ 40000) : (tW T).R H (.ref p) l := ⟨p, xs, rfl, o.exO hj _ _ sing_at, paired_up o.uh hx, hl⟩
/-- .. becomes common -/
theorem own_fz (o : Own (M :: G :: Ns) H) (hj : Ns[j]? = some (sing p (.lst xs))) (hx : Paired (T.R M) xs l) (hl : l.length ≤ 40000) : (tW T).R (uni M (sing p (.lst xs))) (.ref p) l := ⟨p, xs, rfl, uni_r _ _ sing_at, paired_up (o.joinE hj) hx, hl⟩
theorem own_fzu (o : Own (M :: G :: Ns) H) (hj : Ns[j]? = some (sing p (.lst xs))) (hx : Paired (T.R (uni G M)) xs l) (hl : l.length ≤ 40000) : (tW T).R (uni G (uni M (sing p (.lst xs)))) (.ref p) l := ⟨p, xs, rfl, uni_r _ _ (uni_r _ _ sing_at), paired_up ((o.join hj).uu (o.joinE hj)) hx, hl⟩
/-! ### a new thing that is changed and then forgotten -/
theorem s_t {P : Hp → V → Prop} (o : Own (M :: G :: Ns) H) (h : EvP te σ H P) (k : ∀ v N H1, Own (M :: G :: N :: Ns) H1 → P N v → D.nx (σ.set i (some v)) H1) : tAsg te (gName i) D σ H := h H (Ex.refl H) _ fun v H1 N e e2 f q => k v N H1 (o.add e e2 f).rot q
theorem q_t {P : Hp → V → Prop} (o : Own (M :: G :: Ns) H) (h : EvP te σ H P) (k : ∀ v N H1, Own (M :: G :: N :: Ns) H1 → P N v → tz D (σ.set i (some v)) H1) : tSeq (tAsg te (gName i)) tz D σ H := s_t (D := { D with nx := tz D }) o h k
/-- reading within a part -/
def EvX (te : TE) (σ : L2.St) (H : Hp) (P : V → Prop) : Prop := ∀ H1, Ex H H1 → ∀ Q : VK, (∀ v H2, Ex H1 H2 → P v → Q v H2) → te σ H1 Q
theorem ex_var {P : V → Prop} (h : σ[i]? = some (some v)) (f : P v) : EvX (tVar i) σ H P := fun H1 _ Q q => ⟨v, h, q v H1 (Ex.refl _) f⟩
theorem ex_ixT {N : Hp} {n : Int} {P P' : V → Prop} (h : EvX te σ H P) (eN : Ex N H) (hp : ∀ v, P v → ∃ p xs w, v = .ref p ∧ SqT K N p xs ∧ atI xs n = some w ∧ P' w) : EvX (tOp (rIx K) te (tC (.int n))) σ H P' := fun H1 e Q q => h H1 e _ fun v H2 e2 pv => by
  obtain ⟨p, xs, w, rfl, h1, h2, h3⟩ := hp v pv
  exact .inr (.inl ⟨p, xs, n, w, rfl, rfl, ex_t ((eN.trans e).trans e2) h1, h2, q w H2 e2 h3⟩)
theorem ex_2a {N : Hp} {z : α × β} (h : EvX te σ H fun v => (tP K T S).R N v z) (eN : Ex N H) : EvX (tOp (rIx K) te (tC (.int 0))) σ H fun v => T.R N v z.1 := ex_ixT h eN fun v ⟨p, a, b, h1, h2, h3, h4⟩ => ⟨p, [a, b], a, h1, h2, rfl, h3⟩
theorem ex_2b {N : Hp} {z : α × β} (h : EvX te σ H fun v => (tP K T S).R N v z) (eN : Ex N H) : EvX (tOp (rIx K) te (tC (.int 1))) σ H fun v => S.R N v z.2 := ex_ixT h eN fun v ⟨p, a, b, h1, h2, h3, h4⟩ => ⟨p, [a, b], b, h1, h2, rfl, h4⟩
/-- (..).append(e), what is appended to is in a part that is given away -/
theorem s_bendA {N : Hp} (o : Own (M :: G :: Ns) H) (hj : Ns[j]? = some N) (h : EvX te σ H fun v => (tW T).R N v l) (hv : EvP tb σ H P) (k : ∀ H1, Own (M :: G :: Ns.eraseIdx j) H1 → D.nx σ H1) : tDrop (tBM K "list" rAppend te (tCons tb tNil)) D σ H := h H (Ex.refl H) _ fun v H1 e1 ⟨p, xs, ev, h1, h2, h3⟩ => by
  subst ev
  have o1 := o.mono e1
  refine ⟨Or.inl ⟨rfl, xs, sq_of (o1.exO hj _ _ h1)⟩, hv H1 e1 _ fun v H2 N' e2 e3 f q => ?_⟩
  have o2 : Own (M :: G :: Ns) H2 := o1.mono e2
  refine ⟨p, xs, v, rfl, rfl, o2.exO hj _ _ h1, sz_lt (by rw [Paired.length h2]; omega), k _ ?_⟩
  have o3 : Own (N :: M :: G :: Ns.eraseIdx j) H2 := Own.pull (i := j + 2) o2 hj
  have hv : Hv N H2 (L2.upd H2 p (.lst (xs ++ [v]))) := Hv.refl.upd (by rw [h1]; exact fun z => nomatch z)
  exact hv.own o3.2.2 o3.2.1
theorem q_bendA {N : Hp} (o : Own (M :: G :: Ns) H) (hj : Ns[j]? = some N) (h : EvX te σ H fun v => (tW T).R N v l) (hv : EvP tb σ H P) (k : ∀ H1, Own (M :: G :: Ns.eraseIdx j) H1 → tz D σ H1) : tSeq (tDrop (tBM K "list" rAppend te (tCons tb tNil))) tz D σ H := s_bendA (D := { D with nx := tz D }) o hj h hv k
theorem ex_some [Inhabited α] {N : Hp} {x : Option α} (hx : x.isSome = true) (h : EvX te σ H fun v => (tO T).R N v x) : EvX te σ H fun v => T.R N v (x.getD default) := fun H1 e Q q => h H1 e _ fun v H2 e2 p => q v H2 e2 (opt_get hx p)
theorem s_as {g : TG} (o : Own (M :: G :: Ns) H) (h : EvB te σ H M P) (k : ∀ v M1 H1, Ex M M1 → Own (M1 :: G :: Ns) H1 → P M1 v → g v σ H1 D.nx) : tAsg te g D σ H := h H (Ex.refl H) _ fun v H1 N e e2 f p => k v (uni M N) H1 (uni_exl o.e0 f) (o.add e e2 f).merge p
theorem s_asu {g : TG} (o : Own (M :: G :: Ns) H) (h : EvB te σ H (uni G M) P) (k : ∀ v M1 H1, Ex M M1 → Own (M1 :: G :: Ns) H1 → P (uni G M1) v → g v σ H1 D.nx) : tAsg te g D σ H := h H (Ex.refl H) _ fun v H1 N e e2 f p => k v (uni M N) H1 (uni_exl o.e0 f) (o.add e e2 f).merge (by rw [uni_ass] at p; exact p)
theorem q_as {g : TG} (o : Own (M :: G :: Ns) H) (h : EvB te σ H M P) (k : ∀ v M1 H1, Ex M M1 → Own (M1 :: G :: Ns) H1 → P M1 v → g v σ H1 (tz D)) : tSeq (tAsg te g) tz D σ H := s_as (D := { D with nx := tz D }) o h k
theorem q_asu {g : TG} (o : Own (M :: G :: Ns) H) (h : EvB te σ H (uni G M) P) (k : ∀ v M1 H1, Ex M M1 → Own (M1 :: G :: Ns) H1 → P (uni G M1) v → g v σ H1 (tz D)) : tSeq (tAsg te g) tz D σ H := s_asu (D := { D with nx := tz D }) o h k
theorem Own.dropO {N : Hp} (o : Own (M :: G :: N :: Ns) H) : Own (M :: G :: Ns) H := ⟨o.1, fun M' hM' => o.2.1 M' (by
  rcases List.mem_cons.mp hM' with z | z
  · rw [z]; exact List.mem_cons_self
  · exact List.mem_cons_of_mem _ (List.mem_cons_of_mem _ z)), o.2.2.1, fun M' hM' => o.2.2.2.1 M' (List.mem_cons_of_mem _ hM'), o.2.2.2.2.2.2⟩
theorem paired_mapI {H : Hp} : ∀ l : List Int, Paired (tI.R H) (l.map V.int) l
  | [] => .nil
  | _ :: r => .cons rfl (paired_mapI r)
/-! ### return -/
theorem s_rb (o : Own (M :: G :: Ns) H) (h : EvB te σ H M P) (k : RetNew G D.rt P) : tRet te D σ H := h H (Ex.refl H) _ fun v H1 N e e2 f q => by
  have o1 : Own (uni M N :: G :: Ns) H1 := (o.add e e2 f).merge
  exact k v H1 _ o1.e1 o1.e0 (fun a ha => o1.2.1 G List.mem_cons_self a ha) q
theorem s_rv' (o : Own (M :: G :: Ns) H) (h : Ev te σ H v) (k : RetNew G D.rt P) (hp : P M v) : tRet te D σ H := h H (Ex.refl H) _ fun H1 e => k v H1 M ((o.mono e).e1) ((o.mono e).e0) (fun a ha => o.2.1 G List.mem_cons_self a ha) hp
theorem s_rn' (o : Own (M :: G :: Ns) H) (k : RetNew G D.rt P) (hp : P M .non) : D.rt .non H := k .non H M o.e1 o.e0 (fun a ha => o.2.1 G List.mem_cons_self a ha) hp
theorem ed_of {B : Hp} (h : T.R B v x) (hv : σ[i]? = some (some v)) : Ed T (tVar i) σ H B x := eb_var hv h
end
/-! ### ends -/
def resE (e : Option Str) (P : Hp → V → Prop) : Res := match e with
  | none => .ok P
  | some x => .err x []
section
variable {mg : Str → Option Value} {e : Option Str} {P : Hp → V → Prop} {H H1 : Hp} {Q : VK} {E : XK} {x : Str}
theorem resE_ok (h : e = none) (k : Out mg (resE e P) H Q E) : RetNew H Q P := by subst h; exact k
theorem resE_err (h : e = some x) (k : Out mg (resE e P) H Q E) : RaiseX mg x [] H E := by subst h; exact k
theorem res_ok (h : e = none) : resE e P = .ok P := by subst h; rfl
theorem res_err (h : e = some x) : resE e P = .err x [] := by subst h; rfl
theorem RaiseX.go {C : Addr} (k : RaiseX mg x [] H E) (e : Ex H H1) (g : mg x = some (.ref C)) : E (.ref C) none H1 := k H1 C none e g (.inl ⟨rfl, rfl⟩)
theorem ret_imp {P' : Hp → V → Prop} (k : RetNew H Q P) (i : ∀ N v, P' N v → P N v) : RetNew H Q P' := fun v H1 N e1 e2 f p => k v H1 N e1 e2 f (i N v p)
theorem ret_is {α : Type} {T : Tp α} {a b : α} (k : RetNew H Q fun N v => T.R N v a) (e : a = b) : RetNew H Q fun N v => T.R N v b := e ▸ k
end
end Kj

/-! Kj14: promises of things that hold what was handed in; walks over a part; index, extend. -/
namespace Kj
open PySem PySem.Spec PyProof.Rows L2 Evl
/-- the promise, told in a part B of the heap and what is new -/
def Rl.spB (S : Rl) (mg : Str → Option Value) : Sp := fun vs H Q E => ∃ B r, Ex B H ∧ S.R vs B r ∧ match r with
  | .ok P => ∀ v H' N, Ex H H' → Ex N H' → Fr H N → P (uni B N) v → Q v H'
  | .err x fs => RaiseX mg x fs H E
section
variable {K : PySem.W.Frag} {mg : Str → Option Value} {σ : L2.St} {H B : Hp} {ta te : TE} {tr : TA} {P : Hp → V → Prop} {E : L2.St → XK} {W : WX} {α γ : Type} {T : Tp α} {O : Tp γ} {S : Rl} {as : List Arg} {x : α} {z : γ} {C : Addr} {mn xn : Str} {fs : List (Str × V)}
theorem ed_callS (eB : Ex B H) (ha : EvBs tr σ H B as) (hR : ∀ vs G, ArgsR G vs as → S.R vs G (.ok fun G v => T.R G v x)) : Ed T (tCallS (S.spB mg) E tr) σ H B x := fun H1 e Q q => ha H1 e _ fun vs H2 N e2 e3 f p => by
  have eU : Ex (uni B N) H2 := uni_ex ((eB.trans e).trans e2) e3
  refine ⟨_, _, eU, hR vs _ p, fun v H3 N' e4 e5 f' p' => ?_⟩
  obtain ⟨g1, g2, g3, g4⟩ := two_parts (eB.trans e) e2 e3 f f' e4 e5
  rw [uni_ass] at p'
  exact q v H3 (uni N N') (e2.trans e4) g2 g1 p'
theorem ed_methS (eB : Ex B H) (ho : Ed O ta σ H B z) (hC : ∀ {G v}, O.R G v z → ∃ a dx gs, v = .ref a ∧ G a = some (.ins C dx gs) ∧ gs.lookup mn = none) (ha : EvBs tr σ H B as) (hR : ∀ vs G, ArgsR G vs (⟨O, z⟩ :: as) → S.R vs G (.ok fun G v => T.R G v x)) : Ed T (tMethS C mn (S.spB mg) E ta tr) σ H B x := fun H1 e Q q => ho H1 e _ fun v H2 N e2 e3 f p => by
  obtain ⟨a, dx, gs, rfl, h1, h2⟩ := hC p
  have eU : Ex (uni B N) H2 := uni_ex ((eB.trans e).trans e2) e3
  refine ⟨a, dx, gs, rfl, eU _ _ h1, h2, ha H2 (e.trans e2) _ fun vs H3 N1 e4 e5 f1 p1 => ?_⟩
  obtain ⟨g1, g2, g3, g4⟩ := two_parts (eB.trans e) e2 e3 f f1 e4 e5
  have eU2 : Ex (uni B (uni N N1)) H3 := uni_ex (((eB.trans e).trans e2).trans e4) g2
  refine ⟨_, _, eU2, hR (.ref a :: vs) (uni B (uni N N1)) ⟨O.up g3 p, p1.up g4⟩, fun v H4 N' e6 e7 f' p' => ?_⟩
  obtain ⟨m1, m2, m3, m4⟩ := two_parts (eB.trans e) (e2.trans e4) g2 g1 f' e6 e7
  rw [uni_ass] at p'
  exact q v H4 (uni (uni N N1) N') ((e2.trans e4).trans e6) m2 m1 p'
theorem er_callS (eB : Ex B H) (ha : EvBs tr σ H B as) (hR : ∀ vs G, ArgsR G vs as → S.R vs G (.err xn fs)) : EvErr mg W xn fs (tCallS (S.spB mg) (WE W) tr) σ H := fun H1 e q Q => ha H1 e _ fun vs H2 N e2 e3 f p => ⟨_, .err xn fs, uni_ex ((eB.trans e).trans e2) e3, hR vs _ p, q.fwd e2⟩
theorem er_methS (eB : Ex B H) (ho : Ed O ta σ H B z) (hC : ∀ {G v}, O.R G v z → ∃ a dx gs, v = .ref a ∧ G a = some (.ins C dx gs) ∧ gs.lookup mn = none) (ha : EvBs tr σ H B as) (hR : ∀ vs G, ArgsR G vs (⟨O, z⟩ :: as) → S.R vs G (.err xn fs)) : EvErr mg W xn fs (tMethS C mn (S.spB mg) (WE W) ta tr) σ H := fun H1 e q Q => ho H1 e _ fun v H2 N e2 e3 f p => by
  obtain ⟨a, dx, gs, rfl, h1, h2⟩ := hC p
  have eU : Ex (uni B N) H2 := uni_ex ((eB.trans e).trans e2) e3
  refine ⟨a, dx, gs, rfl, eU _ _ h1, h2, ha H2 (e.trans e2) _ fun vs H3 N1 e4 e5 f1 p1 => ?_⟩
  obtain ⟨g1, g2, g3, g4⟩ := two_parts (eB.trans e) e2 e3 f f1 e4 e5
  exact ⟨_, .err xn fs, uni_ex (((eB.trans e).trans e2).trans e4) g2, hR (.ref a :: vs) (uni B (uni N N1)) ⟨O.up g3 p, p1.up g4⟩, q.fwd (e2.trans e4)⟩
end
/-- what of H is not in B -/
def rest (B H : Hp) : Hp := fun a => match B a with | some _ => none | none => H a
section
variable {B H H1 M G : Hp} {Ns : List Hp}
theorem own_rest (e : Ex B H) : Own [emp, B, rest B H] H := by
  refine ⟨emp_ex, (fun _ _ a ha => absurd rfl ha), e, fun M hM a ha => ?_, fun a o h => ?_, (fun _ h => nomatch h), trivial⟩
  · have z : M = rest B H := by simpa using hM
    subst z
    unfold rest
    cases q : B a with
    | none => exact absurd q ha
    | some o => rfl
  · unfold rest at h
    cases q : B a with
    | none => rw [q] at h; exact h
    | some u => rw [q] at h; cases h
theorem rest_ex {j : Nat} (e : Ex B H) (o : Own (M :: B :: Ns) H1) (h : Ns[j]? = some (rest B H)) : Ex H H1 := fun a u ha => by
  cases q : B a with
  | none => exact o.exO h a u (by unfold rest; rw [q]; exact ha)
  | some z =>
    have := e a z q
    rw [ha] at this
    cases this
    exact o.e1 a _ q
theorem rest_fr {j : Nat} (o : Own (M :: B :: Ns) H1) (h : Ns[j]? = some (rest B H)) : Fr H M := fun a ha => by
  have h1 := o.2.1 B List.mem_cons_self a ha
  have h2 := o.2.1 (rest B H) (List.mem_cons_of_mem _ (List.mem_of_getElem? h)) a ha
  unfold rest at h2
  rw [h1] at h2
  exact h2
end
/-! ### return, raise: told in B and what is new -/
def RetOld (B H : Hp) (Q : VK) (P : Hp → V → Prop) : Prop := ∀ v H' N, Ex H H' → Ex N H' → Fr H N → P (uni B N) v → Q v H'
def OutB (mg : Str → Option Value) (r : Res) (B H : Hp) (Q : VK) (E : XK) : Prop := match r with
  | .ok P => RetOld B H Q P
  | .err x fs => RaiseX mg x fs H E
theorem spB_out {S : Rl} {mg : Str → Option Value} {vs : List V} {H : Hp} {Q : VK} {E : XK} (h : S.spB mg vs H Q E) : ∃ B r, Ex B H ∧ S.R vs B r ∧ OutB mg r B H Q E := by
  obtain ⟨B, r, h1, h2, h3⟩ := h
  refine ⟨B, r, h1, h2, ?_⟩
  cases r with
  | ok P => exact h3
  | err x fs => exact h3
section
variable {K : PySem.W.Frag} {mg : Str → Option Value} {σ : L2.St} {H H0 M B N : Hp} {ta tb te : TE} {v : V} {P : Hp → V → Prop} {Ns : List Hp} {D : Ends} {tu tz : TS} {α ι : Type} {T : Tp α} {l m : List α} {x : α} {xs : List V} {i j : Nat} {p : Addr} {e : Option Str} {Q : VK} {E : XK} {xn : Str} {wi : TI} {g : TG}
theorem resB_ok (h : e = none) (k : OutB mg (resE e P) B H Q E) : RetOld B H Q P := by subst h; exact k
theorem resB_err (h : e = some xn) (k : OutB mg (resE e P) B H Q E) : RaiseX mg xn [] H E := by subst h; exact k
theorem s_rbS (e0 : Ex B H0) (o : Own (M :: B :: Ns) H) (hj : Ns[j]? = some (rest B H0)) (h : EvB te σ H (uni B M) P) (k : RetOld B H0 D.rt P) : tRet te D σ H := h H (Ex.refl H) _ fun v H1 N e e2 f q => by
  have o1 : Own (uni M N :: B :: Ns) H1 := (o.add e e2 f).merge
  rw [uni_ass] at q
  exact k v H1 _ (rest_ex e0 o1 hj) o1.e0 (rest_fr o1 hj) q
theorem s_rvS (e0 : Ex B H0) (o : Own (M :: B :: Ns) H) (hj : Ns[j]? = some (rest B H0)) (h : Ev te σ H v) (k : RetOld B H0 D.rt P) (hp : P (uni B M) v) : tRet te D σ H := h H (Ex.refl H) _ fun H1 e => k v H1 M (rest_ex e0 (o.mono e) hj) ((o.mono e).e0) (rest_fr o hj) hp
theorem s_rnS (e0 : Ex B H0) (o : Own (M :: B :: Ns) H) (hj : Ns[j]? = some (rest B H0)) (k : RetOld B H0 D.rt P) (hp : P (uni B M) .non) : D.rt .non H := k .non H M (rest_ex e0 o hj) o.e0 (rest_fr o hj) hp
/-! ### a walk over a list that lies in a part -/
theorem s_fx {tl : TE} {G : Hp} {Z : Hp → α → L2.St → L2.St → Prop} (o : Own (M :: G :: Ns) H) (hj : Ns[j]? = some N) (hv : Ev tl σ H v) (hf : (tL K T).R N v l) (hz : ∀ G x y H', Ex G H' → T.R G x y → ∀ σ' (Q : L2.St → Hp → Prop), (∀ σ2, Z G y σ' σ2 → Q σ2 H') → g x σ' H' Q) (Pv : Nat → L2.St → Hp → Prop) (h0 : ∀ H1, Own (M :: G :: Ns) H1 → Pv 0 σ H1) (hG : ∀ i σ' H', Pv i σ' H' → Ex N H')
    (hs : ∀ i y σ' H' H'' σ2, l[i]? = some y → Pv i σ' H' → Ex H' H'' → Z N y σ' σ2 → tu { D with nx := Pv (i + 1), ct := Pv (i + 1), bk := D.nx } σ2 H'') (hd : ∀ σ' H', Pv l.length σ' H' → D.nx σ' H') : tFor (iList K tl) g tu D σ H :=
  hv H (Ex.refl H) _ fun H1 e => by
    obtain ⟨p, xs, ev, h1, h2, h3⟩ := hf
    have d := drw_list (K := K) h1
    rw [Paired.length h2] at d
    refine ⟨p, ev, ⟨xs, ex_l ((o.exO hj).trans e) h1⟩, ?_⟩
    exact for_dr (Z := Z) d.go d.stop (fun i y H' x H'' eH hi hy => by
      obtain ⟨g1, g2⟩ := d.yld i H' x H'' eH (get_lt hi) hy
      obtain ⟨w, g3, g4⟩ := paired_at h2 hi
      rw [g3] at g2
      cases g2
      exact ⟨g1, hz _ _ _ _ (eH.trans g1) g4⟩) Pv (h0 H1 (o.mono e)) hG hs hd
theorem q_fx {tl : TE} {G : Hp} {Z : Hp → α → L2.St → L2.St → Prop} (o : Own (M :: G :: Ns) H) (hj : Ns[j]? = some N) (hv : Ev tl σ H v) (hf : (tL K T).R N v l) (hz : ∀ G x y H', Ex G H' → T.R G x y → ∀ σ' (Q : L2.St → Hp → Prop), (∀ σ2, Z G y σ' σ2 → Q σ2 H') → g x σ' H' Q) (Pv : Nat → L2.St → Hp → Prop) (h0 : ∀ H1, Own (M :: G :: Ns) H1 → Pv 0 σ H1) (hG : ∀ i σ' H', Pv i σ' H' → Ex N H')
    (hs : ∀ i y σ' H' H'' σ2, l[i]? = some y → Pv i σ' H' → Ex H' H'' → Z N y σ' σ2 → tu { D with nx := Pv (i + 1), ct := Pv (i + 1), bk := tz D } σ2 H'') (hd : ∀ σ' H', Pv l.length σ' H' → tz D σ' H') : tSeq (tFor (iList K tl) g tu) tz D σ H := s_fx (D := { D with nx := tz D }) o hj hv hf hz Pv h0 hG hs hd
/-- one's own list becomes common -/
theorem own_freeze {G : Hp} (o : Own (M :: G :: Ns) H) (hj : Ns[j]? = some (sing p (.lst xs))) (hx : Paired (T.R M) xs l) (hl : l.length ≤ 40000) : ∃ M1, Ex M M1 ∧ Own (M1 :: G :: Ns.eraseIdx j) H ∧ (tW T).R M1 (.ref p) l := ⟨_, o.joinE hj, o.join hj, own_fz o hj hx hl⟩
theorem own_freezeU {G : Hp} (o : Own (M :: G :: Ns) H) (hj : Ns[j]? = some (sing p (.lst xs))) (hx : Paired (T.R (uni G M)) xs l) (hl : l.length ≤ 40000) : ∃ M1, Ex M M1 ∧ Own (M1 :: G :: Ns.eraseIdx j) H ∧ (tW T).R (uni G M1) (.ref p) l := ⟨_, o.joinE hj, o.join hj, own_fzu o hj hx hl⟩
/-! ### xs.index(v) of ints -/
def idxI (l : List Int) (v : Int) : Int := (l.idxOf v : Nat)
theorem ev_indexB {B : Hp} {n : Int} {l : List Int} (h : Ed (tL K tI) te σ H B l) (hv : Ev tb σ H (.int n)) (eB : Ex B H) (hm : n ∈ l) : Ev (tBM K "list" (rIndex K) te (tCons tb tNil)) σ H (.int (idxI l n)) := fun H1 e Q q =>
  h H1 e _ fun v H2 N e2 e3 f ⟨p, xs, ev, h1, h2, _⟩ => by
    subst ev
    have eU : Ex (uni B N) H2 := uni_ex ((eB.trans e).trans e2) e3
    have hxs : ∀ {xs : List V} {l : List Int}, Paired (tI.R (uni B N)) xs l → xs = l.map V.int := fun {xs l} hp => by
      induction hp with
      | nil => rfl
      | cons a r ih => cases a; rw [ih]; rfl
    have e0 := hxs h2
    subst e0
    refine ⟨Or.inl ⟨rfl, _, ex_l eU h1⟩, hv H2 (e.trans e2) _ fun H3 e4 => ?_⟩
    have hlt : l.idxOf n < l.length := List.idxOf_lt_length_iff.mpr hm
    refine ⟨p, _, .int n, l.idxOf n, .int n, rfl, rfl, ex_l (eU.trans e4) h1, rfl, ?_, ?_, ?_, fun i z hi hz => ?_, q H3 (e2.trans e4)⟩
    · rw [List.all_eq_true]
      intro z hz
      obtain ⟨k, _, rfl⟩ := List.mem_map.mp hz
      rfl
    · rw [List.getElem?_map, List.getElem?_eq_getElem hlt, List.getElem_idxOf hlt]
      rfl
    · simp [eqV]
    · rw [List.getElem?_map] at hz
      have hil : i < l.length := Nat.lt_trans hi hlt
      rw [List.getElem?_eq_getElem hil] at hz
      cases hz
      have hi : i < l.findIdx (· == n) := hi
      have := List.not_of_lt_findIdx hi
      simpa [eqV] using this
/-! ### all, any, sum; min, max of two -/
theorem paired_bls {H : Hp} {xs : List V} {l : List Bool} (h : Paired (tB.R H) xs l) : xs = l.map V.bl := by
  induction h with
  | nil => rfl
  | cons a r ih => cases a; rw [ih]; rfl
theorem paired_is {H : Hp} {xs : List V} {l : List Int} (h : Paired (tI.R H) xs l) : xs = l.map V.int := by
  induction h with
  | nil => rfl
  | cons a r ih => cases a; rw [ih]; rfl
theorem ev_allB {B : Hp} {l : List Bool} (h : Ed (tL K tB) te σ H B l) (eB : Ex B H) : Ev (tCB (rAll K) (tCons te tNil)) σ H (.bl (l.all id)) := fun H1 e Q q =>
  h H1 e _ fun v H2 N e2 e3 f ⟨p, xs, ev, h1, h2, _⟩ => by
    subst ev
    rw [paired_bls h2] at h1
    exact ⟨p, l, rfl, ex_l (uni_ex ((eB.trans e).trans e2) e3) h1, q H2 e2⟩
theorem ev_anyB {B : Hp} {l : List Bool} (h : Ed (tL K tB) te σ H B l) (eB : Ex B H) : Ev (tCB (rAny K) (tCons te tNil)) σ H (.bl (l.any id)) := fun H1 e Q q =>
  h H1 e _ fun v H2 N e2 e3 f ⟨p, xs, ev, h1, h2, _⟩ => by
    subst ev
    rw [paired_bls h2] at h1
    exact ⟨p, l, rfl, ex_l (uni_ex ((eB.trans e).trans e2) e3) h1, q H2 e2⟩
theorem ev_sumB {B : Hp} {l : List Int} (h : Ed (tL K tI) te σ H B l) (eB : Ex B H) : Ev (tCB (rSum K) (tCons te tNil)) σ H (.int l.sum) := fun H1 e Q q =>
  h H1 e _ fun v H2 N e2 e3 f ⟨p, xs, ev, h1, h2, _⟩ => by
    subst ev
    rw [paired_is h2] at h1
    exact ⟨p, l, rfl, ex_l (uni_ex ((eB.trans e).trans e2) e3) h1, q H2 e2⟩
theorem ev_min2B {a b : Int} (ha : Ev ta σ H (.int a)) (hb : Ev tb σ H (.int b)) : Ev (tCB (fun xs H Q => ∃ i j, xs = [.int i, .int j] ∧ Q (.int (if j < i then j else i)) H) (tCons ta (tCons tb tNil))) σ H (.int (if b < a then b else a)) := fun H1 e Q q =>
  ha H1 e _ fun H2 e2 => hb H2 (e.trans e2) _ fun H3 e3 => ⟨a, b, rfl, q H3 (e2.trans e3)⟩
/-- a if c else b, of which not all is told -/
theorem eb_ifE {t : TT} {b : Bool} {B : Hp} {Z1 Z2 : α → Prop} (h : EvT t σ H b) (h1 : b = true → EvB ta σ H B fun G v => ∃ x, T.R G v x ∧ Z1 x) (h2 : b = false → EvB tb σ H B fun G v => ∃ x, T.R G v x ∧ Z2 x) : EvB (tIf t ta tb) σ H B fun G v => ∃ x, T.R G v x ∧ (b = true → Z1 x) ∧ (b = false → Z2 x) := fun H1 e Q q => h H1 e _ fun H2 e2 => by
  cases b with
  | true =>
    show ta σ H2 Q
    exact h1 rfl H2 (e.trans e2) Q fun v H3 N e3 i3 f ⟨x, p1, p2⟩ => q v H3 N (e2.trans e3) i3 (f.back e2) ⟨x, p1, fun _ => p2, fun z => nomatch z⟩
  | false =>
    show tb σ H2 Q
    exact h2 rfl H2 (e.trans e2) Q fun v H3 N e3 i3 f ⟨x, p1, p2⟩ => q v H3 N (e2.trans e3) i3 (f.back e2) ⟨x, p1, (fun z => nomatch z), fun _ => p2⟩
theorem eb_exact {B : Hp} (h : Ed T te σ H B x) : EvB te σ H B fun G v => ∃ y, T.R G v y ∧ y = x := eb_imp h fun _ _ p => ⟨x, p, rfl⟩
/-! ### displays of which not all is told -/
def EvBx {β : Type} (S : Tp β) (ta : TA) (σ : L2.St) (H B : Hp) (W : List β → Prop) : Prop := ∀ H1, Ex H H1 → ∀ Q : List V → Hp → Prop, (∀ vs H2 N l, Ex H1 H2 → Ex N H2 → Fr H1 N → Paired (S.R (uni B N)) vs l → W l → Q vs H2) → ta σ H1 Q
theorem ebx_nil {B : Hp} : EvBx T tNil σ H B fun l => l = [] := fun H1 _ Q q => q [] H1 emp [] (Ex.refl H1) emp_ex emp_fr .nil rfl
theorem ebx_cons {B : Hp} {tr : TA} {Z : α → Prop} {W : List α → Prop} (eB : Ex B H) (h : EvB te σ H B fun G v => ∃ x, T.R G v x ∧ Z x) (hr : EvBx T tr σ H B W) : EvBx T (tCons te tr) σ H B fun l => ∃ x r, l = x :: r ∧ Z x ∧ W r := fun H1 e Q q =>
  h H1 e _ fun v H2 N e2 e3 f ⟨x, p1, p2⟩ => hr H2 (e.trans e2) _ fun us H3 N' r e4 e5 f' p' w' => by
    obtain ⟨g1, g2, g3, g4⟩ := two_parts (eB.trans e) e2 e3 f f' e4 e5
    exact q (v :: us) H3 (uni N N') (x :: r) (e2.trans e4) g2 g1 (.cons (T.up g3 p1) (paired_up g4 p')) ⟨x, r, rfl, p2, w'⟩
theorem eb_lstx {B : Hp} {tr : TA} {W W' : List α → Prop} (eB : Ex B H) (h : EvBx T tr σ H B W) (hl : ∀ l, W l → l.length ≤ 1000 ∧ W' l) : EvB (tLst tr) σ H B fun G v => ∃ l, (tW T).R G v l ∧ W' l := fun H1 e Q q =>
  h H1 e _ fun vs H2 N l e2 e3 f p w => ⟨sz_of (by rw [Paired.length p]; have := (hl l w).1; omega), fun r hr => by
    obtain ⟨g1, g2, g3, g4, g5⟩ := tup_new (vs := vs) (eB.trans e) e2 e3 f hr (.lst vs)
    exact q (.ref r) _ _ g1 g2 g3 ⟨l, ⟨r, vs, rfl, g5, paired_up g4 p, by have := (hl l w).1; omega⟩, (hl l w).2⟩⟩
theorem s_wl {t : TT} (Pv : Nat → L2.St → Hp → Prop) (m0 : Nat) (h0 : Pv m0 σ H)
    (hs : ∀ m σ' H', Pv m σ' H' → ∃ b, EvT t σ' H' b ∧ (b = true → ∀ H1, Ex H' H1 → tu { D with nx := fun σ2 H2 => ∃ m', m' < m ∧ Pv m' σ2 H2, ct := fun σ2 H2 => ∃ m', m' < m ∧ Pv m' σ2 H2, bk := D.nx } σ' H1) ∧ (b = false → ∀ H1, Ex H' H1 → D.nx σ' H1)) : tWhile t tu D σ H :=
  Evl.s_while Pv m0 h0 fun m σ' H' p => by
    obtain ⟨b, h1, h2, h3⟩ := hs m σ' H' p
    exact ⟨b, h1, fun hb H1 e => ⟨_, fun _ _ q => q, h2 hb H1 e⟩, h3⟩
/-! ### list(range(n)) -/
theorem en_rng {B : Hp} {n : Int} (h : Ev te σ H (.int n)) (hn : 0 ≤ n ∧ n ≤ 40000) : Edn tI (tLstRg (tRg1 te)) σ H B (rngI n) := fun H1 e Q q => by
  have en : n = ((n.toNat : Nat) : Int) := by omega
  have h' : Ev te σ H (.int ((n.toNat : Nat) : Int)) := by rw [← en]; exact h
  refine el_lrg1 h' (by omega) H1 e Q fun p H2 hp e2 h2 => q p _ H2 emp e2 emp_ex emp_fr hp rfl h2 ?_ (by rw [rngI_len]; omega)
  have e3 : rngV n.toNat = (rngI n).map V.int := by unfold rngV rngI; rw [List.map_map]; rfl
  rw [e3]
  exact paired_mapI _
/-! ### int(a truth), isinstance -/
theorem ev_intB {b : Bool} (h : Ev ta σ H (.bl b)) : Ev (tCB (fun xs H Q => (∃ i, xs = [.int i] ∧ Q (.int i) H) ∨ ∃ k, xs = [.bl k] ∧ Q (.int (if k then 1 else 0)) H) (tCons ta tNil)) σ H (.int (if b = true then 1 else 0)) := fun H1 e Q q => h H1 e _ fun H2 e2 => .inr ⟨b, rfl, by
  have := q H2 e2
  cases b <;> exact this⟩
theorem ev_isiL {B : Hp} {n : String} {b : Bool} (h : Ed (tL K T) te σ H B l) (eB : Ex B H) (hk : kitB "list" n = some b) : Ev (tCB (rIsiU K) (tCons te (tCons (tC (.ty n)) tNil))) σ H (.bl b) := fun H1 e Q q =>
  h H1 e _ fun v H2 N e2 e3 f ⟨p, xs, ev, h1, h2, _⟩ => by
    subst ev
    exact .inl ⟨.ref p, .ty n, .type "list", .type n, b, rfl, .ty n, ty_sqL (ex_l (uni_ex ((eB.trans e).trans e2) e3) h1), kit_ty hk, q H2 e2⟩
theorem ed_get {α : Type} [Inhabited α] {T : Tp α} {B : Hp} {te : TE} {σ : L2.St} {H : Hp} {x : Option α} (hx : x.isSome = true) (h : Ed (tO T) te σ H B x) : Ed T te σ H B (x.getD default) := eb_imp h fun _ _ p => opt_get hx p
theorem ep_any {B : Hp} {te : TE} {σ : L2.St} {H : Hp} {P : Hp → V → Prop} (h : EvB te σ H B P) : EvP te σ H fun _ _ => True := fun H1 e Q q => h H1 e Q fun v H2 N a b c _ => q v H2 N a b c trivial
end
end Kj

/-! Kj15: xs[lo::step], step more than 0. -/
namespace Kj
open PySem PySem.Spec PyProof.Rows L2 Evl
/-- the places that lo::st picks out of n -/
def stepN (n : Nat) (lo : Option Int) (st : Int) : List Nat := sliceRange (sliceBounds lo none (some st) n).1 (sliceBounds lo none (some st) n).2.1 (sliceBounds lo none (some st) n).2.2
def stepI {α : Type} (l : List α) (lo : Option Int) (st : Int) : List α := (stepN l.length lo st).filterMap fun i => l[i]?
theorem step_mem {α : Type} {l : List α} {lo : Option Int} {st : Int} {x : α} (h : x ∈ stepI l lo st) : x ∈ l := by
  obtain ⟨i, _, hi⟩ := List.mem_filterMap.mp h
  exact List.mem_of_getElem? hi
theorem stepN_le (n : Nat) (lo : Option Int) {st : Int} (h : 0 < st) : (stepN n lo st).length ≤ n := by
  refine sliceRange_length_le _ _ _ _ (fun _ => ?_) fun z => absurd h z
  have hc : (some st : Option Int).getD 1 > 0 := h
  simp only [sliceBounds, hc, if_true]
  refine ⟨?_, Int.le_refl _⟩
  cases lo with
  | none => exact Int.le_refl _
  | some i => exact Int.le_max_left _ _
theorem step_le {α : Type} (l : List α) (lo : Option Int) {st : Int} (h : 0 < st) : (stepI l lo st).length ≤ l.length := Nat.le_trans (List.length_filterMap_le _ _) (stepN_le _ _ h)
theorem pair_get {α β : Type} {R : α → β → Prop} {xs : List α} {l : List β} (h : Paired R xs l) : ∀ i : Nat, (xs[i]? = none ∧ l[i]? = none) ∨ ∃ x y, xs[i]? = some x ∧ l[i]? = some y ∧ R x y := by
  induction h with
  | nil => exact fun i => .inl ⟨rfl, rfl⟩
  | cons r t ih =>
    intro i
    cases i with
    | zero => exact .inr ⟨_, _, rfl, rfl, r⟩
    | succ i => exact ih i
theorem pair_pick {α β : Type} {R : α → β → Prop} {xs : List α} {l : List β} (h : Paired R xs l) : ∀ ns : List Nat, Paired R (ns.filterMap fun i => xs[i]?) (ns.filterMap fun i => l[i]?)
  | [] => .nil
  | n :: ns => by
    rcases pair_get h n with ⟨a, b⟩ | ⟨x, y, a, b, r⟩
    · rw [List.filterMap_cons_none a, List.filterMap_cons_none b]
      exact pair_pick h ns
    · rw [List.filterMap_cons_some a, List.filterMap_cons_some b]
      exact .cons r (pair_pick h ns)
theorem pair_step {α β : Type} {R : α → β → Prop} {xs : List α} {l : List β} (h : Paired R xs l) (lo : Option Int) (st : Int) : Paired R (stepI xs lo st) (stepI l lo st) := by
  unfold stepI
  rw [← Paired.length h]
  exact pair_pick h _
def tStepL (K : PySem.W.Frag) (te : TE) (tl tk : TO) : TE := fun σ H Q => te σ H fun x H1 => tl σ H1 fun lo H2 => tk σ H2 fun o H3 => ∃ a xs st, x = .ref a ∧ o = some st ∧ 0 < st ∧ SqL K H3 a xs ∧ ∀ p, H3 p = none → Q (.ref p) (upd H3 p (.lst (stepI xs lo st)))
theorem pe_step {X : Cx} {e st : Expr} {lo : Option Expr} {te : TE} {tl tk : TO} {p pos : Pos} (he : PE X e te) (hl : PO X lo tl) (hk : PO X (some st) tk) : PE X (.Subscript e (.Slice lo none (some st) p) pos) (tStepL X.K te tl tk) := by
  refine ⟨fun pins s σ H Q I h => ?_⟩
  refine Subscript_ (thn (he.run pins s σ H _ I h) fun v s1 ⟨x, H1, I1, r1, q1⟩ => ?_)
  refine wpAny_Slice (thn (hl.run pins s1 σ H1 _ I1 q1) fun vl s2 ⟨l, H2, I2, pl, q2⟩ => ?_)
  refine thn (po_none.run pins s2 σ H2 (fun o H3 => o = none ∧ H3 = H2) I2 ⟨rfl, rfl⟩) fun vu s3 ⟨u, H3, I3, pu, eu, e3⟩ => ?_
  subst eu e3
  refine thn (hk.run pins s3 σ H3 _ I3 q2) fun vs s4 ⟨o, H4, I4, ps, a, xs, k, ex, eo, hk0, hx, q⟩ => ?_
  subst ex eo
  cases r1
  have I5 : Inv X pins σ H4 { s4 with heap := s4.heap.push { cls := .type "slice", data := .fields #[vl, vu, vs] } } := I4.kept (t' := s4.toks) fun b ob q => Heap.get?_push_of_some _ q
  obtain ⟨its, r, ht, hz⟩ := I5.list hx
  have hlen := r.length
  have hS : slicePick its.toArray l none (some k) = (stepI its l k).toArray := by
    unfold slicePick stepI stepN
    rw [List.size_toArray]
    exact congrArg List.toArray (congrArg (fun f => List.filterMap f _) (funext fun i => List.getElem?_toArray))
  refine tail_any (ops := [.ref a, .ref s4.heap.objs.size]) ht.isList.typeIs (PySem.slot_list_getitem.lookup) (wpAny_getItem_list_slice ht.isList (Heap.IsSliceOf.new _ vl vu vs) pl pu ps (fun z => by cases z; omega) ?_ (by rw [List.size_toArray]; omega)) (by with_unfolding_all rfl)
  rw [hS]
  have r' := pair_step r l k
  refine ⟨.ref _, _, I5.laid (t' := s4.toks) (o := .lst (stepI xs l k)) (fun b ob q => Heap.get?_push_of_some _ q) (Nat.le_refl _) ⟨Nat.le_trans (step_le xs l hk0) hz, _, 0, r', Heap.get?_push_size _ rfl⟩, rfl, q _ (I5.hok.fresh (Nat.le_refl _))⟩
theorem pe_stepK {X : Cx} (K : PySem.W.Frag) {e st : Expr} {lo : Option Expr} {te : TE} {tl tk : TO} {p pos : Pos} (he : PE X e te) (hl : PO X lo tl) (hk : PO X (some st) tk) (hK : X.K = K := by rfl) : PE X (.Subscript e (.Slice lo none (some st) p) pos) (tStepL K te tl tk) := by
  subst hK
  exact pe_step he hl hk
theorem en_step {K : PySem.W.Frag} {σ : L2.St} {H B : Hp} {te : TE} {tl tk : TO} {α : Type} {T : Tp α} {l : List α} {lo : Option Int} {st : Int} (h : Ed (tL K T) te σ H B l) (h1 : EvO tl σ H lo) (h2 : EvO tk σ H (some st)) (h0 : 0 < st) (eB : Ex B H) : Edn T (tStepL K te tl tk) σ H B (stepI l lo st) := fun H1 e Q q =>
  h H1 e _ fun v H2 N e2 e3 f ⟨p, xs, ev, g1, g2, hl0⟩ => h1 H2 (e.trans e2) _ fun H3 e4 => h2 H3 ((e.trans e2).trans e4) _ fun H4 e5 => by
    subst ev
    have e6 := e4.trans e5
    exact ⟨p, xs, st, rfl, rfl, h0, ex_l ((uni_ex ((eB.trans e).trans e2) e3).trans e6) g1, fun r hr => q r _ _ N ((e2.trans e6).trans (Ex.new hr)) ((e3.trans e6).trans (Ex.new hr)) f (fresh_back (e2.trans e6) hr) (ex_none (e3.trans e6) hr) upd_same (pair_step g2 lo st) (Nat.le_trans (step_le _ _ h0) hl0)⟩
theorem rv_isB {a b : Bool} {H : Hp} : RV rIsB (.bl a) (.bl b) H (.bl (decide (a = b))) := fun H1 e Q q => ⟨a, b, rfl, rfl, q H1 (Ex.refl H1)⟩
end Kj

/-! Kj16: max(xs, default=d), min(xs, default=None), tuples of any length. -/
namespace Kj
open PySem PySem.Spec PyProof.Rows L2 Evl
/-- the greatest, or d where there is none -/
def maxI (d : Int) : List Int → Int
  | [] => d
  | a :: r => r.foldl max a
theorem foldl_max_ge : ∀ (r : List Int) (a x : Int), (x = a ∨ x ∈ r) → x ≤ r.foldl max a
  | [], a, x, h => by
    rcases h with h | h
    · exact Int.le_of_eq h
    · cases h
  | b :: r, a, x, h => by
    rw [List.foldl_cons]
    rcases h with h | h
    · exact Int.le_trans (by omega) (foldl_max_ge r (max a b) (max a b) (.inl rfl))
    · rcases List.mem_cons.mp h with h | h
      · exact Int.le_trans (by omega) (foldl_max_ge r (max a b) (max a b) (.inl rfl))
      · exact foldl_max_ge r (max a b) x (.inr h)
theorem foldl_max_mem : ∀ (r : List Int) (a : Int), r.foldl max a = a ∨ r.foldl max a ∈ r
  | [], a => .inl rfl
  | b :: r, a => by
    rw [List.foldl_cons]
    rcases foldl_max_mem r (max a b) with h | h
    · by_cases z : a ≤ b
      · rw [h]; exact .inr (by rw [show max a b = b by omega]; exact List.mem_cons_self)
      · rw [h]; exact .inl (by omega)
    · exact .inr (List.mem_cons_of_mem _ h)
theorem maxI_ge {d : Int} {l : List Int} {x : Int} (h : x ∈ l) : x ≤ maxI d l := by
  cases l with
  | nil => cases h
  | cons a r => exact foldl_max_ge r a x (List.mem_cons.mp h)
theorem maxI_mem {d : Int} {l : List Int} (h : l ≠ []) : maxI d l ∈ l := by
  cases l with
  | nil => exact absurd rfl h
  | cons a r =>
    rcases foldl_max_mem r a with z | z
    · exact List.mem_cons.mpr (.inl z)
    · exact List.mem_cons_of_mem _ z
theorem maxI_le {d b : Int} {l : List Int} (hd : d ≤ b) (h : ∀ x ∈ l, x ≤ b) : maxI d l ≤ b := by
  cases l with
  | nil => exact hd
  | cons a r => exact h _ (maxI_mem (by simp))
theorem maxI_lo {d b : Int} {l : List Int} (hd : b ≤ d) (h : ∀ x ∈ l, b ≤ x) : b ≤ maxI d l := by
  cases l with
  | nil => exact hd
  | cons a r => exact h _ (maxI_mem (by simp))
theorem ev_maxB {K : PySem.W.Frag} {σ : L2.St} {H B : Hp} {te td : TE} {l : List Int} {d : Int} (h : Ed (tL K tI) te σ H B l) (hd : Ev td σ H (.int d)) (eB : Ex B H) : Ev (tCKw (rMaxDf K) (tCons te tNil) (tCons td tNil)) σ H (.int (maxI d l)) := fun H1 e Q q =>
  h H1 e _ fun v H2 N e2 e3 f ⟨p, xs, ev, h1, h2, _⟩ => by
    subst ev
    rw [paired_is h2] at h1
    refine hd H2 (e.trans e2) _ fun H3 e4 => ?_
    refine ⟨p, l, .int d, rfl, rfl, ex_l ((uni_ex ((eB.trans e).trans e2) e3).trans e4) h1, fun z => ?_, fun m hm hy => ?_⟩
    · subst z
      exact q H3 (e2.trans e4)
    · have e1 : maxI d l = m := Int.le_antisymm (hy _ (maxI_mem fun z => by rw [z] at hm; cases hm)) (maxI_ge hm)
      have z := q H3 (e2.trans e4)
      rw [e1] at z
      exact z
end Kj

set_option Elab.async false
set_option linter.all false
set_option maxRecDepth 100000
set_option maxHeartbeats 2000000
namespace Kj
open PySem PySem.Spec PyProof.Rows L2 Evl
def topS (i : Nat) : Stmt := PySem.Challenge.pw_kimariji_k36_chances_by_rivals.main.body.getD i (.Pass ⟨0, 0, 0, 0⟩)
local macro_rules | `(tactic| wtm_at "sq") => `(tactic| first
  | assumption
  | exact sq_of (by assumption)
  | exact st_of (by assumption)
  | exact sq_of (Own.at (j := 0) (by assumption) (by rfl))
  | exact sq_of (Own.at (j := 1) (by assumption) (by rfl))
  | exact sq_of (Own.at (j := 2) (by assumption) (by rfl))
  | exact sq_of (Own.at (j := 3) (by assumption) (by rfl))
  | exact st_of (Own.at (j := 0) (by assumption) (by rfl))
  | exact st_of (Own.at (j := 1) (by assumption) (by rfl))
  | exact st_of (Own.at (j := 2) (by assumption) (by rfl))
  | exact st_of (Own.at (j := 3) (by assumption) (by rfl))
  | exact ex_l (Own.e0 (by assumption)) (by assumption)
  | exact ex_l (Own.e1 (by assumption)) (by assumption)
  | exact ex_l (Own.e2 (by assumption)) (by assumption)
  | exact ex_l (Own.e3 (by assumption)) (by assumption)
  | exact ex_t (Own.e0 (by assumption)) (by assumption)
  | exact ex_t (Own.e1 (by assumption)) (by assumption)
  | exact ex_t (Own.e2 (by assumption)) (by assumption)
  | exact ex_t (Own.e3 (by assumption)) (by assumption)
  | exact dp_mono (Own.e0 (by assumption)) (by assumption)
  | exact dp_mono (Own.e1 (by assumption)) (by assumption)
  | exact dp_mono (Own.e2 (by assumption)) (by assumption)
  | exact dp_mono (Own.e3 (by assumption)) (by assumption)
  | exact dp_mono (Own.e4 (by assumption)) (by assumption))
local macro_rules | `(tactic| wtm_at "side") => `(tactic| first
  | assumption
  | exact cmul_small (by omega) (by omega)
  | (show (0 : Int) < _; first | decide | omega)
  | exact ⟨by decide, by decide⟩
  | exact ⟨by decide, by decide, by decide⟩
  | decide
  | omega)
local macro_rules | `(tactic| wtm_at "rv") => `(tactic| first
  | exact rv_addI
  | exact rv_I0
  | exact rv_eqI
  | exact rv_neI
  | exact rv_eqT
  | exact rv_neT
  | exact rv_isN
  | exact rv_isnN
  | exact rv_sign
  | exact rv_mulI (by wtm_at "side")
  | exact rv_I (by wtm_at "side")
  | exact rv_ixLs (by wtm_at "sq") (by first | assumption | with_reducible rfl | (show atI [_] _ = _; rfl) | (show atI [_, _] _ = _; rfl) | (show atI [_, _, _] _ = _; rfl) | (show atI [_, _, _, _] _ = _; rfl))
  | exact rv_ixTs (by wtm_at "sq") (by first | assumption | with_reducible rfl | (show atI [_] _ = _; rfl) | (show atI [_, _] _ = _; rfl) | (show atI [_, _, _] _ = _; rfl) | (show atI [_, _, _, _] _ = _; rfl))
  | exact rv_ixSs (by wtm_at "side") (by first | assumption | with_reducible rfl | (show atI [_] _ = _; rfl) | (show atI [_, _] _ = _; rfl) | (show atI [_, _, _] _ = _; rfl) | (show atI [_, _, _, _] _ = _; rfl))
  | exact rc_lenL (by wtm_at "sq")
  | exact rc_lenT (by wtm_at "sq")
  | exact rc_lenS (by wtm_at "side")
  | exact rc_abs
  | exact ru_neg
  | assumption)
local macro_rules | `(tactic| wtm_at "ev") => `(tactic| first
  | exact ev_var rfl
  | exact ev_c
  | exact ea_nil
  | exact eo_none
  | (apply eo_some; wtm_at "ev")
  | (apply ea_cons; wtm_at "ev"; wtm_at "ev")
  | (apply et_test; wtm_at "ev")
  | (apply et_B; wtm_at "ev")
  | (apply ev_op; wtm_at "ev"; wtm_at "ev"; wtm_at "rv")
  | (apply ev_un; wtm_at "ev"; wtm_at "rv")
  | (apply ev_cb; wtm_at "ev"; wtm_at "rv")
  | (apply ev_fld; wtm_at "ev"; wtm_at "obj"; wtm_at "obj"; wtm_at "obj"; wtm_at "obj")
  | (apply el_sl'; wtm_at "ev"; wtm_at "ev"; wtm_at "ev"; wtm_at "sq")
  | (apply el_lst; wtm_at "ev"; exact Nat.le_of_ble_eq_true rfl)
  | (apply eu_tup; wtm_at "ev"; exact Nat.le_of_ble_eq_true rfl)
  | (apply ep_l; wtm_at "ev")
  | (apply ep_u; wtm_at "ev")
  | (apply ev_callO; wtm_at "ev"; wtm_at "call")
  | (apply ep_call; wtm_at "ev"; wtm_at "call")
  | (apply ep_v; wtm_at "ev"))
local macro_rules | `(tactic| wtm_at "call") => `(tactic| assumption)
local macro_rules | `(tactic| wtm_at "obj") => `(tactic| first | assumption | rfl)
local macro_rules | `(tactic| wtm_at "vc") => `(tactic| first
  | assumption
  | omega
  | trivial
  | (simp only [rngI_get, rngI2_get, enumI_get, rngI_mem, rngI2_mem, rngI_len, rngI2_len, enumI_len, List.length_nil, List.length_cons, List.length_append, List.length_map, List.length_set, Bool.and_eq_true, Bool.or_eq_true, Bool.or_eq_false_iff, Bool.and_eq_false_iff, Bool.not_eq_true', Bool.not_eq_false', decide_eq_true_eq, decide_eq_false_iff_not, Int.reduceToNat, Nums] at *; omega)
  | (subst_vars; simp only [rngI_get, rngI2_get, enumI_get, rngI_mem, rngI2_mem, rngI_len, rngI2_len, enumI_len, List.length_nil, List.length_cons, List.length_append, List.length_map, List.length_set, Bool.and_eq_true, Bool.or_eq_true, Bool.or_eq_false_iff, Bool.and_eq_false_iff, Bool.not_eq_true', Bool.not_eq_false', decide_eq_true_eq, decide_eq_false_iff_not, Int.reduceToNat, Nums] at *; omega)
  | rfl
  | decide)
abbrev s__law_numbers : Stmt := topS 36
theorem sc__law_numbers : FnScope ["_law_script", "_law_many", "_law_row", "_law_seed", "_law_cell", "_law_rest", "_law_k"] ["_law_script", "_law_many"] (defScope s__law_numbers) := ⟨rfl, rfl, rfl, by decide +kernel, rfl, by decide +kernel, by decide +kernel⟩
section
variable {P : Program} {w : World} {K : PySem.W.Frag} {mg : Str → Option Value} {base : Heap}
/-- the law's numbers: so many, each from 0 to 9966 -/
def Nums (n : Nat) (ns : List Int) : Prop := ns.length = n ∧ ∀ x ∈ ns, 0 ≤ x ∧ x < 9967
abbrev pNums (n : Nat) : Hp → V → Prop := fun N v => ∃ (p : Addr) (ns : List Int), v = .ref p ∧ N p = some (.lst (ns.map V.int)) ∧ Nums n ns
def R__law_numbers (K : PySem.W.Frag) : Rl := ⟨fun vs H r => ∃ (a : Addr) (ns : List Int) (m : Int), vs = [.ref a, .int m] ∧ SqL K H a (ns.map V.int) ∧ 0 ≤ m ∧ m ≤ 5000 ∧ r = .ok (pNums m.toNat), fun e ⟨a, ns, m, h1, h2, h3⟩ => ⟨a, ns, m, h1, ex_l e h2, h3⟩⟩
/-- the row so far -/
structure Row (n : Nat) (ns : List Int) : Prop where
  len : ns.length ≤ n
  all : ∀ x ∈ ns, 0 ≤ x ∧ x < 9967
theorem Row.add {n : Nat} {ns : List Int} {x : Int} (h : Row n ns) (hx : 0 ≤ x ∧ x < 9967) : Row (n + 1) (ns ++ [x]) :=
  ⟨by rw [List.length_append, List.length_singleton]; have := h.len; omega, fun y hy => by
    rcases List.mem_append.mp hy with h1 | h1
    · exact h.all y h1
    · rw [List.mem_singleton.mp h1]; exact hx⟩
theorem Row.mono {n m : Nat} {ns : List Int} (h : Row n ns) (l : n ≤ m) : Row m ns := ⟨Nat.le_trans h.len l, h.all⟩
theorem mapI_add (ns : List Int) (x : Int) : ns.map V.int ++ [V.int x] = (ns ++ [x]).map V.int := by rw [List.map_append]; rfl
theorem ok__law_numbers (B : Bt mg) (D : Df K mg "_law_numbers" s__law_numbers ["_law_script", "_law_many"]) : Ok P w K mg base 1 "_law_numbers" ["_law_script", "_law_many"] ((R__law_numbers K).sp mg) := by
  refine D.ok sc__law_numbers (fun vs H Q E h => ?_) (fun f cdv A outer s H vs Q E hr h => ?_)
  · obtain ⟨r, ⟨a, ns, m, rfl, _⟩, _⟩ := h
    rfl
  · obtain ⟨r, ⟨a, ns, m, rfl, hS, h0, hm, rfl⟩, k⟩ := h
    refine ⟨_, (pss_cons (ps_set (i := 2) sc__law_numbers.nd rfl (.inl rfl) (pe_lst pa_nil))
      (pss_cons (ps_set (i := 3) sc__law_numbers.nd rfl (.inl rfl) pe_int)
      (pss_cons (ps_for (passes_of rfl) rfl (pi_listK K (pe_slice (sl_K K) (pv 0) po_none (po_some pe_int))) (pg_name (i := 4) sc__law_numbers.nd rfl (.inl rfl))
        (pss_cons (ps_set (i := 3) sc__law_numbers.nd rfl (.inl rfl) (pe_op op_mod (pe_op (op_addK K) (pe_op (op_addK K) (pe_op op_mulU (pv 3) pe_int) (pe_op op_mod (pv 4) pe_int)) pe_int) pe_int))
        (pss_cons (ps_set (i := 5) sc__law_numbers.nd rfl (.inl rfl) (pe_op op_sub (pv 4) (pe_op op_pow pe_int pe_int)))
        (Evl.pss_cut (ps_if (pt_cmpR op_lt (pv 5) pe_int (nomark _))
          (pss_one (ps_expr (pe_bmK K PySem.F.plainAttrs_list PySem.F.slot_list_append PySem.F.type_list_append mt_append (pv 2) (pa_cons (pe_op op_mod (pv 4) pe_int) pa_nil))))
          pss_nil)
        (pss_one (ps_for (passes_of rfl) rfl (pi_range1 (by rfl) B.range (pa_cons pe_int pa_nil)) (pg_name (i := 6) sc__law_numbers.nd rfl (.inl rfl))
          (pss_one (ps_if (pt_cmpR op_gt (pv 5) pe_int (nomark _))
            (pss_cons (ps_expr (pe_bmK K PySem.F.plainAttrs_list PySem.F.slot_list_append PySem.F.type_list_append mt_append (pv 2) (pa_cons (pe_op op_mod (pv 5) pe_int) pa_nil)))
            (pss_one (ps_set (i := 5) sc__law_numbers.nd rfl (.inl rfl) (pe_op op_fdiv (pv 5) pe_int))))
            pss_nil))))))))
      (pss_cons (ps_while (passes_of rfl) (pt_cmpR op_lt (pe_callB (call_lenK K) (by rfl) B.len boot_b_len (pa_cons (pv 2) pa_nil)) (pv 1) (nomark _))
        (pss_cons (ps_set (i := 3) sc__law_numbers.nd rfl (.inl rfl) (pe_op op_mod (pe_op (op_addK K) (pe_op (op_addK K) (pe_op (op_addK K) (pe_op op_mulU (pv 3) (pv 3)) (pe_op op_mulU pe_int (pv 3))) (pe_op op_mulU pe_int (pe_callB (call_lenK K) (by rfl) B.len boot_b_len (pa_cons (pv 2) pa_nil)))) pe_int) pe_int))
        (pss_one (ps_expr (pe_bmK K PySem.F.plainAttrs_list PySem.F.slot_list_append PySem.F.type_list_append mt_append (pv 2) (pa_cons (pe_op op_mod (pe_op op_fdiv (pv 3) pe_int) pe_int) pa_nil))))))
      (pss_one (ps_ret (pe_slice (sl_K K) (pv 2) po_none (po_some (pv 1))))))))), ?_⟩
    refine q_l (Own.one H) (by wtm_at "ev") fun l H1 o => ?_
    refine q_v o (by wtm_at "ev") fun H1 o => ?_
    refine q_fn o (by wtm_at "ev") (fun i p σ H' => ∃ xs seed y4 y5 y6, σ = [some (.ref a), some (.int m), some (.ref l), some (.int seed), y4, y5, y6] ∧ Own [sing p (.lst (cutV (ns.map V.int) none (some 63))), sing l (.lst (xs.map V.int)), H] H' ∧ Row (61 * i) xs ∧ 0 ≤ seed ∧ seed < 4294967296)
      (fun p H1 o => ⟨[], 41, _, _, _, rfl, o, ⟨Nat.zero_le _, fun _ h => nomatch h⟩, by decide, by decide⟩) (fun i p σ H' _ ⟨xs, seed, y4, y5, y6, _, o, _⟩ => o.at (j := 0) rfl) ?_ ?_
    · rintro i p x σ H' hx ⟨xs, seed, y4, y5, y6, rfl, o, hrow, hs1, hs2⟩
      have e63 : cutV (ns.map V.int) none (some 63) = (ns.map V.int).take 63 := cutV_take 63
      rw [e63] at hx
      have hi : i < 63 := by
        have := (List.getElem?_eq_some_iff.mp hx).1
        rw [List.length_take] at this
        omega
      obtain ⟨c, rfl⟩ : ∃ c, x = V.int c := by
        rw [List.getElem?_take, if_pos hi, List.getElem?_map] at hx
        cases e : ns[i]? with
        | none => rw [e] at hx; cases hx
        | some u => rw [e] at hx; exact ⟨u, (Option.some.inj hx).symm⟩
      have hl := hrow.len
      refine q_v o (by wtm_at "ev") fun H1 o => ?_
      refine q_v o (by wtm_at "ev") fun H1 o => ?_
      generalize hsd : ((seed * 40014 + c % 999983 + 17) % 2147483563) = seed'
      have hs1' : 0 ≤ seed' := by omega
      have hs2' : seed' < 4294967296 := by omega
      generalize (c - 10 ^ (18 : Int).toNat) = rest
      -- if rest < 0: row.append(cell % 9967)
      refine q_cut (M := fun σ H' => ∃ xs, σ = [some (.ref a), some (.int m), some (.ref l), some (.int seed'), some (.int c), some (.int rest), y6] ∧ Own [sing p (.lst (cutV (ns.map V.int) none (some 63))), sing l (.lst (xs.map V.int)), H] H' ∧ Row (61 * i + 1) xs) ?_ ?_
      · refine s_wh o (by wtm_at "ev") (fun hb H1 o => ?_) (fun hb H1 o => ?_)
        · refine s_app (j := 1) o rfl (by wtm_at "ev") (by wtm_at "ev") (by rw [List.length_map]; omega) fun H1 o => ?_
          rw [mapI_add] at o
          exact ⟨_, rfl, o, hrow.add (by omega)⟩
        · exact ⟨xs, rfl, o, hrow.mono (by omega)⟩
      · rintro σ H2 ⟨xs, rfl, o, hrow⟩
        refine s_rg o (by wtm_at "ev") (by decide) (fun j σ H' => ∃ xs rest y6, σ = [some (.ref a), some (.int m), some (.ref l), some (.int seed'), some (.int c), some (.int rest), y6] ∧ Own [sing p (.lst (cutV (ns.map V.int) none (some 63))), sing l (.lst (xs.map V.int)), H] H' ∧ Row (61 * i + 1 + j) xs)
          (fun H1 o => ⟨xs, rest, y6, rfl, o, hrow⟩) ?_ ?_
        · rintro j σ H' hj ⟨xs, rest, y6, rfl, o, hrow⟩
          have hl := hrow.len
          refine s_wh o (by wtm_at "ev") (fun hb H1 o => ?_) (fun hb H1 o => ?_)
          · refine q_app (j := 1) o rfl (by wtm_at "ev") (by wtm_at "ev") (by rw [List.length_map]; omega) fun H1 o => ?_
            rw [mapI_add] at o
            refine s_v o (by wtm_at "ev") fun H1 o => ?_
            exact ⟨_, _, _, rfl, o, hrow.add (by omega)⟩
          · exact ⟨xs, rest, _, rfl, o, hrow.mono (by omega)⟩
        · rintro σ H' ⟨xs, rest, y6, rfl, o, hrow⟩
          exact ⟨xs, seed', _, _, _, rfl, o, hrow.mono (by show 61 * i + 1 + 60 ≤ 61 * (i + 1); omega), hs1', hs2'⟩
    · rintro p σ H' ⟨xs, seed, y4, y5, y6, rfl, o, hrow, hs1, hs2⟩
      have hl : xs.length ≤ 3843 := by
        have h1 := hrow.len
        have h2 : (cutV (ns.map V.int) none (some 63)).length ≤ 63 := by
          rw [show cutV (ns.map V.int) none (some 63) = (ns.map V.int).take 63 from cutV_take 63, List.length_take]
          omega
        omega
      refine q_wl (fun q σ H' => ∃ xs seed, σ = [some (.ref a), some (.int m), some (.ref l), some (.int seed), y4, y5, y6] ∧ Own [sing p (.lst (cutV (ns.map V.int) none (some 63))), sing l (.lst (xs.map V.int)), H] H' ∧ Row 10000 xs ∧ 0 ≤ seed ∧ seed < 4294967296 ∧ q = 5000 - xs.length ∧ xs.length ≤ 5000) (5000 - xs.length) ⟨xs, seed, rfl, o, ⟨by omega, hrow.all⟩, hs1, hs2, rfl, by omega⟩ ?_
      rintro q σ H' ⟨xs, seed, rfl, o, hrow, hs1, hs2, hq, hl5⟩
      refine ⟨_, by wtm_at "ev", fun hb H1 e => ?_, fun hb H1 e => ?_⟩
      · have o := o.mono e
        have hb : ((xs.map V.int).length : Int) < m := of_decide_eq_true hb
        rw [List.length_map] at hb
        have hlm : (xs.map V.int).length = xs.length := List.length_map ..
        refine q_v o (by wtm_at "ev") fun H1 o => ?_
        have hs3 : 0 ≤ (seed * seed + 52774 * seed + 11 * (((xs.map V.int).length : Nat) : Int) + 3) % 2147483629 := Int.emod_nonneg _ (by decide)
        have hs4 : (seed * seed + 52774 * seed + 11 * (((xs.map V.int).length : Nat) : Int) + 3) % 2147483629 < 2147483629 := Int.emod_lt_of_pos _ (by decide)
        generalize ((seed * seed + 52774 * seed + 11 * (((xs.map V.int).length : Nat) : Int) + 3) % 2147483629) = seed' at hs3 hs4 ⊢
        refine s_app (j := 1) o rfl (by wtm_at "ev") (by wtm_at "ev") (by rw [List.length_map]; omega) fun H1 o => ?_
        rw [mapI_add] at o
        refine ⟨5000 - (xs.length + 1), by omega, _, _, rfl, o, ⟨?_, (hrow.add (by omega)).all⟩, hs3, by omega, ?_, ?_⟩
        · rw [List.length_append, List.length_singleton]; omega
        · rw [List.length_append, List.length_singleton]
        · rw [List.length_append, List.length_singleton]; omega
      · have hb : ¬ ((xs.map V.int).length : Int) < m := of_decide_eq_false hb
        rw [List.length_map] at hb
        obtain ⟨n, rfl⟩ : ∃ n : Nat, m = n := ⟨m.toNat, by omega⟩
        have o := o.mono e
        refine s_rn o (ep_l (by wtm_at "ev")) fun v H1 N o hp => o.ret k (i := 0) (j := 3) rfl rfl ?_
        obtain ⟨q, rfl, hp⟩ := hp
        rw [cutV_take, ← List.map_take] at hp
        refine ⟨q, xs.take n, rfl, hp, ?_, fun x hx => hrow.all x (List.mem_of_mem_take hx)⟩
        rw [List.length_take]
        omega
end
abbrev s__law_same : Stmt := topS 37
theorem sc__law_same : FnScope ["_law_found", "_law_due", "_law_one", "_law_other"] ["_law_found", "_law_due"] (defScope s__law_same) := ⟨rfl, rfl, rfl, by decide +kernel, rfl, by decide +kernel, by decide +kernel⟩
section
variable {P : Program} {w : World} {K : PySem.W.Frag} {mg : Str → Option Value} {base : Heap}
/-- two of the same data are found the same -/
def R__law_same (K : PySem.W.Frag) (n : Nat) : Rl := ⟨fun vs H r => ∃ (x y : V) (d : PyData), vs = [x, y] ∧ Dp K H x d ∧ Dp K H y d ∧ smD d ∧ d.depth < n ∧ r = .ok (is (.bl true)), fun e ⟨x, y, d, h1, h2, h3, h4⟩ => ⟨x, y, d, h1, dp_mono e h2, dp_mono e h3, h4⟩⟩
theorem Df.none {x : Str} {st : Stmt} {ps : List Str} {N : List Str} {S : Rl} (D : Df K mg x st ps) (sc : FnScope N ps (defScope st)) (h : ∀ vs H r, ¬ S.R vs H r) : Ok P w K mg base 0 x ps (S.sp mg) := by
  obtain ⟨f, fd, g, F, b⟩ := D.ex
  obtain ⟨oc, od, kV, doc, pm, an, cdv, ct, osl, hfd, lk, hcd⟩ := F.ex
  exact ⟨f, fd, g, F.kp, b, ⟨fun vs H Q E ⟨r, hr, _⟩ => absurd hr (h vs H r), fun _ _ _ _ _ _ _ _ _ _ _ _ _ ⟨r, hr, _⟩ => absurd hr (h _ _ r)⟩, oc, od, osl, lk⟩
theorem ok__law_same (B : Bt mg) (D : Df K mg "_law_same" s__law_same ["_law_found", "_law_due"]) : ∀ n, Ok P w K mg base n "_law_same" ["_law_found", "_law_due"] ((R__law_same K n).sp mg)
  | 0 => D.none sc__law_same fun vs H r ⟨_, _, d, _, _, _, _, h, _⟩ => absurd h (Nat.not_lt_zero _)
  | n + 1 => by
    have O__law_same := ok__law_same B D n
    refine D.ok sc__law_same (fun vs H Q E h => ?_) (fun f cdv A outer s H vs Q E hr h => ?_)
    · obtain ⟨r, ⟨x, y, d, rfl, _⟩, _⟩ := h
      rfl
    · obtain ⟨r, ⟨x, y, d, rfl, hx, hy, hsm, hd, rfl⟩, k⟩ := h
      refine ⟨_, (pss_cons (ps_if (pt_cmpR op_isN (pv 1) pe_non (nomark _))
        (pss_one (ps_ret (pe_cmpR op_isN (pv 0) pe_non (nomark _))))
        pss_nil)
      (pss_cons (ps_if (pt_val (pe_callB (call_isiK' K) (by rfl) B.isinstance boot_b_isinstance (pa_cons (pv 1) (pa_cons (pe_tup (pa_cons (pe_bltn (v := .ty "list") (by rfl) B.list boot_ty_list rfl) (pa_cons (pe_bltn (v := .ty "tuple") (by rfl) B.tuple boot_ty_tuple rfl) pa_nil))) pa_nil))))
        (pss_cons (ps_if (PW.pt (pw_or (pt_cmpR (op_neK K (hu65 hr)) (pe_callB (call_isiK' K) (by rfl) B.isinstance boot_b_isinstance (pa_cons (pv 0) (pa_cons (pe_bltn (v := .ty "list") (by rfl) B.list boot_ty_list rfl) pa_nil))) (pe_callB (call_isiK' K) (by rfl) B.isinstance boot_b_isinstance (pa_cons (pv 1) (pa_cons (pe_bltn (v := .ty "list") (by rfl) B.list boot_ty_list rfl) pa_nil))) (nomark _)) (pw_or1 (pt_cmpR (op_neK K (hu65 hr)) (pe_callB (call_isiK' K) (by rfl) B.isinstance boot_b_isinstance (pa_cons (pv 0) (pa_cons (pe_bltn (v := .ty "tuple") (by rfl) B.tuple boot_ty_tuple rfl) pa_nil))) (pe_callB (call_isiK' K) (by rfl) B.isinstance boot_b_isinstance (pa_cons (pv 1) (pa_cons (pe_bltn (v := .ty "tuple") (by rfl) B.tuple boot_ty_tuple rfl) pa_nil))) (nomark _)))))
          (pss_one (ps_ret pe_bl))
          pss_nil)
        (pss_one (ps_ret (pe_and (pe_cmpR (op_eqK K (hu65 hr)) (pe_callB (call_lenK K) (by rfl) B.len boot_b_len (pa_cons (pv 0) pa_nil)) (pe_callB (call_lenK K) (by rfl) B.len boot_b_len (pa_cons (pv 1) pa_nil)) (nomark _)) (pe_one (pe_callB (cr_allK K rfl) (by rfl) B.all boot_b_all (pa_cons (pe_lc (own := [("_law_one", 2), ("_law_other", 3)]) rfl sc__law_same.nd (pi_zipK K (by rfl) B.zip (pa_cons (pv 0) (pa_cons (pv 1) pa_nil))) (blkOk_by (N := ["_law_found", "_law_due", "_law_one", "_law_other"]) (sc := defScope s__law_same) (by decide +kernel)) (fun _ _ _ _ _ => (pg_tupK K (n := 2) rfl (pgs_cons (pg_name (i := 2) sc__law_same.nd rfl (.inl rfl)) (pgs_cons (pg_name (i := 3) sc__law_same.nd rfl (.inl rfl)) pgs_nil)))) (fun _ _ _ _ _ => pts_nil) (fun _ _ _ _ _ => (pe_callO O__law_same (hr.mono (by omega)) (by rfl) takes0 (pa_cons (pv 2) (pa_cons (pv 3) pa_nil))))) pa_nil)))))))
        pss_nil)
      (pss_cons (ps_if (PW.pt (pw_or (pt_cmpR (op_neK K (hu65 hr)) (pe_callB (call_isiK' K) (by rfl) B.isinstance boot_b_isinstance (pa_cons (pv 0) (pa_cons (pe_bltn (v := .ty "bool") (by rfl) B.bool boot_ty_bool rfl) pa_nil))) (pe_callB (call_isiK' K) (by rfl) B.isinstance boot_b_isinstance (pa_cons (pv 1) (pa_cons (pe_bltn (v := .ty "bool") (by rfl) B.bool boot_ty_bool rfl) pa_nil))) (nomark _)) (pw_or1 (pt_cmpR (op_neK K (hu65 hr)) (pe_callB (call_isiK' K) (by rfl) B.isinstance boot_b_isinstance (pa_cons (pv 0) (pa_cons (pe_bltn (v := .ty "str") (by rfl) B.str boot_ty_str rfl) pa_nil))) (pe_callB (call_isiK' K) (by rfl) B.isinstance boot_b_isinstance (pa_cons (pv 1) (pa_cons (pe_bltn (v := .ty "str") (by rfl) B.str boot_ty_str rfl) pa_nil))) (nomark _)))))
        (pss_one (ps_ret pe_bl))
        pss_nil)
      (pss_one (ps_ret (pe_and (pe_cmpR (op_eqK K (hu65 hr)) (pe_callB (call_isiK' K) (by rfl) B.isinstance boot_b_isinstance (pa_cons (pv 0) (pa_cons (pe_bltn (v := .ty "int") (by rfl) B.int boot_ty_int rfl) pa_nil))) (pe_callB (call_isiK' K) (by rfl) B.isinstance boot_b_isinstance (pa_cons (pv 1) (pa_cons (pe_bltn (v := .ty "int") (by rfl) B.int boot_ty_int rfl) pa_nil))) (nomark _)) (pe_one (pe_cmpR (op_eqK K (hu65 hr)) (pv 0) (pv 1) (nomark _))))))))), ?_⟩
      refine q_wh (Own.one H) (by wtm_at "ev") (fun hb H1 o => ?_) (fun hb H1 o => ?_)
      · have hb : y = .non := by simpa using hb
        subst hb
        cases hy
        cases hx
        exact s_rv o (by wtm_at "ev") fun H1 o => o.retV k (j := 0) rfl rfl
      · have hb : ¬ y = .non := by simpa using hb
        have hx1 := dp_mono o.e0 hx
        have hy1 := dp_mono o.e0 hy
        -- a list or a tuple; else a number, a text, a bool
        have cls : (∃ (ds : List PyData) (xs ys : List V) (a b : Addr), x = .ref a ∧ y = .ref b ∧ d.depth = PyData.depthAll ds + 1 ∧ DpAll K H xs ds ∧ DpAll K H ys ds ∧ ds.length ≤ 40000 ∧ (∀ z ∈ ds, smD z) ∧ (SqL K H a xs ∧ SqL K H b ys ∧ kindS d = "list" ∨ SqT K H a xs ∧ SqT K H b ys ∧ kindS d = "tuple")) ∨
            ((∃ i, x = .int i ∧ y = .int i ∧ kindS d = "int") ∨ (∃ i, x = .str i ∧ y = .str i ∧ kindS d = "str") ∨ ∃ i, x = .bl i ∧ y = .bl i ∧ kindS d = "bool") := by
          cases hx with
          | non => cases hy; exact absurd rfl hb
          | bl i => cases hy; exact .inr (.inr (.inr ⟨i, rfl, rfl, rfl⟩))
          | int i => cases hy; exact .inr (.inl ⟨i, rfl, rfl, rfl⟩)
          | str i => cases hy; exact .inr (.inr (.inl ⟨i, rfl, rfl, rfl⟩))
          | lst h1 h2 =>
            cases hy with
            | lst h3 h4 => exact .inl ⟨_, _, _, _, _, rfl, rfl, by simp only [PyData.depth], h2, h4, (smD_list.mp hsm).1, (smD_list.mp hsm).2, .inl ⟨h1, h3, rfl⟩⟩
          | tup h1 h2 =>
            cases hy with
            | tup h3 h4 => exact .inl ⟨_, _, _, _, _, rfl, rfl, by simp only [PyData.depth], h2, h4, (smD_tuple.mp hsm).1, (smD_tuple.mp hsm).2, .inr ⟨h1, h3, rfl⟩⟩
        rcases cls with ⟨ds, xs, ys, a, b, ex, ey, hdd, ha, hb2, hl40, hsa, hq⟩ | sc
        · subst ex ey
          have kd : ∃ b1 b2, kitB (kindS d) "list" = some b1 ∧ kitB (kindS d) "tuple" = some b2 ∧ (b1 || b2) = true := by
            rcases hq with ⟨_, _, e⟩ | ⟨_, _, e⟩
            · rw [e]; exact ⟨true, false, by decide +kernel, by decide +kernel, rfl⟩
            · rw [e]; exact ⟨false, true, by decide +kernel, by decide +kernel, rfl⟩
          obtain ⟨b1, b2, k1, k2, k12⟩ := kd
          have lx := dpa_len ha
          have ly := dpa_len hb2
          refine q_fi (b := true) o (et_is (et_B (ev_isi2 (ev_var rfl) hy1 k1 k2)) k12) (fun _ H1 o => ?_) (fun h => nomatch h)
          have hx1 := dp_mono o.e0 hx
          have hy1 := dp_mono o.e0 hy
          refine q_wh (b := false) o (et_is (et_or (et_test (ev_op (ev_isi (ev_var rfl) hx1 k1) (ev_isi (ev_var rfl) hy1 k1) (rv_neS (by cases b1 <;> rfl)))) fun _ => et_test (ev_op (ev_isi (ev_var rfl) hx1 k2) (ev_isi (ev_var rfl) hy1 k2) (rv_neS (by cases b2 <;> rfl)))) (by simp)) (fun h => nomatch h) (fun _ H1 o => ?_)
          have EZ : EvI (RZ.iZipA K (tCons (tVar 0) (tCons (tVar 1) tNil))) [some (.ref a), some (.ref b), none, none] H1 H1 xs.length (fun i x H' => ∃ T y z, x = .ref T ∧ H' T = some (.tup [y, z]) ∧ xs[i]? = some y ∧ ys[i]? = some z) := by
            rcases hq with ⟨q1, q2, _⟩ | ⟨q1, q2, _⟩
            · exact ei_zip (by wtm_at "ev") (ex_l o.e0 q1) (ex_l o.e0 q2) (by omega) (Ex.refl _)
            · exact ei_zipT (by wtm_at "ev") (ex_t o.e0 q1) (ex_t o.e0 q2) (by omega) (Ex.refl _)
          have LX : RC (rLenU K) [.ref a] H1 (.int (xs.length : Int)) ∧ RC (rLenU K) [.ref b] H1 (.int (ys.length : Int)) := by
            rcases hq with ⟨q1, q2, _⟩ | ⟨q1, q2, _⟩
            · exact ⟨rc_lenL (ex_l o.e0 q1), rc_lenL (ex_l o.e0 q2)⟩
            · exact ⟨rc_lenT (ex_t o.e0 q1), rc_lenT (ex_t o.e0 q2)⟩
          refine s_rv o (v := .bl true) (ev_is (ev_andV (b := true) (ev_op (ev_cb (by wtm_at "ev") LX.1) (ev_cb (by wtm_at "ev") LX.2) rv_eqI) fun _ => ev_cb1 (ep_l (el_lc (fun i => [some (.ref a), some (.ref b), xs[i]?.map id, ys[i]?.map id]) (fun _ => true) (fun _ => .bl true) EZ (Ex.refl _) (by omega) ?_ ?_ ?_ ?_)) (fun v N H2 e2 i2 ⟨p, ev, hp⟩ => ?_)) ?_) fun H1 o => o.retV k (j := 0) rfl rfl
          · rintro i x H' hi ⟨T, y, z, rfl, hT, g1, g2⟩ Q hQ
            refine ⟨T, [y, z], rfl, st_of hT, rfl, y, [z], rfl, z, [], rfl, rfl, ?_⟩
            rw [g1, g2] at hQ
            exact hQ
          · intro i hi
            rfl
          · intro i H2 e2 hi H3 e3 Q q
            exact q H3 (Ex.refl _)
          · intro i H2 e2 hi _
            obtain ⟨y, hy2⟩ : ∃ y, xs[i]? = some y := ⟨_, List.getElem?_eq_getElem hi⟩
            obtain ⟨z, hz2⟩ : ∃ z, ys[i]? = some z := ⟨_, List.getElem?_eq_getElem (by omega)⟩
            obtain ⟨d1, g1, p1⟩ := dpa_get ha hy2
            obtain ⟨d2, g2, p2⟩ := dpa_get hb2 hz2
            rw [g1] at g2
            cases g2
            have dl := depthAll_get g1
            refine ev_callO (vs := [y, z]) (ea_cons (ev_var (by rw [hy2]; rfl)) (ea_cons (ev_var (by rw [hz2]; rfl)) ea_nil)) ⟨y, z, d1, rfl, dp_mono (o.e0.trans e2) p1, dp_mono (o.e0.trans e2) p2, hsa _ (List.mem_of_getElem? g1), by omega, rfl⟩
          · subst ev
            have hp : N p = some (.lst (((picks xs.length fun _ => true).map fun _ => true).map V.bl)) := by
              rw [hp, List.map_map]
              rfl
            have z := rc_all (K := K) (sq_of (i2 _ _ hp))
            rw [all_true] at z
            exact z
          · rw [lx, ly]
            simp
        · have kd : x = y ∧ scal x y = true ∧ kitB (kindS d) "list" = some false ∧ kitB (kindS d) "tuple" = some false ∧ ∃ b3 b4 b5, kitB (kindS d) "bool" = some b3 ∧ kitB (kindS d) "str" = some b4 ∧ kitB (kindS d) "int" = some b5 := by
            rcases sc with ⟨i, rfl, rfl, e⟩ | ⟨i, rfl, rfl, e⟩ | ⟨i, rfl, rfl, e⟩
            · rw [e]; exact ⟨rfl, rfl, by decide +kernel, by decide +kernel, false, false, true, by decide +kernel, by decide +kernel, by decide +kernel⟩
            · rw [e]; exact ⟨rfl, rfl, by decide +kernel, by decide +kernel, false, true, false, by decide +kernel, by decide +kernel, by decide +kernel⟩
            · rw [e]; exact ⟨rfl, rfl, by decide +kernel, by decide +kernel, true, false, true, by decide +kernel, by decide +kernel, by decide +kernel⟩
          obtain ⟨rfl, hsc, k1, k2, b3, b4, b5, k3, k4, k5⟩ := kd
          refine q_wh (b := false) o (et_is (et_B (ev_isi2 (ev_var rfl) hy1 k1 k2)) rfl) (fun h => nomatch h) (fun _ H1 o => ?_)
          have hx1 := dp_mono o.e0 hx
          refine q_wh (b := false) o (et_is (et_or (et_test (ev_op (ev_isi (ev_var rfl) hx1 k3) (ev_isi (ev_var rfl) hx1 k3) (rv_neS (by cases b3 <;> rfl)))) fun _ => et_test (ev_op (ev_isi (ev_var rfl) hx1 k4) (ev_isi (ev_var rfl) hx1 k4) (rv_neS (by cases b4 <;> rfl)))) (by simp)) (fun h => nomatch h) (fun _ H1 o => ?_)
          have hx1 := dp_mono o.e0 hx
          exact s_rv o (v := .bl true) (ev_is (ev_andV (ev_op (ev_isi (ev_var rfl) hx1 k5) (ev_isi (ev_var rfl) hx1 k5) (rv_eqS (by cases b5 <;> rfl))) fun _ => ev_op (ev_var rfl) (ev_var rfl) (rv_eqS hsc)) (by simp)) fun H1 o => o.retV k (j := 0) rfl rfl
end
abbrev s_is_syllable : Stmt := topS 13
theorem sc_is_syllable : FnScope ["text", "sign"] ["text"] (defScope s_is_syllable) := ⟨rfl, rfl, rfl, by decide +kernel, rfl, by decide +kernel, by decide +kernel⟩
abbrev s_is_verse : Stmt := topS 14
theorem sc_is_verse : FnScope ["line", "text"] ["line"] (defScope s_is_verse) := ⟨rfl, rfl, rfl, by decide +kernel, rfl, by decide +kernel, by decide +kernel⟩
abbrev s_begins : Stmt := topS 15
theorem sc_begins : FnScope ["heard", "line"] ["heard", "line"] (defScope s_begins) := ⟨rfl, rfl, rfl, by decide +kernel, rfl, by decide +kernel, by decide +kernel⟩
abbrev s_alike : Stmt := topS 16
theorem sc_alike : FnScope ["one", "other"] ["one", "other"] (defScope s_alike) := ⟨rfl, rfl, rfl, by decide +kernel, rfl, by decide +kernel, by decide +kernel⟩
section
variable {P : Program} {w : World} {K : PySem.W.Frag} {mg : Str → Option Value} {base : Heap}
/-! ### texts and lists of texts -/
def LT : List Nat := ("abcdefghijklmnopqrstuvwxyz" : Str).cps.toList
def isSyl (s : Str) : Bool := (decide ((1 : Int) ≤ (s.length : Int)) && decide ((s.length : Int) ≤ 3)) && s.cps.toList.all fun c => decide (c ∈ LT)
def isVer (l : List Str) : Bool := (decide ((1 : Int) ≤ (l.length : Int)) && decide ((l.length : Int) ≤ 8)) && l.all isSyl
def begM (h l : List Str) : Bool := decide (l.take h.length = h)
def alikeM (a b : List Str) : Bool := begM a b || begM b a
def R_is_syllable : Rl := ⟨fun vs _ r => ∃ s : Str, vs = [.str s] ∧ s.length ≤ 1000 ∧ r = .ok (is (.bl (isSyl s))), fun _ h => h⟩
def inLT : V → Bool
  | .str s => s.cps.toList.all fun c => decide (c ∈ LT)
  | _ => false
theorem signs_in (z : Str) : (signs z).all inLT = z.cps.toList.all fun c => decide (c ∈ LT) := by
  unfold signs
  rw [List.all_map]
  congr 1
  funext c
  simp [inLT]
theorem ok_is_syllable (B : Bt mg) {t_LETTERS t_MOST_SIGNS : Tok} (c_LETTERS : mg "LETTERS" = some (.str "abcdefghijklmnopqrstuvwxyz" t_LETTERS)) (c_MOST_SIGNS : mg "MOST_SIGNS" = some (.int 3 t_MOST_SIGNS)) (D : Df K mg "is_syllable" s_is_syllable ["text"]) : Ok P w K mg base 1 "is_syllable" ["text"] (R_is_syllable.sp mg) := by
  refine D.ok sc_is_syllable (fun vs H Q E h => ?_) (fun f cdv A outer s H vs Q E hr h => ?_)
  · obtain ⟨r, ⟨s, rfl, _⟩, _⟩ := h
    rfl
  · obtain ⟨r, ⟨z, rfl, hz, rfl⟩, k⟩ := h
    refine ⟨_, (pss_one (ps_ret (pe_and (pe_chain op_le op_le pe_int (pe_callB (call_lenK K) (by rfl) B.len boot_b_len (pa_cons (pv 0) pa_nil)) (pe_glob (v := .int 3) (by rfl) c_MOST_SIGNS ⟨_, rfl⟩)) (pe_one (pe_callB (cr_allK K rfl) (by rfl) B.all boot_b_all (pa_cons (pe_lc (own := [("sign", 1)]) rfl sc_is_syllable.nd (pi_str (pv 0)) (blkOk_by (N := ["text", "sign"]) (sc := defScope s_is_syllable) (by decide +kernel)) (fun _ _ _ _ _ => (pg_name (i := 1) sc_is_syllable.nd rfl (.inl rfl))) (fun _ _ _ _ _ => pts_nil) (fun _ _ _ _ _ => (pe_cmpR (op_inK K (hu65 hr)) (pv 1) (pe_glob (v := .str "abcdefghijklmnopqrstuvwxyz") (by rfl) c_LETTERS ⟨_, rfl⟩) (by rfl)))) pa_nil)))))), ?_⟩
    refine s_rv (Own.one H) (ev_is (ev_andV (ev_chain ev_c (ev_cb (by wtm_at "ev") (rc_lenS (by omega))) ev_c) fun _ => ev_allX (fun x => [some (.str z), some x]) inLT (ei_strX (G := H) (ev_var rfl)) (Ex.refl _) (by rw [signs_len]; omega) (fun _ _ _ _ q => q) (fun _ => rfl) ?_) (by rw [signs_in]; rfl)) fun H1 o => o.retV k (j := 0) rfl rfl
    intro x H2 e2 hx
    obtain ⟨c, _, rfl⟩ := List.mem_map.mp hx
    exact ev_is (ev_op (ev_var rfl) ev_c rv_sign) (by simp [inLT, LT])
/-- a list of texts at p -/
def Ln (K : PySem.W.Frag) (H : Hp) (p : Addr) (l : List Str) : Prop := SqL K H p (l.map V.str) ∧ l.length ≤ 1000 ∧ ∀ s ∈ l, TxtOk s
theorem Ln.mono {H H' : Hp} {p : Addr} {l : List Str} (e : Ex H H') (h : Ln K H p l) : Ln K H' p l := ⟨ex_l e h.1, h.2⟩
def R_is_verse (K : PySem.W.Frag) : Rl := ⟨fun vs H r => ∃ (p : Addr) (l : List Str), vs = [.ref p] ∧ Ln K H p l ∧ r = .ok (is (.bl (isVer l))), fun e ⟨p, l, h1, h2, h3⟩ => ⟨p, l, h1, h2.mono e, h3⟩⟩
def sylV : V → Bool
  | .str s => isSyl s
  | _ => false
theorem ok_is_verse (B : Bt mg) {t_MOST_SYLLABLES : Tok} (c_MOST_SYLLABLES : mg "MOST_SYLLABLES" = some (.int 8 t_MOST_SYLLABLES)) (O_is_syllable : Ok P w K mg base 1 "is_syllable" ["text"] (R_is_syllable.sp mg)) (D : Df K mg "is_verse" s_is_verse ["line"]) : Ok P w K mg base 2 "is_verse" ["line"] ((R_is_verse K).sp mg) := by
  refine D.ok sc_is_verse (fun vs H Q E h => ?_) (fun f cdv A outer s H vs Q E hr h => ?_)
  · obtain ⟨r, ⟨p, l, rfl, _⟩, _⟩ := h
    rfl
  · obtain ⟨r, ⟨p, l, rfl, ⟨h1, hl, ht⟩, rfl⟩, k⟩ := h
    refine ⟨_, (pss_one (ps_ret (pe_and (pe_chain op_le op_le pe_int (pe_callB (call_lenK K) (by rfl) B.len boot_b_len (pa_cons (pv 0) pa_nil)) (pe_glob (v := .int 8) (by rfl) c_MOST_SYLLABLES ⟨_, rfl⟩)) (pe_one (pe_callB (cr_allK K rfl) (by rfl) B.all boot_b_all (pa_cons (pe_lc (own := [("text", 1)]) rfl sc_is_verse.nd (pi_listK K (pv 0)) (blkOk_by (N := ["line", "text"]) (sc := defScope s_is_verse) (by decide +kernel)) (fun _ _ _ _ _ => (pg_name (i := 1) sc_is_verse.nd rfl (.inl rfl))) (fun _ _ _ _ _ => pts_nil) (fun _ _ _ _ _ => (pe_callO O_is_syllable (hr.mono (by omega)) (by rfl) takes0 (pa_cons (pv 1) pa_nil)))) pa_nil)))))), ?_⟩
    refine s_rv (Own.one H) (ev_is (ev_andV (ev_chain ev_c (ev_cb (by wtm_at "ev") (rc_lenL h1)) ev_c) fun _ => ev_allX (fun x => [some (.ref p), some x]) sylV (ei_list (ev_var rfl) h1 (Ex.refl _)) (Ex.refl _) (by rw [List.length_map]; omega) (fun _ _ _ _ q => q) (fun _ => rfl) ?_) ?_) fun H1 o => o.retV k (j := 0) rfl rfl
    · intro x H2 e2 hx
      obtain ⟨z, hz, rfl⟩ := List.mem_map.mp hx
      exact ev_callO (S := R_is_syllable) (by wtm_at "ev") ⟨z, rfl, (ht z hz).1, rfl⟩
    · rw [List.length_map, List.all_map]
      rfl
theorem cut_line (l : List Str) (n : Nat) : cutV (l.map V.str) none (some (n : Int)) = (l.take n).map V.str := by rw [cutV_take, List.map_take]
def R_begins (K : PySem.W.Frag) : Rl := ⟨fun vs H r => ∃ (p q : Addr) (h l : List Str), vs = [.ref p, .ref q] ∧ Ln K H p h ∧ Ln K H q l ∧ r = .ok (is (.bl (begM h l))), fun e ⟨p, q, h, l, h1, h2, h3, h4⟩ => ⟨p, q, h, l, h1, h2.mono e, h3.mono e, h4⟩⟩
theorem ok_begins (B : Bt mg) (D : Df K mg "begins" s_begins ["heard", "line"]) : Ok P w K mg base 1 "begins" ["heard", "line"] ((R_begins K).sp mg) := by
  refine D.ok sc_begins (fun vs H Q E h => ?_) (fun f cdv A outer s H vs Q E hr h => ?_)
  · obtain ⟨r, ⟨p, q, h, l, rfl, _⟩, _⟩ := h
    rfl
  · obtain ⟨r, ⟨p, q, h, l, rfl, ⟨h1, hl, ht⟩, ⟨h2, hl2, ht2⟩, rfl⟩, k⟩ := h
    refine ⟨_, (pss_one (ps_ret (pe_cmpR (op_eqK K (hu65 hr)) (pe_slice (sl_K K) (pv 1) po_none (po_some (pe_callB (call_lenK K) (by rfl) B.len boot_b_len (pa_cons (pv 0) pa_nil)))) (pv 0) (nomark _)))), ?_⟩
    refine s_rv (Own.one H) (ev_op1 (ep_l (el_sl' (ev_var rfl) eo_none (eo_some (ev_cb (by wtm_at "ev") (rc_lenL h1))) h2)) (ev_var rfl) ?_) fun H1 o => o.retV k (j := 0) rfl rfl
    rintro v N H1 e i1 ⟨c, rfl, hc⟩
    rw [cut_line, List.length_map] at hc
    have z := rv_eqD (K := K) (H := H1) (dp_line.mpr ⟨c, rfl, sq_of (i1 _ _ hc)⟩) (dp_line.mpr ⟨p, rfl, ex_l e h1⟩) (shaped_line fun s hs => ht2 s (List.mem_of_mem_take hs)) (shaped_line ht)
    rw [eqv_line] at z
    exact z
def R_alike (K : PySem.W.Frag) : Rl := ⟨fun vs H r => ∃ (p q : Addr) (h l : List Str), vs = [.ref p, .ref q] ∧ Ln K H p h ∧ Ln K H q l ∧ r = .ok (is (.bl (alikeM h l))), fun e ⟨p, q, h, l, h1, h2, h3, h4⟩ => ⟨p, q, h, l, h1, h2.mono e, h3.mono e, h4⟩⟩
theorem ok_alike (B : Bt mg) (O_begins : Ok P w K mg base 1 "begins" ["heard", "line"] ((R_begins K).sp mg)) (D : Df K mg "alike" s_alike ["one", "other"]) : Ok P w K mg base 2 "alike" ["one", "other"] ((R_alike K).sp mg) := by
  refine D.ok sc_alike (fun vs H Q E h => ?_) (fun f cdv A outer s H vs Q E hr h => ?_)
  · obtain ⟨r, ⟨p, q, h, l, rfl, _⟩, _⟩ := h
    rfl
  · obtain ⟨r, ⟨p, q, h, l, rfl, h1, h2, rfl⟩, k⟩ := h
    refine ⟨_, (pss_one (ps_ret (pe_or (pe_callO O_begins (hr.mono (by omega)) (by rfl) (takes_of rfl rfl rfl rfl) (pa_cons (pv 0) (pa_cons (pv 1) pa_nil))) (pe_one (pe_callO O_begins (hr.mono (by omega)) (by rfl) (takes_of rfl rfl rfl rfl) (pa_cons (pv 1) (pa_cons (pv 0) pa_nil))))))), ?_⟩
    exact s_rv (Own.one H) (ev_orV (ev_callO (S := R_begins K) (by wtm_at "ev") ⟨p, q, h, l, rfl, h1, h2, rfl⟩) fun _ => ev_callO (S := R_begins K) (by wtm_at "ev") ⟨q, p, l, h, rfl, h2, h1, rfl⟩) fun H1 o => o.retV k (j := 0) rfl rfl
end
abbrev s_BadVersed__initd_ : Stmt := inClass (topS 6) 0
theorem sc_BadVersed__initd_ : FnScope ["self", "row"] ["self", "row"] (defScope s_BadVersed__initd_) := ⟨rfl, rfl, rfl, by decide +kernel, rfl, by decide +kernel, by decide +kernel⟩
abbrev s_Aliked__initd_ : Stmt := inClass (topS 7) 0
theorem sc_Aliked__initd_ : FnScope ["self", "one", "other"] ["self", "one", "other"] (defScope s_Aliked__initd_) := ⟨rfl, rfl, rfl, by decide +kernel, rfl, by decide +kernel, by decide +kernel⟩
abbrev s_need_verses : Stmt := topS 17
theorem sc_need_verses : FnScope ["verses", "row", "line", "other", "one"] ["verses"] (defScope s_need_verses) := ⟨rfl, rfl, rfl, by decide +kernel, rfl, by decide +kernel, by decide +kernel⟩
section
variable {P : Program} {w : World} {K : PySem.W.Frag} {mg : Str → Option Value} {base : Heap}
/-! ### what is refused of rows -/
def row1 (ls : List (List Str)) (i : Nat) : List Str := ls.getD i []
def badRow (ls : List (List Str)) : Option Nat := (List.range ls.length).find? fun i => !isVer (row1 ls i)
def badOne (ls : List (List Str)) (j : Nat) : Option Nat := (List.range j).find? fun i => alikeM (row1 ls i) (row1 ls j)
def badTwo (ls : List (List Str)) : Option Nat := (List.range ls.length).find? fun j => (badOne ls j).isSome
def needM (ls : List (List Str)) : Option (Str × List (Str × V)) :=
  if 1 ≤ ls.length ∧ ls.length ≤ 40 then
    match badRow ls with
    | some i => some ("BadVerse", [("row", .int (i : Nat))])
    | none => match badTwo ls with
      | some j => some ("Alike", [("other", .int (j : Nat)), ("one", .int (((badOne ls j).getD 0 : Nat)))])
      | none => none
  else some ("BadBook", [])
def needR (ls : List (List Str)) (P : Hp → V → Prop) : Res := match needM ls with
  | some (x, fs) => .err x fs
  | none => .ok P
/-- rows of texts at v -/
def Bk (K : PySem.W.Frag) (H : Hp) (v : Addr) (ls : List (List Str)) : Prop := Dp K H (.ref v) (eBook ls) ∧ ls.length ≤ 1000 ∧ ∀ l ∈ ls, l.length ≤ 1000 ∧ ∀ s ∈ l, TxtOk s
theorem Bk.mono {H H' : Hp} {v : Addr} {ls : List (List Str)} (e : Ex H H') (h : Bk K H v ls) : Bk K H' v ls := ⟨dp_mono e h.1, h.2⟩
theorem Bk.rows {H : Hp} {v : Addr} {ls : List (List Str)} (h : Bk K H v ls) : ∃ xs, SqL K H v xs ∧ Rows K H xs ls := by
  obtain ⟨q, xs, e, h1, h2⟩ := dp_book.mp h.1
  cases e
  exact ⟨xs, h1, h2⟩
theorem row1_get {ls : List (List Str)} {i : Nat} (h : i < ls.length) : ls[i]? = some (row1 ls i) := by
  unfold row1
  rw [List.getD_eq_getElem?_getD, List.getElem?_eq_getElem h]
  rfl
theorem row1_mem {ls : List (List Str)} {i : Nat} (h : i < ls.length) : row1 ls i ∈ ls := List.mem_of_getElem? (row1_get h)
/-- the i-th row, in whatever heap -/
theorem Bk.row {H : Hp} {v : Addr} {ls : List (List Str)} {xs : List V} {i : Nat} (h : Bk K H v ls) (r : Rows K H xs ls) (hi : i < ls.length) : ∃ q, xs[i]? = some (.ref q) ∧ Ln K H q (row1 ls i) := by
  obtain ⟨q, h1, h2⟩ := r.get (row1_get hi)
  exact ⟨q, h1, h2, h.2.2 _ (row1_mem hi)⟩
theorem okx_BadVerse {C : Addr} (T : OexC K C) (n1 : PySem.W.findIn K (.ref C) "row" = some none) {f : Addr} {fd : FuncData} (F : Fun K "__init__" "BadVerse.__init__" s_BadVersed__initd_ f fd) : FnOk P w K mg base (L2.CX P w) 1 f fd ["self", "row"] (spXi C ["row"]) := by
  refine F.okX sc_BadVersed__initd_ (fun vs H Q E h => ?_) (fun cdv A outer s H vs Q E hr h => ?_)
  · obtain ⟨a, us, G, rfl, hl, _⟩ := h
    simpa using hl
  · obtain ⟨a, us, G, rfl, hl, rfl, ha, k⟩ := h
    obtain ⟨y, rfl⟩ : ∃ y, us = [y] := by
      match us, hl with
      | [y], _ => exact ⟨y, rfl⟩
    refine ⟨_, (pss_one (ps_ostK K (pv 0) (pv 1))), ?_⟩
    refine ⟨y, rfl, .ref a, rfl, a, C, rfl, T, n1, .inl ⟨upd_same, fun dx hdx hne => ?_⟩⟩
    rw [upd_ne hne] at hdx
    exact k dx _ hdx hne upd_same (by rw [upd_ne hne, upd_same]; rfl) (fun b h1 h2 => by rw [upd_ne h1, upd_ne h2, upd_ne h1])
theorem okx_Alike {C : Addr} (T : OexC K C) (n1 : PySem.W.findIn K (.ref C) "one" = some none) (n2 : PySem.W.findIn K (.ref C) "other" = some none) {f : Addr} {fd : FuncData} (F : Fun K "__init__" "Alike.__init__" s_Aliked__initd_ f fd) : FnOk P w K mg base (L2.CX P w) 1 f fd ["self", "one", "other"] (spXi C ["one", "other"]) := by
  refine F.okX sc_Aliked__initd_ (fun vs H Q E h => ?_) (fun cdv A outer s H vs Q E hr h => ?_)
  · obtain ⟨a, us, G, rfl, hl, _⟩ := h
    simpa using hl
  · obtain ⟨a, us, G, rfl, hl, rfl, ha, k⟩ := h
    obtain ⟨y, z, rfl⟩ : ∃ y z, us = [y, z] := by
      match us, hl with
      | [y, z], _ => exact ⟨y, z, rfl⟩
    refine ⟨_, (pss_cons (ps_ostK K (pv 0) (pv 1))
      (pss_one (ps_ostK K (pv 0) (pv 2)))), ?_⟩
    refine ⟨y, rfl, .ref a, rfl, a, C, rfl, T, n1, .inl ⟨upd_same, fun dx hdx hne => ?_⟩⟩
    rw [upd_ne hne] at hdx
    refine ⟨z, rfl, .ref a, rfl, a, C, rfl, T, n2, .inr ⟨dx, [("one", y)], upd_same, by rw [upd_ne hne, upd_same], by show 1 ≤ 900; decide, ?_⟩⟩
    exact k dx _ hdx hne (by rw [upd_ne hne.symm, upd_same]) upd_same (fun b h1 h2 => by rw [upd_ne h2, upd_ne h1, upd_ne h2, upd_ne h1])
def R_need_verses (K : PySem.W.Frag) : Rl := ⟨fun vs H r => ∃ (v : Addr) (ls : List (List Str)), vs = [.ref v] ∧ Bk K H v ls ∧ r = needR ls (is .non), fun e ⟨v, ls, h1, h2, h3⟩ => ⟨v, ls, h1, h2.mono e, h3⟩⟩
theorem ok_need_verses (B : Bt mg) {t_MOST_VERSES : Tok} (c_MOST_VERSES : mg "MOST_VERSES" = some (.int 40 t_MOST_VERSES)) {C_BadBook C_BadVerse C_Alike : Addr} (X_BadBook : Xc K mg "BadBook" C_BadBook) (X_BadVerse : Xi P w K mg base "BadVerse" C_BadVerse ["row"]) (X_Alike : Xi P w K mg base "Alike" C_Alike ["one", "other"])
    (O_is_verse : Ok P w K mg base 2 "is_verse" ["line"] ((R_is_verse K).sp mg)) (O_alike : Ok P w K mg base 2 "alike" ["one", "other"] ((R_alike K).sp mg)) (D : Df K mg "need_verses" s_need_verses ["verses"]) : Ok P w K mg base 3 "need_verses" ["verses"] ((R_need_verses K).sp mg) := by
  refine D.ok sc_need_verses (fun vs H Q E h => ?_) (fun f cdv A outer s H vs Q E hr h => ?_)
  · obtain ⟨r, ⟨v, ls, rfl, _⟩, _⟩ := h
    rfl
  · obtain ⟨r, ⟨v, ls, rfl, hB, rfl⟩, k⟩ := h
    obtain ⟨xs, hS, hR⟩ := hB.rows
    have hlen := hR.len
    refine ⟨_, (pss_cons (ps_if (pt_not (pt_chain op_le op_le pe_int (pe_callB (call_lenK K) (by rfl) B.len boot_b_len (pa_cons (pv 0) pa_nil)) (pe_glob (v := .int 40) (by rfl) c_MOST_VERSES ⟨_, rfl⟩)))
        (pss_one (ps_raise rfl (takes_of rfl rfl rfl rfl) (pmk_ex X_BadBook (by rfl))))
        pss_nil)
      (pss_cons (ps_for (passes_of rfl) rfl (pi_enumK K (by rfl) B.enumerate (pa_cons (pv 0) pa_nil)) (pg_tupK K (n := 2) rfl (pgs_cons (pg_name (i := 1) sc_need_verses.nd rfl (.inl rfl)) (pgs_cons (pg_name (i := 2) sc_need_verses.nd rfl (.inl rfl)) pgs_nil)))
        (pss_one (ps_if (pt_not (pt_val (pe_callO O_is_verse (hr.mono (by omega)) (by rfl) (takes_of rfl rfl rfl rfl) (pa_cons (pv 2) pa_nil))))
          (pss_one (ps_raise rfl (takes_of rfl rfl rfl rfl) (pmk_exI X_BadVerse hr (by omega) (by rfl) (pa_cons (pv 1) pa_nil))))
          pss_nil)))
      (pss_one (ps_for (passes_of rfl) rfl (pi_range1 (by rfl) B.range (pa_cons (pe_callB (call_lenK K) (by rfl) B.len boot_b_len (pa_cons (pv 0) pa_nil)) pa_nil)) (pg_name (i := 3) sc_need_verses.nd rfl (.inl rfl))
        (pss_one (ps_for (passes_of rfl) rfl (pi_range1 (by rfl) B.range (pa_cons (pv 3) pa_nil)) (pg_name (i := 4) sc_need_verses.nd rfl (.inl rfl))
          (pss_one (ps_if (pt_val (pe_callO O_alike (hr.mono (by omega)) (by rfl) (takes_of rfl rfl rfl rfl) (pa_cons (pe_ix (ix_seqK K) (pv 0) (pv 4) (fun _ _ => rfl)) (pa_cons (pe_ix (ix_seqK K) (pv 0) (pv 3) (fun _ _ => rfl)) pa_nil))))
            (pss_one (ps_raise rfl (takes_of rfl rfl rfl rfl) (pmk_exI X_Alike hr (by omega) (by rfl) (pa_cons (pv 4) (pa_cons (pv 3) pa_nil)))))
            pss_nil)))))))), ?_⟩
    have hl2 := hB.2.1
    refine q_wh (Own.one H) (et_not (et_test (ev_chain ev_c (ev_cb (by wtm_at "ev") (rc_lenL hS)) ev_c))) (fun hb H1 o => ?_) (fun hb H1 o => ?_)
    · have hb : ¬ (1 ≤ ls.length ∧ ls.length ≤ 40) := by
        rw [hlen] at hb
        intro ⟨z1, z2⟩
        rw [decide_eq_true (show (1 : Int) ≤ ((ls.length : Nat) : Int) by omega), decide_eq_true (show ((ls.length : Nat) : Int) ≤ 40 by omega)] at hb
        cases hb
      have e : needR ls (is .non) = .err "BadBook" [] := by
        unfold needR needM
        rw [if_neg hb]
      rw [e] at k
      exact k H1 C_BadBook none (o.ix (i := 0) rfl) X_BadBook.g (.inl ⟨rfl, rfl⟩)
    · have hb : 1 ≤ ls.length ∧ ls.length ≤ 40 := by
        rw [hlen] at hb
        by_cases z1 : (1 : Int) ≤ ((ls.length : Nat) : Int)
        · by_cases z2 : ((ls.length : Nat) : Int) ≤ 40
          · omega
          · rw [decide_eq_false z2, Bool.and_false] at hb
            cases hb
        · rw [decide_eq_false z1, Bool.false_and] at hb
          cases hb
      -- the rows one by one
      refine q_for (G := H) o (ei_enum (by wtm_at "ev") hS o.e0) (fun i σ H' => ∃ y1 y2, σ = [some (.ref v), y1, y2, none, none] ∧ Own [H] H' ∧ ∀ j, j < i → isVer (row1 ls j) = true) (fun H1 o => ⟨_, _, rfl, o, fun j hj => absurd hj (Nat.not_lt_zero _)⟩) (fun i σ H' _ ⟨_, _, _, o, _⟩ => o.e0) ?_ ?_
      · rintro i x σ H1 H2 hi ⟨y1, y2, rfl, o, ha⟩ e ⟨T, y, rfl, hT, hy⟩
        obtain ⟨q, hq, hLn⟩ := hB.row hR (i := i) (by omega)
        rw [hq] at hy
        cases hy
        have o := o.mono e
        refine ⟨T, _, rfl, st_of hT, rfl, _, _, rfl, _, _, rfl, rfl, ?_⟩
        refine s_wh o (et_not (et_B (ev_callO (S := R_is_verse K) (vs := [.ref q]) (by wtm_at "ev") ⟨q, _, rfl, hLn.mono o.e0, rfl⟩))) (fun hb2 H3 o => ?_) (fun hb2 H3 o => ?_)
        · have hv : isVer (row1 ls i) = false := by simpa using hb2
          have er : badRow ls = some i := List.find?_range_eq_some.mpr ⟨by rw [hv]; rfl, List.mem_range.mpr (by omega), fun j hj => by rw [ha j hj]; rfl⟩
          have e : needR ls (is .non) = .err "BadVerse" [("row", .int (i : Nat))] := by
            unfold needR needM
            rw [if_pos hb, er]
          rw [e] at k
          exact raise_xi (j := 0) (vs := [.int (i : Nat)]) o rfl (by wtm_at "ev") rfl (by show 1 ≤ 1000; decide) (by decide) X_BadVerse.g k
        · have hv : isVer (row1 ls i) = true := by simpa using hb2
          exact ⟨_, _, rfl, o, fun j hj => by
            rcases Nat.lt_succ_iff_lt_or_eq.mp hj with z | z
            · exact ha j z
            · rw [z]; exact hv⟩
      · rintro σ H1 ⟨y1, y2, rfl, o, ha⟩
        have er : badRow ls = none := by
          unfold badRow
          rw [List.find?_range_eq_none]
          intro j hj
          rw [ha j (by rw [hlen]; exact hj)]
          rfl
        have hS1 := ex_l o.e0 hS
        refine s_forN (G := H) o (ei_rng1 (ea_cons (ev_cb (by wtm_at "ev") (rc_lenL hS1)) ea_nil) (by omega)) (fun i σ H' => ∃ y3 y4, σ = [some (.ref v), y1, y2, y3, y4] ∧ Own [H] H' ∧ ∀ j, j < i → badOne ls j = none) (fun H1 o => ⟨_, _, rfl, o, fun j hj => absurd hj (Nat.not_lt_zero _)⟩) (fun i σ H' _ ⟨_, _, _, o, _⟩ => o.e0) ?_ ?_
        · rintro j x σ H1 H2 hj ⟨y3, y4, rfl, o, hb1⟩ e rfl
          have hj : j < ls.length := by omega
          have o := o.mono e
          refine s_forN (G := H) o (ei_rng1 (by wtm_at "ev") (by omega)) (fun i σ H' => ∃ y4, σ = [some (.ref v), y1, y2, some (.int (j : Nat)), y4] ∧ Own [H] H' ∧ ∀ i', i' < i → alikeM (row1 ls i') (row1 ls j) = false) (fun H1 o => ⟨_, rfl, o, fun j hj => absurd hj (Nat.not_lt_zero _)⟩) (fun i σ H' _ ⟨_, _, o, _⟩ => o.e0) ?_ ?_
          · rintro i x σ H3 H4 hi ⟨y4, rfl, o, hb2⟩ e rfl
            have hi : i < j := by omega
            have o := o.mono e
            obtain ⟨q1, hq1, hL1⟩ := hB.row hR (i := i) (by omega)
            obtain ⟨q2, hq2, hL2⟩ := hB.row hR (i := j) (by omega)
            have a1 : atI xs ((i : Nat) : Int) = some (.ref q1) := atI_nat hq1
            have a2 : atI xs ((j : Nat) : Int) = some (.ref q2) := atI_nat hq2
            have ix1 : Ev (tOp (rIx K) (tVar 0) (tVar 4)) [some (.ref v), y1, y2, some (.int (j : Nat)), some (.int (i : Nat))] H4 (.ref q1) := ev_op (ev_var rfl) (ev_var rfl) (rv_ixLs (ex_l o.e0 hS) a1)
            have ix2 : Ev (tOp (rIx K) (tVar 0) (tVar 3)) [some (.ref v), y1, y2, some (.int (j : Nat)), some (.int (i : Nat))] H4 (.ref q2) := ev_op (ev_var rfl) (ev_var rfl) (rv_ixLs (ex_l o.e0 hS) a2)
            refine s_wh o (et_B (ev_callO (S := R_alike K) (vs := [.ref q1, .ref q2]) (ea_cons ix1 (ea_cons ix2 ea_nil)) ⟨q1, q2, _, _, rfl, hL1.mono o.e0, hL2.mono o.e0, rfl⟩)) (fun hb3 H5 o => ?_) (fun hb3 H5 o => ?_)
            · have e1 : badOne ls j = some i := List.find?_range_eq_some.mpr ⟨hb3, List.mem_range.mpr hi, fun i' hi' => by rw [hb2 i' hi']; rfl⟩
              have e2 : badTwo ls = some j := List.find?_range_eq_some.mpr ⟨by rw [e1]; rfl, List.mem_range.mpr hj, fun j' hj' => by rw [hb1 j' hj']; rfl⟩
              have e : needR ls (is .non) = .err "Alike" [("other", .int (j : Nat)), ("one", .int (i : Nat))] := by
                unfold needR needM
                rw [if_pos hb, er, e2]
                simp only [e1, Option.getD_some]
              rw [e] at k
              exact raise_xi (j := 0) (vs := [.int (i : Nat), .int (j : Nat)]) o rfl (by wtm_at "ev") rfl (by show 2 ≤ 1000; decide) (by decide) X_Alike.g k
            · exact ⟨_, rfl, o, fun i' hi' => by
                rcases Nat.lt_succ_iff_lt_or_eq.mp hi' with z | z
                · exact hb2 i' z
                · rw [z]; exact hb3⟩
          · rintro σ H3 ⟨y4, rfl, o, hb2⟩
            refine ⟨_, _, rfl, o, fun j' hj' => ?_⟩
            rcases Nat.lt_succ_iff_lt_or_eq.mp hj' with z | z
            · exact hb1 j' z
            · rw [z]
              unfold badOne
              rw [List.find?_range_eq_none]
              intro i hi
              rw [hb2 i (by omega)]
              rfl
        · rintro σ H1 ⟨y3, y4, rfl, o, hb1⟩
          have e2 : badTwo ls = none := by
            unfold badTwo
            rw [List.find?_range_eq_none]
            intro j hj
            rw [hb1 j (by omega)]
            rfl
          have e : needR ls (is .non) = .ok (is .non) := by
            unfold needR needM
            rw [if_pos hb, er, e2]
          rw [e] at k
          exact o.retV k (j := 0) rfl rfl
abbrev s_Bookd__initd_ : Stmt := inClass (topS 18) 0
theorem sc_Bookd__initd_ : FnScope ["self", "verses", "line"] ["self", "verses"] (defScope s_Bookd__initd_) := ⟨rfl, rfl, rfl, by decide +kernel, rfl, by decide +kernel, by decide +kernel⟩
abbrev s_Book_many : Stmt := inClass (topS 18) 1
theorem sc_Book_many : FnScope ["self"] ["self"] (defScope s_Book_many) := ⟨rfl, rfl, rfl, by decide +kernel, rfl, by decide +kernel, by decide +kernel⟩
abbrev s_Book_verse : Stmt := inClass (topS 18) 2
theorem sc_Book_verse : FnScope ["self", "number"] ["self", "number"] (defScope s_Book_verse) := ⟨rfl, rfl, rfl, by decide +kernel, rfl, by decide +kernel, by decide +kernel⟩
abbrev s_Book_verses : Stmt := inClass (topS 18) 3
theorem sc_Book_verses : FnScope ["self", "line"] ["self"] (defScope s_Book_verses) := ⟨rfl, rfl, rfl, by decide +kernel, rfl, by decide +kernel, by decide +kernel⟩
/-! ### books -/
/-- a book: its verses lie in lists of its own -/
def BookAt (K : PySem.W.Frag) (C : Addr) (H : Hp) (b : Addr) (ls : List (List Str)) : Prop := (∃ dx p, H b = some (.ins C dx [("lines", .ref p)]) ∧ Bk K H p ls) ∧ needM ls = none
theorem BookAt.mono {C : Addr} {H H' : Hp} {b : Addr} {ls : List (List Str)} (e : Ex H H') (h : BookAt K C H b ls) : BookAt K C H' b ls := by
  obtain ⟨⟨dx, p, h1, h2⟩, h3⟩ := h
  exact ⟨⟨dx, p, e _ _ h1, h2.mono e⟩, h3⟩
abbrev pBook (K : PySem.W.Frag) (C : Addr) (ls : List (List Str)) : Hp → V → Prop := fun N v => ∃ b, v = .ref b ∧ BookAt K C N b ls
/-- what the class of books has -/
structure TBook (K : PySem.W.Frag) (mg : Str → Option Value) (C : Addr) : Prop where
  cl : Cls K C
  g : mg "Book" = some (.ref C)
  n_lines : NoAttr K C "lines"
def R_Book (K : PySem.W.Frag) (C : Addr) : Rl := ⟨fun vs H r => ∃ (v : Addr) (ls : List (List Str)), vs = [.ref v] ∧ Bk K H v ls ∧ r = needR ls (pBook K C ls), fun e ⟨v, ls, h1, h2, h3⟩ => ⟨v, ls, h1, h2.mono e, h3⟩⟩
/-- a copy of rows: new lists -/
def Cells (N : Hp) (p : Addr) (ls : List (List Str)) : Prop := ∃ xs, N p = some (.lst xs) ∧ Paired (fun x l => ∃ q, x = V.ref q ∧ N q = some (.lst (l.map V.str))) xs ls
abbrev pRows (K : PySem.W.Frag) (ls : List (List Str)) : Hp → V → Prop := fun N v => ∃ p, v = .ref p ∧ Bk K N p ls ∧ Cells N p ls
theorem ep_list {σ : L2.St} {H : Hp} {te : TE} {p : Addr} {xs : List V} (h : Ev te σ H (.ref p)) (hs : SqL K H p xs ∨ SqT K H p xs) : EvP (tCB (rListS K) (tCons te tNil)) σ H (pLst xs) := fun H1 e Q q =>
  h H1 e _ fun H2 e2 => ⟨p, xs, rfl, hs.imp (ex_l (e.trans e2)) (ex_t (e.trans e2)), fun l hl => q (.ref l) _ (sing l (.lst xs)) (e2.trans (Ex.new hl)) (sing_ex upd_same) (sing_fr (fresh_back e2 hl)) ⟨l, rfl, sing_at⟩⟩
/-- [list(line) for line in rows]; S: the slots with the row at hand -/
theorem ep_copy {σ : L2.St} {H : Hp} {tl : TE} {p : Addr} {ls : List (List Str)} {j : Nat} {vs : List Nat} (S : V → L2.St) (h : Ev tl σ H (.ref p)) (hB : Bk K H p ls) (hg : ∀ x, (wipe σ vs).set j (some x) = S x) (hw : ∀ x, wipe (S x) vs = wipe σ vs) (hj : ∀ x, (S x)[j]? = some (some x)) :
    EvP (tLc (iList K tl) (gName j) tYes (tCB (rListS K) (tCons (tVar j) tNil)) vs) σ H (pRows K ls) := by
  obtain ⟨xs, hS, hR⟩ := hB.rows
  have hl := hR.len
  have hl2 := hB.2.1
  refine ep_imp (ep_lc (n := xs.length) (fun i => S (xs.getD i .non)) (fun _ => true) (fun i N y => ∃ p, y = .ref p ∧ N p = some (.lst ((row1 ls i).map V.str))) (fun i N N' v e ⟨p, h3, h4⟩ => ⟨p, h3, e _ _ h4⟩) (ei_list h hS (Ex.refl _)) (Ex.refl _) (by omega) (fun i x H' _ hx Q q => by rw [getD_of hx, ← hg] at q; exact q) (fun _ _ => hw _) (fun _ _ _ _ => et_yes) (fun i H1 e hlt _ => ?_)) ?_
  · obtain ⟨q, hq, hL⟩ := hB.row hR (i := i) (by omega)
    rw [getD_of hq]
    exact ep_list (ev_var (hj _)) (.inl (ex_l e hL.1))
  · rintro N v ⟨p', ys, rfl, hp, hpr⟩
    rw [picks_all] at hpr
    have hly := Paired.length hpr
    rw [List.length_range] at hly
    suffices z : Paired (fun x l => ∃ q, x = V.ref q ∧ N q = some (.lst (l.map V.str))) ys ls by
      exact ⟨p', rfl, ⟨dp_book.mpr ⟨p', ys, rfl, sq_of hp, paired_imp (fun _ _ ⟨q, h1, h2⟩ => ⟨q, h1, sq_of h2⟩) z⟩, hB.2⟩, ys, hp, z⟩
    refine paired_of (by omega) fun i y l h1 h2 => ?_
    have hi : i < ls.length := (List.getElem?_eq_some_iff.mp h2).1
    obtain ⟨y', h3, p, h4, h5⟩ := paired_get hpr (i := i) (x := i) (List.getElem?_range (by omega))
    rw [h1] at h3
    cases h3
    rw [row1_get hi] at h2
    cases h2
    exact ⟨p, h4, h5⟩
theorem ok_Bookd__initd_ (B : Bt mg) {C_Book : Addr} (T : TBook K mg C_Book) (O_need_verses : Ok P w K mg base 3 "need_verses" ["verses"] ((R_need_verses K).sp mg)) (D : Dm K C_Book "__init__" "Book.__init__" s_Bookd__initd_ ["self", "verses"]) : OkM P w K mg base 4 C_Book "__init__" ["self", "verses"] ((R_Book K C_Book).spI mg C_Book) := by
  refine D.ok sc_Bookd__initd_ (fun vs H Q E h => ?_) (fun f cdv A outer s H vs Q E hr h => ?_)
  · obtain ⟨x, dx, us, G, r, rfl, _, _, _, _, ⟨v, ls, rfl, _⟩, _⟩ := h
    rfl
  · obtain ⟨x, dx, us, G, r, rfl, rfl, hx, hdx, hne, ⟨v, ls, rfl, hB, rfl⟩, k⟩ := h
    refine ⟨_, (pss_cons (ps_expr (pe_callO O_need_verses (hr.mono (by omega)) (by rfl) (takes_of rfl rfl rfl rfl) (pa_cons (pv 1) pa_nil)))
      (pss_one (ps_fldK K (pv 0) (pe_lc (own := [("line", 2)]) rfl sc_Bookd__initd_.nd (pi_listK K (pv 1)) (blkOk_by (N := ["self", "verses", "line"]) (sc := defScope s_Bookd__initd_) (by decide +kernel)) (fun _ _ _ _ _ => (pg_name (i := 2) sc_Bookd__initd_.nd rfl (.inl rfl))) (fun _ _ _ _ _ => pts_nil) (fun _ _ _ _ _ => (pe_callTy (call_listK K) (by rfl) B.list boot_ty_list (pa_cons (pv 2) pa_nil))))))), ?_⟩
    have o : Own [sing x (.ins C_Book dx []), G] _ := own_init hx hdx hne
    cases hn : needM ls with
    | some z =>
      obtain ⟨xn, fs⟩ := z
      have e : needR ls (pBook K C_Book ls) = .err xn fs := by unfold needR; rw [hn]
      rw [e] at k
      exact q_der (er_call (S := R_need_verses K) (by wtm_at "ev") ⟨v, ls, rfl, hB.mono o.e1, by unfold needR; rw [hn]⟩) (k.fwd o.e1)
    | none =>
      have e : needR ls (pBook K C_Book ls) = .ok (pBook K C_Book ls) := by unfold needR; rw [hn]
      rw [e] at k
      refine q_dv o (ep_call (S := R_need_verses K) (P := is .non) (by wtm_at "ev") ⟨v, ls, rfl, hB.mono o.e1, by unfold needR; rw [hn]⟩) fun H1 o => ?_
      refine s_fld (j := 0) o rfl (ev_var rfl) (ep_copy (fun x' => [some (.ref x), some (.ref v), some x']) (ev_var rfl) (hB.mono o.e1) (fun _ => rfl) (fun _ => rfl) (fun _ => rfl)) T.cl T.n_lines (by show 0 < 1000; decide) fun v2 H1 N o hp => ?_
      obtain ⟨p, rfl, hp, _⟩ := hp
      have o : Own [N, sing x (.ins C_Book dx [("lines", .ref p)]), G] H1 := o
      exact k H1 (uni (sing x (.ins C_Book dx [("lines", .ref p)])) N) o.e2 o.merge.e0 (o.merge.dj (i := 0) (j := 1) (by decide) rfl rfl) ⟨x, rfl, ⟨dx, p, uni_l (o.dj (i := 0) (j := 1) (by decide) rfl rfl) _ _ sing_at, hp.mono uni_r⟩, hn⟩
end
section
variable {P : Program} {w : World} {K : PySem.W.Frag} {mg : Str → Option Value} {base : Heap}
abbrev pLine (l : List Str) : Hp → V → Prop := pLst (l.map V.str)
def R_Book_many (K : PySem.W.Frag) (C : Addr) : Rl := ⟨fun vs H r => ∃ (b : Addr) (ls : List (List Str)), vs = [.ref b] ∧ BookAt K C H b ls ∧ r = .ok (is (.int (ls.length : Nat))), fun e ⟨b, ls, h1, h2, h3⟩ => ⟨b, ls, h1, h2.mono e, h3⟩⟩
theorem ok_Book_many (B : Bt mg) {C_Book : Addr} (T : TBook K mg C_Book) (D : Dm K C_Book "many" "Book.many" s_Book_many ["self"]) : OkM P w K mg base 1 C_Book "many" ["self"] ((R_Book_many K C_Book).sp mg) := by
  refine D.ok sc_Book_many (fun vs H Q E h => ?_) (fun f cdv A outer s H vs Q E hr h => ?_)
  · obtain ⟨r, ⟨b, ls, rfl, _⟩, _⟩ := h
    rfl
  · obtain ⟨r, ⟨b, ls, rfl, ⟨⟨dx, p, hb, hB⟩, hn⟩, rfl⟩, k⟩ := h
    refine ⟨_, (pss_one (ps_ret (pe_callB (call_lenK K) (by rfl) B.len boot_b_len (pa_cons (pe_fldK K (pv 0)) pa_nil)))), ?_⟩
    obtain ⟨xs, hS, hR⟩ := hB.rows
    refine s_rv (Own.one H) (ev_cb (ea_cons (ev_fld (ev_var rfl) hb T.cl T.n_lines rfl) ea_nil) (rc_lenL hS)) fun H1 o => o.retV k (j := 0) rfl ?_
    rw [hR.len]
def verseR (ls : List (List Str)) (i : Int) : Res := if 0 ≤ i ∧ i < ls.length then .ok (pLine (row1 ls i.toNat)) else .err "NoVerse" []
def R_Book_verse (K : PySem.W.Frag) (C : Addr) : Rl := ⟨fun vs H r => ∃ (b : Addr) (ls : List (List Str)) (i : Int), vs = [.ref b, .int i] ∧ BookAt K C H b ls ∧ r = verseR ls i, fun e ⟨b, ls, i, h1, h2, h3⟩ => ⟨b, ls, i, h1, h2.mono e, h3⟩⟩
theorem ok_Book_verse (B : Bt mg) {C_Book C_NoVerse : Addr} (T : TBook K mg C_Book) (X_NoVerse : Xc K mg "NoVerse" C_NoVerse) (D : Dm K C_Book "verse" "Book.verse" s_Book_verse ["self", "number"]) : OkM P w K mg base 1 C_Book "verse" ["self", "number"] ((R_Book_verse K C_Book).sp mg) := by
  refine D.ok sc_Book_verse (fun vs H Q E h => ?_) (fun f cdv A outer s H vs Q E hr h => ?_)
  · obtain ⟨r, ⟨b, ls, i, rfl, _⟩, _⟩ := h
    rfl
  · obtain ⟨r, ⟨b, ls, i, rfl, ⟨⟨dx, p, hb, hB⟩, hn⟩, rfl⟩, k⟩ := h
    refine ⟨_, (pss_cons (ps_if (pt_not (pt_chain op_le op_lt pe_int (pv 1) (pe_callB (call_lenK K) (by rfl) B.len boot_b_len (pa_cons (pe_fldK K (pv 0)) pa_nil))))
        (pss_one (ps_raise rfl (takes_of rfl rfl rfl rfl) (pmk_ex X_NoVerse (by rfl))))
        pss_nil)
      (pss_one (ps_ret (pe_callTy (call_listK K) (by rfl) B.list boot_ty_list (pa_cons (pe_ix (ix_seqK K) (pe_fldK K (pv 0)) (pv 1) (fun _ _ => rfl)) pa_nil))))), ?_⟩
    obtain ⟨xs, hS, hR⟩ := hB.rows
    have hl := hR.len
    refine q_wh (Own.one H) (et_not (et_test (ev_chain ev_c (ev_var rfl) (ev_cb (ea_cons (ev_fld (ev_var rfl) hb T.cl T.n_lines rfl) ea_nil) (rc_lenL hS))))) (fun h0 H1 o => ?_) (fun h0 H1 o => ?_)
    · have h0 : ¬ (0 ≤ i ∧ i < ls.length) := fun ⟨z1, z2⟩ => by
        rw [hl, decide_eq_true z1, decide_eq_true z2] at h0
        cases h0
      unfold verseR at k
      rw [if_neg h0] at k
      exact k H1 C_NoVerse none (o.ix (i := 0) rfl) X_NoVerse.g (.inl ⟨rfl, rfl⟩)
    · have h0 : 0 ≤ i ∧ i < ls.length := by
        rw [hl] at h0
        by_cases z1 : 0 ≤ i
        · by_cases z2 : i < ls.length
          · exact ⟨z1, z2⟩
          · rw [decide_eq_false z2, Bool.and_false] at h0
            cases h0
        · rw [decide_eq_false z1, Bool.false_and] at h0
          cases h0
      unfold verseR at k
      rw [if_pos h0] at k
      obtain ⟨n, rfl⟩ : ∃ n : Nat, i = n := ⟨i.toNat, by omega⟩
      obtain ⟨q, hq, hL⟩ := hB.row hR (i := n) (by omega)
      refine s_rn o (ep_list (K := K) (ev_op (ev_fld (ev_var rfl) (o.e0 _ _ hb) T.cl T.n_lines rfl) (ev_var rfl) (rv_ixLs (ex_l o.e0 hS) (atI_nat hq))) (.inl (ex_l o.e0 hL.1))) fun v H1 N o p => o.ret k (i := 0) (j := 1) rfl rfl p
def R_Book_verses (K : PySem.W.Frag) (C : Addr) : Rl := ⟨fun vs H r => ∃ (b : Addr) (ls : List (List Str)), vs = [.ref b] ∧ BookAt K C H b ls ∧ r = .ok (pRows K ls), fun e ⟨b, ls, h1, h2, h3⟩ => ⟨b, ls, h1, h2.mono e, h3⟩⟩
theorem ok_Book_verses (B : Bt mg) {C_Book : Addr} (T : TBook K mg C_Book) (D : Dm K C_Book "verses" "Book.verses" s_Book_verses ["self"]) : OkM P w K mg base 1 C_Book "verses" ["self"] ((R_Book_verses K C_Book).sp mg) := by
  refine D.ok sc_Book_verses (fun vs H Q E h => ?_) (fun f cdv A outer s H vs Q E hr h => ?_)
  · obtain ⟨r, ⟨b, ls, rfl, _⟩, _⟩ := h
    rfl
  · obtain ⟨r, ⟨b, ls, rfl, ⟨⟨dx, p, hb, hB⟩, hn⟩, rfl⟩, k⟩ := h
    refine ⟨_, (pss_one (ps_ret (pe_lc (own := [("line", 1)]) rfl sc_Book_verses.nd (pi_listK K (pe_fldK K (pv 0))) (blkOk_by (N := ["self", "line"]) (sc := defScope s_Book_verses) (by decide +kernel)) (fun _ _ _ _ _ => (pg_name (i := 1) sc_Book_verses.nd rfl (.inl rfl))) (fun _ _ _ _ _ => pts_nil) (fun _ _ _ _ _ => (pe_callTy (call_listK K) (by rfl) B.list boot_ty_list (pa_cons (pv 1) pa_nil)))))), ?_⟩
    exact s_rn (Own.one H) (ep_copy (fun x => [some (.ref b), some x]) (ev_fld (ev_var rfl) hb T.cl T.n_lines rfl) hB (fun _ => rfl) (fun _ => rfl) (fun _ => rfl)) fun v H1 N o p => o.ret k (i := 0) (j := 1) rfl rfl p
end
abbrev s__law_sound : Stmt := topS 38
theorem sc__law_sound : FnScope ["_law_number", "_law_letters", "_law_k"] ["_law_number"] (defScope s__law_sound) := ⟨rfl, rfl, rfl, by decide +kernel, rfl, by decide +kernel, by decide +kernel⟩
abbrev s__law_pool : Stmt := topS 39
theorem sc__law_pool : FnScope ["_law_d", "_law_k"] ["_law_d"] (defScope s__law_pool) := ⟨rfl, rfl, rfl, by decide +kernel, rfl, by decide +kernel, by decide +kernel⟩
abbrev s__law_alike : Stmt := topS 40
theorem sc__law_alike : FnScope ["_law_one", "_law_other", "_law_size"] ["_law_one", "_law_other"] (defScope s__law_alike) := ⟨rfl, rfl, rfl, by decide +kernel, rfl, by decide +kernel, by decide +kernel⟩
section
variable {P : Program} {w : World} {K : PySem.W.Frag} {mg : Str → Option Value} {base : Heap}
theorem LT_lt {c : Nat} (h : c ∈ LT) : c < 128 := by
  have z : LT.all (fun c => decide (c < 128)) = true := by decide +kernel
  exact of_decide_eq_true (List.all_eq_true.mp z c h)
theorem syl_ok {s : Str} (h : isSyl s = true) : TxtOk s := by
  unfold isSyl at h
  simp only [Bool.and_eq_true, decide_eq_true_eq, List.all_eq_true] at h
  exact ⟨by omega, fun c hc => LT_lt (h.2 c hc)⟩
theorem join1 (a : Nat) : Txt.join ("" : Str) [⟨#[a]⟩] = ⟨#[a]⟩ := by rw [TL.join_eq]; rfl
theorem join2 (a b : Nat) : Txt.join ("" : Str) [⟨#[a]⟩, ⟨#[b]⟩] = ⟨#[a, b]⟩ := by rw [TL.join_eq]; rfl
theorem join3 (a b c : Nat) : Txt.join ("" : Str) [⟨#[a]⟩, ⟨#[b]⟩, ⟨#[c]⟩] = ⟨#[a, b, c]⟩ := by rw [TL.join_eq]; rfl
abbrev pStr (C : Str → Prop) : Hp → V → Prop := fun _ v => ∃ s, v = .str s ∧ C s
def R__law_sound : Rl := ⟨fun vs _ r => ∃ n : Int, vs = [.int n] ∧ 0 ≤ n ∧ n < 10000 ∧ r = .ok (pStr fun s => isSyl s = true), fun _ h => h⟩
def soundC (n : Int) (k : Int) : Nat := LT.getD ((n / 3 + k * (n / 79)) % 26).toNat 0
theorem sound_at (n k : Int) : atI LT ((n / 3 + k * (n / 79)) % 26) = some (soundC n k) ∧ soundC n k ∈ LT := by
  have h0 : 0 ≤ (n / 3 + k * (n / 79)) % 26 := Int.emod_nonneg _ (by decide)
  have h1 : (n / 3 + k * (n / 79)) % 26 < 26 := Int.emod_lt_of_pos _ (by decide)
  unfold soundC
  generalize (n / 3 + k * (n / 79)) % 26 = z at *
  obtain ⟨m, rfl⟩ : ∃ m : Nat, z = m := ⟨z.toNat, by omega⟩
  have hl : LT.length = 26 := by decide +kernel
  have hm : m < LT.length := by omega
  have e : LT.getD m 0 = LT[m] := by rw [List.getD_eq_getElem?_getD, List.getElem?_eq_getElem hm]; rfl
  rw [show ((m : Nat) : Int).toNat = m from rfl, e]
  exact ⟨atI_nat (List.getElem?_eq_getElem hm), List.getElem_mem hm⟩
theorem isSyl_of {l : List Nat} (h1 : 1 ≤ l.length) (h3 : l.length ≤ 3) (h : ∀ c ∈ l, c ∈ LT) : isSyl ⟨l.toArray⟩ = true := by
  unfold isSyl
  have e : (⟨l.toArray⟩ : Str).length = l.length := by simp [Str.length]
  rw [e]
  simp only [Bool.and_eq_true, decide_eq_true_eq, List.all_eq_true]
  exact ⟨⟨by omega, by omega⟩, fun c hc => h c (by simpa using hc)⟩
theorem mt_join_ev {σ : L2.St} {H : Hp} {te : TE} {ys : List Str} {a : Str} (h : EvL te σ H (ys.map V.str)) (hz : (ys.map (·.length)).sum + ys.length * a.length ≤ 16777216) : Ev (tBM K "str" (rJoin K) (tC (.str a)) (tCons te tNil)) σ H (.str (Txt.join a ys)) := fun H1 e Q q =>
  ⟨rfl, h H1 e _ fun p H2 hp e2 h2 => ⟨a, p, ys, rfl, rfl, .inl (sq_of h2), hz, q H2 e2⟩⟩
theorem ok__law_sound (B : Bt mg) (D : Df K mg "_law_sound" s__law_sound ["_law_number"]) : Ok P w K mg base 1 "_law_sound" ["_law_number"] (R__law_sound.sp mg) := by
  refine D.ok sc__law_sound (fun vs H Q E h => ?_) (fun f cdv A outer s H vs Q E hr h => ?_)
  · obtain ⟨r, ⟨n, rfl, _⟩, _⟩ := h
    rfl
  · obtain ⟨r, ⟨n, rfl, h0, h1, rfl⟩, k⟩ := h
    refine ⟨_, (pss_cons (ps_set (i := 1) sc__law_sound.nd rfl (.inr rfl) pe_str)
      (pss_one (ps_ret (pe_bmK K PySem.F.plainAttrs_str PySem.F.slot_str_join PySem.F.type_str_join (mt_joinK K) pe_str (pa_cons (pe_lc (own := [("_law_k", 2)]) rfl sc__law_sound.nd (pi_range1 (by rfl) B.range (pa_cons (pe_op (op_addK K) pe_int (pe_op op_mod (pv 0) pe_int)) pa_nil)) (blkOk_by (N := ["_law_number", "_law_letters", "_law_k"]) (sc := defScope s__law_sound) (by decide +kernel)) (fun _ _ _ _ _ => (pg_name (i := 2) sc__law_sound.nd rfl (.inl rfl))) (fun _ _ _ _ _ => pts_nil) (fun _ _ _ _ _ => (pe_ix (ix_seqK K) (pv 1) (pe_op op_mod (pe_op (op_addK K) (pe_op op_fdiv (pv 0) pe_int) (pe_op op_mulU (pv 2) (pe_op op_fdiv (pv 0) pe_int))) pe_int) (fun _ _ => rfl)))) pa_nil))))), ?_⟩
    refine q_v (Own.one H) ev_c fun H1 o => ?_
    have hnn : -100 ≤ n / 79 ∧ n / 79 ≤ 1000 := by omega
    have hm : n % 3 = 0 ∨ n % 3 = 1 ∨ n % 3 = 2 := by omega
    have fin : isSyl (Txt.join ("" : Str) ((List.range (1 + n % 3).toNat).map fun i => (⟨#[soundC n (i : Nat)]⟩ : Str))) = true ∧ (((List.range (1 + n % 3).toNat).map fun i => (⟨#[soundC n (i : Nat)]⟩ : Str)).map (·.length)).sum ≤ 3 ∧ ((List.range (1 + n % 3).toNat).map fun i => (⟨#[soundC n (i : Nat)]⟩ : Str)).length ≤ 3 := by
      have m : ∀ k : Int, soundC n k ∈ LT := fun k => (sound_at n k).2
      rcases hm with hm | hm | hm
      · rw [hm]
        refine ⟨?_, Nat.le_of_ble_eq_true rfl, Nat.le_of_ble_eq_true rfl⟩
        show isSyl (Txt.join ("" : Str) [⟨#[soundC n 0]⟩]) = true
        rw [join1]
        exact isSyl_of (l := [_]) (Nat.le_of_ble_eq_true rfl) (Nat.le_of_ble_eq_true rfl) (by simp [m])
      · rw [hm]
        refine ⟨?_, Nat.le_of_ble_eq_true rfl, Nat.le_of_ble_eq_true rfl⟩
        show isSyl (Txt.join ("" : Str) [⟨#[soundC n 0]⟩, ⟨#[soundC n 1]⟩]) = true
        rw [join2]
        exact isSyl_of (l := [_, _]) (Nat.le_of_ble_eq_true rfl) (Nat.le_of_ble_eq_true rfl) (by simp [m])
      · rw [hm]
        refine ⟨?_, Nat.le_of_ble_eq_true rfl, Nat.le_of_ble_eq_true rfl⟩
        show isSyl (Txt.join ("" : Str) [⟨#[soundC n 0]⟩, ⟨#[soundC n 1]⟩, ⟨#[soundC n 2]⟩]) = true
        rw [join3]
        exact isSyl_of (l := [_, _, _]) (Nat.le_of_ble_eq_true rfl) (Nat.le_of_ble_eq_true rfl) (by simp [m])
    refine s_rv o (mt_join_ev (ys := (List.range (1 + n % 3).toNat).map fun i => (⟨#[soundC n (i : Nat)]⟩ : Str)) (el_is (el_lcX (fun x => [some (.int n), some (.str "abcdefghijklmnopqrstuvwxyz"), some x]) (fun _ => true) (fun x => match x with | .int i => .str ⟨#[soundC n i]⟩ | _ => .non) (ei_rngX (G := H1) (by wtm_at "ev") (by omega)) (Ex.refl _) (by rw [rngV_len]; omega) (fun _ _ _ _ q => q) (fun _ => rfl) (fun _ _ _ _ => et_yes) ?_) ?_) ?_) fun H1 o => o.retV k (j := 0) rfl ⟨_, rfl, fin.1⟩
    · intro x H2 e2 hx _
      obtain ⟨i, hi, rfl⟩ := List.mem_map.mp hx
      have hi := List.mem_range.mp hi
      exact ev_op (ev_var rfl) (by wtm_at "ev") (rv_ixSs (by decide) (sound_at n (i : Nat)).1)
    · rw [filter_all]
      unfold rngV
      rw [List.map_map, List.map_map]
      rfl
    · have h2 := fin.2.1
      have h3 : ("" : Str).length = 0 := by decide +kernel
      rw [h3]
      omega
/-- drawn numbers at p -/
def Nm (K : PySem.W.Frag) (H : Hp) (p : Addr) (ns : List Int) : Prop := SqL K H p (ns.map V.int) ∧ ∀ n ∈ ns, 0 ≤ n ∧ n < 9967
theorem Nm.mono {H H' : Hp} {p : Addr} {ns : List Int} (e : Ex H H') (h : Nm K H p ns) : Nm K H' p ns := ⟨ex_l e h.1, h.2⟩
theorem strs_of {C : Str → Prop} {α : Type} : ∀ {xs : List α} {ys : List V}, Paired (fun _ y => ∃ s, y = V.str s ∧ C s) xs ys → ∃ l : List Str, ys = l.map V.str ∧ l.length = xs.length ∧ ∀ s ∈ l, C s
  | _, _, .nil => ⟨[], rfl, rfl, fun _ h => nomatch h⟩
  | _, _, .cons ⟨s, e, h⟩ r => by
    obtain ⟨l, e2, h2, h3⟩ := strs_of r
    subst e e2
    exact ⟨s :: l, rfl, by simp [h2], fun t ht => by
      rcases List.mem_cons.mp ht with z | z
      · rw [z]; exact h
      · exact h3 t z⟩
abbrev pPool (n : Nat) : Hp → V → Prop := fun N v => ∃ (p : Addr) (l : List Str), v = .ref p ∧ N p = some (.lst (l.map V.str)) ∧ l.length = n ∧ ∀ s ∈ l, isSyl s = true
def R__law_pool (K : PySem.W.Frag) : Rl := ⟨fun vs H r => ∃ (p : Addr) (ns : List Int), vs = [.ref p] ∧ Nm K H p ns ∧ 7 ≤ ns.length ∧ r = .ok (pPool 6), fun e ⟨p, ns, h1, h2, h3⟩ => ⟨p, ns, h1, h2.mono e, h3⟩⟩
theorem atI_map {ns : List Int} {j : Nat} (h : j < ns.length) : atI (ns.map V.int) (j : Int) = some (V.int ns[j]) := atI_nat (by rw [List.getElem?_map, List.getElem?_eq_getElem h]; rfl)
theorem ok__law_pool (B : Bt mg) (O__law_sound : Ok P w K mg base 1 "_law_sound" ["_law_number"] (R__law_sound.sp mg)) (D : Df K mg "_law_pool" s__law_pool ["_law_d"]) : Ok P w K mg base 2 "_law_pool" ["_law_d"] ((R__law_pool K).sp mg) := by
  refine D.ok sc__law_pool (fun vs H Q E h => ?_) (fun f cdv A outer s H vs Q E hr h => ?_)
  · obtain ⟨r, ⟨p, ns, rfl, _⟩, _⟩ := h
    rfl
  · obtain ⟨r, ⟨p, ns, rfl, ⟨hS, hall⟩, hl, rfl⟩, k⟩ := h
    refine ⟨_, (pss_cons (ps_if (pt_cmpR (op_eqK K (hu65 hr)) (pe_op op_mod (pe_ix (ix_seqK K) (pv 0) pe_int (fun _ _ => rfl)) pe_int) pe_int (nomark _))
        (pss_one (ps_ret (pe_lst (pa_cons pe_str (pa_cons pe_str (pa_cons pe_str (pa_cons pe_str (pa_cons pe_str (pa_cons pe_str pa_nil)))))))))
        pss_nil)
      (pss_cons (ps_if (pt_cmpR (op_eqK K (hu65 hr)) (pe_op op_mod (pe_ix (ix_seqK K) (pv 0) pe_int (fun _ _ => rfl)) pe_int) pe_int (nomark _))
        (pss_one (ps_ret (pe_lst (pa_cons pe_str (pa_cons pe_str (pa_cons pe_str (pa_cons pe_str (pa_cons pe_str (pa_cons pe_str pa_nil)))))))))
        pss_nil)
      (pss_one (ps_ret (pe_lc (own := [("_law_k", 1)]) rfl sc__law_pool.nd (pi_range2 (by rfl) B.range (pa_cons pe_int (pa_cons pe_int pa_nil))) (blkOk_by (N := ["_law_d", "_law_k"]) (sc := defScope s__law_pool) (by decide +kernel)) (fun _ _ _ _ _ => (pg_name (i := 1) sc__law_pool.nd rfl (.inl rfl))) (fun _ _ _ _ _ => pts_nil) (fun _ _ _ _ _ => (pe_callO O__law_sound (hr.mono (by omega)) (by rfl) takes0 (pa_cons (pe_ix (ix_seqK K) (pv 0) (pv 1) (fun _ _ => rfl)) pa_nil)))))))), ?_⟩
    have a0 := atI_map (ns := ns) (j := 0) (by omega)
    refine q_wh (Own.one H) (by wtm_at "ev") (fun hb H1 o => ?_) (fun hb H1 o => ?_)
    · exact s_rn o (ep_lst (by wtm_at "ev")) fun v H1 N o ⟨q, e, hq⟩ => o.ret k (i := 0) (j := 1) rfl rfl ⟨q, ["a", "b", "ab", "ba", "aa", "bab"], e, hq, rfl, by decide +kernel⟩
    · refine q_wh o (by wtm_at "ev") (fun hb H1 o => ?_) (fun hb H1 o => ?_)
      · exact s_rn o (ep_lst (by wtm_at "ev")) fun v H1 N o ⟨q, e, hq⟩ => o.ret k (i := 0) (j := 1) rfl rfl ⟨q, ["ka", "ki", "k", "i", "kik", "ma"], e, hq, rfl, by decide +kernel⟩
      · refine s_rn o (ep_lcX (fun x => [some (.ref p), some x]) (fun _ => true) (fun x N v => ∃ s, v = .str s ∧ isSyl s = true) (fun _ _ _ _ _ h => h) (ei_rngX2 (G := H1) (by wtm_at "ev") (by decide) (by decide)) (Ex.refl _) (by rw [rngV2_len]; decide) (fun _ _ _ _ q => q) (fun _ => rfl) (fun _ _ _ _ => et_yes) ?_) fun v H1 N o hp => o.ret k (i := 0) (j := 1) rfl rfl ?_
        · intro x H2 e2 hx _
          obtain ⟨i, hi, rfl⟩ := List.mem_map.mp hx
          have hi : i < 6 := List.mem_range.mp hi
          have hi1 : 1 + i < ns.length := by omega
          have ai : atI (ns.map V.int) (1 + ((i : Nat) : Int)) = some (V.int ns[1 + i]) := atI_map (j := 1 + i) hi1
          have hn := hall _ (List.getElem_mem hi1)
          exact ep_call (S := R__law_sound) (vs := [.int ns[1 + i]]) (ea_cons (ev_op (ev_var rfl) (ev_var rfl) (rv_ixLs (ex_l (o.e0.trans e2) hS) ai)) ea_nil) ⟨_, rfl, hn.1, by omega, rfl⟩
        · obtain ⟨q, ys, rfl, hq, hpr⟩ := hp
          obtain ⟨l, rfl, h2, h3⟩ := strs_of hpr
          rw [filter_all, rngV2_len] at h2
          exact ⟨q, l, rfl, hq, h2, h3⟩
theorem take_min (a b : List Str) : decide (a.take (min a.length b.length) = b.take (min a.length b.length)) = alikeM a b := by
  unfold alikeM begM
  rcases Nat.le_total a.length b.length with h | h
  · rw [Nat.min_eq_left h, List.take_length]
    by_cases h2 : b.take a.length = a
    · rw [decide_eq_true h2.symm, decide_eq_true h2]; rfl
    · rw [decide_eq_false (fun z => h2 z.symm), decide_eq_false h2, Bool.false_or, Eq.comm]
      refine decide_eq_false fun z => ?_
      have hl : b.length ≤ a.length := by
        have := congrArg List.length z
        rw [List.length_take] at this
        omega
      have e : a.length = b.length := by omega
      rw [← e, List.take_length] at z
      exact h2 (by rw [e, List.take_length]; exact z.symm)
  · rw [Nat.min_eq_right h, List.take_length]
    by_cases h2 : a.take b.length = b
    · rw [decide_eq_true h2, Bool.or_true]
    · rw [decide_eq_false h2, Bool.or_false, Eq.comm]
      refine decide_eq_false fun z => ?_
      have hl : a.length ≤ b.length := by
        have := congrArg List.length z
        rw [List.length_take] at this
        omega
      have e : a.length = b.length := by omega
      rw [e, List.take_length] at z
      exact h2 (by rw [← e, List.take_length]; exact z.symm)
theorem rc_min2 {H : Hp} {i j : Int} : RC (fun xs H Q => ∃ i j, xs = [.int i, .int j] ∧ Q (.int (if j < i then j else i)) H) [.int i, .int j] H (.int (min i j)) := fun H1 _ _ q => ⟨i, j, rfl, by
  have e : (if j < i then j else i) = min i j := by
    split <;> omega
  rw [e]
  exact q H1 (Ex.refl H1)⟩
theorem ok__law_alike (B : Bt mg) (D : Df K mg "_law_alike" s__law_alike ["_law_one", "_law_other"]) : Ok P w K mg base 1 "_law_alike" ["_law_one", "_law_other"] ((R_alike K).sp mg) := by
  refine D.ok sc__law_alike (fun vs H Q E h => ?_) (fun f cdv A outer s H vs Q E hr h => ?_)
  · obtain ⟨r, ⟨p, q, h, l, rfl, _⟩, _⟩ := h
    rfl
  · obtain ⟨r, ⟨p, q, h, l, rfl, ⟨h1, hl1, ht1⟩, ⟨h2, hl2, ht2⟩, rfl⟩, k⟩ := h
    refine ⟨_, (pss_cons (ps_set (i := 2) sc__law_alike.nd rfl (.inl rfl) (pe_callB (call_min2 rfl) (by rfl) B.min boot_b_min (pa_cons (pe_callB (call_lenK K) (by rfl) B.len boot_b_len (pa_cons (pv 0) pa_nil)) (pa_cons (pe_callB (call_lenK K) (by rfl) B.len boot_b_len (pa_cons (pv 1) pa_nil)) pa_nil))))
      (pss_one (ps_ret (pe_cmpR (op_eqK K (hu65 hr)) (pe_slice (sl_K K) (pv 0) po_none (po_some (pv 2))) (pe_slice (sl_K K) (pv 1) po_none (po_some (pv 2))) (nomark _))))), ?_⟩
    refine q_v (Own.one H) (ev_cb (ea_cons (ev_cb (by wtm_at "ev") (rc_lenL h1)) (ea_cons (ev_cb (by wtm_at "ev") (rc_lenL h2)) ea_nil)) rc_min2) fun H1 o => ?_
    have e : min (((h.map V.str).length : Nat) : Int) (((l.map V.str).length : Nat) : Int) = ((min h.length l.length : Nat) : Int) := by
      rw [List.length_map, List.length_map]
      omega
    rw [e]
    refine s_rv o (ev_opN (ep_l (el_sl' (ev_var rfl) eo_none (eo_some (ev_var rfl)) (ex_l o.e0 h1))) (ep_l (el_sl' (ev_var rfl) eo_none (eo_some (ev_var rfl)) (ex_l o.e0 h2))) ?_) fun H1 o => o.retV k (j := 0) rfl rfl
    rintro v1 v2 N1 N2 H2 e2 i1 i2 ⟨c1, rfl, g1⟩ ⟨c2, rfl, g2⟩
    rw [cut_line] at g1 g2
    have z := rv_eqD (K := K) (H := H2) (dp_line.mpr ⟨c1, rfl, sq_of (i1 _ _ g1)⟩) (dp_line.mpr ⟨c2, rfl, sq_of (i2 _ _ g2)⟩) (shaped_line fun s hs => ht1 s (List.mem_of_mem_take hs)) (shaped_line fun s hs => ht2 s (List.mem_of_mem_take hs))
    rw [eqv_line, take_min] at z
    exact z
end
abbrev s__law_verse : Stmt := topS 41
theorem sc__law_verse : FnScope ["_law_verses", "_law_pool_here", "_law_d", "_law_line", "_law_ahead", "_law_k"] ["_law_verses", "_law_pool_here", "_law_d"] (defScope s__law_verse) := ⟨rfl, rfl, rfl, by decide +kernel, rfl, by decide +kernel, by decide +kernel⟩
abbrev s__law_wide : Stmt := topS 42
theorem sc__law_wide : FnScope ["_law_d", "_law_size", "_law_verses", "_law_k", "_law_at", "_law_line"] ["_law_d", "_law_size"] (defScope s__law_wide) := ⟨rfl, rfl, rfl, by decide +kernel, rfl, by decide +kernel, by decide +kernel⟩
abbrev s__law_book : Stmt := topS 43
theorem sc__law_book : FnScope ["_law_d", "_law_most", "_law_pool_here", "_law_verses", "_law_k", "_law_line", "_law_one"] ["_law_d", "_law_most"] (defScope s__law_book) := ⟨rfl, rfl, rfl, by decide +kernel, rfl, by decide +kernel, by decide +kernel⟩
abbrev s__law_copy : Stmt := topS 44
theorem sc__law_copy : FnScope ["_law_rows", "_law_row"] ["_law_rows"] (defScope s__law_copy) := ⟨rfl, rfl, rfl, by decide +kernel, rfl, by decide +kernel, by decide +kernel⟩
section
variable {P : Program} {w : World} {K : PySem.W.Frag} {mg : Str → Option Value} {base : Heap}
theorem cut_ints (ns : List Int) (n : Nat) : cutV (ns.map V.int) (some (n : Int)) none = (ns.drop n).map V.int := by rw [cutV_drop, List.map_drop]
theorem cutV_mid {xs : List V} (a b : Nat) (h : a ≤ b) : cutV xs (some (a : Int)) (some (b : Int)) = (xs.drop a).take (b - a) := by
  unfold cutV
  rw [HT.sIx_nat, HT.sIx_nat]
  by_cases h1 : a ≤ xs.length
  · rw [Nat.min_eq_left h1]
    by_cases h2 : b ≤ xs.length
    · rw [Nat.min_eq_left h2]
    · rw [Nat.min_eq_right (by omega)]
      have e1 : (xs.drop a).take (xs.length - a) = xs.drop a := List.take_of_length_le (by rw [List.length_drop]; omega)
      have e2 : (xs.drop a).take (b - a) = xs.drop a := List.take_of_length_le (by rw [List.length_drop]; omega)
      rw [e1, e2]
  · rw [Nat.min_eq_right (show xs.length ≤ a by omega), Nat.min_eq_right (show xs.length ≤ b by omega), List.drop_length, List.drop_of_length_le (by omega)]
    simp
theorem cut_mid (ns : List Int) (a b : Nat) (h : a ≤ b) : cutV (ns.map V.int) (some (a : Int)) (some (b : Int)) = ((ns.drop a).take (b - a)).map V.int := by rw [cutV_mid a b h, List.map_take, List.map_drop]
abbrev pVer : Hp → V → Prop := fun N v => ∃ (p : Addr) (l : List Str), v = .ref p ∧ N p = some (.lst (l.map V.str)) ∧ isVer l = true
def SylL (l : List Str) : Prop := ∀ s ∈ l, isSyl s = true
theorem isVer_iff {l : List Str} : isVer l = true ↔ 1 ≤ l.length ∧ l.length ≤ 8 ∧ SylL l := by
  unfold isVer SylL
  simp only [Bool.and_eq_true, decide_eq_true_eq, List.all_eq_true]
  constructor
  · rintro ⟨⟨h1, h2⟩, h3⟩
    exact ⟨by omega, by omega, h3⟩
  · rintro ⟨h1, h2, h3⟩
    exact ⟨⟨by omega, by omega⟩, h3⟩
/-- rows that are verses, at v; ps: where the rows lie -/
def Vs (K : PySem.W.Frag) (H : Hp) (v : Addr) (ls : List (List Str)) : Prop := Bk K H v ls ∧ ∀ l ∈ ls, isVer l = true
theorem Vs.mono {H H' : Hp} {v : Addr} {ls : List (List Str)} (e : Ex H H') (h : Vs K H v ls) : Vs K H' v ls := ⟨h.1.mono e, h.2⟩
def R__law_verse (K : PySem.W.Frag) : Rl := ⟨fun vs H r => ∃ (v p q : Addr) (ls : List (List Str)) (pool : List Str) (ns : List Int), vs = [.ref v, .ref p, .ref q] ∧ Vs K H v ls ∧ SqL K H p (pool.map V.str) ∧ 1 ≤ pool.length ∧ pool.length ≤ 1000 ∧ SylL pool ∧ Nm K H q ns ∧ 6 ≤ ns.length ∧ r = .ok pVer,
  fun e ⟨v, p, q, ls, pool, ns, h1, h2, h3, h4, h5, h6, h7, h8⟩ => ⟨v, p, q, ls, pool, ns, h1, h2.mono e, ex_l e h3, h4, h5, h6, h7.mono e, h8⟩⟩
theorem eqv_book_nil (ls : List (List Str)) : PyData.eqv (eBook ls) (.list []) = decide (ls = []) := by
  have h := eqv_book ls []
  exact h
theorem ok__law_verse (B : Bt mg) (D : Df K mg "_law_verse" s__law_verse ["_law_verses", "_law_pool_here", "_law_d"]) : Ok P w K mg base 1 "_law_verse" ["_law_verses", "_law_pool_here", "_law_d"] ((R__law_verse K).sp mg) := by
  refine D.ok sc__law_verse (fun vs H Q E h => ?_) (fun f cdv A outer s H vs Q E hr h => ?_)
  · obtain ⟨r, ⟨v, p, q, ls, pool, ns, rfl, _⟩, _⟩ := h
    rfl
  · obtain ⟨r, ⟨v, p, q, ls, pool, ns, rfl, ⟨hB, hV⟩, hP, hp1, hp2, hsyl, ⟨hN, hall⟩, hl, rfl⟩, k⟩ := h
    refine ⟨_, (pss_cons (ps_set (i := 3) sc__law_verse.nd rfl (.inl rfl) (pe_lst pa_nil))
      (Evl.pss_cut (ps_if (PW.pt (pw_and (pt_cmpR (op_neK K (hu65 hr)) (pv 0) (pe_lst pa_nil) (nomark _)) (pw_and1 (pt_cmpR op_gt (pe_op op_mod (pe_ix (ix_seqK K) (pv 2) pe_int (fun _ _ => rfl)) pe_int) pe_int (nomark _)))))
        (pss_cons (ps_set (i := 4) sc__law_verse.nd rfl (.inl rfl) (pe_ix (ix_seqK K) (pv 0) (pe_op op_mod (pe_ix (ix_seqK K) (pv 2) pe_int (fun _ _ => rfl)) (pe_callB (call_lenK K) (by rfl) B.len boot_b_len (pa_cons (pv 0) pa_nil))) (fun _ _ => rfl)))
        (pss_one (ps_set (i := 3) sc__law_verse.nd rfl (.inl rfl) (pe_slice (sl_K K) (pv 4) po_none (po_some (pe_op op_mod (pe_op op_fdiv (pe_ix (ix_seqK K) (pv 2) pe_int (fun _ _ => rfl)) pe_int) (pe_op (op_addK K) (pe_callB (call_lenK K) (by rfl) B.len boot_b_len (pa_cons (pv 4) pa_nil)) pe_int)))))))
        pss_nil)
      (pss_cons (ps_set (i := 3) sc__law_verse.nd rfl (.inl rfl) (pe_op (op_addK K) (pv 3) (pe_lc (own := [("_law_k", 5)]) rfl sc__law_verse.nd (pi_range1 (by rfl) B.range (pa_cons (pe_op (op_addK K) pe_int (pe_op op_mod (pe_ix (ix_seqK K) (pv 2) pe_int (fun _ _ => rfl)) pe_int)) pa_nil)) (blkOk_by (N := ["_law_verses", "_law_pool_here", "_law_d", "_law_line", "_law_ahead", "_law_k"]) (sc := defScope s__law_verse) (by decide +kernel)) (fun _ _ _ _ _ => (pg_name (i := 5) sc__law_verse.nd rfl (.inl rfl))) (fun _ _ _ _ _ => pts_nil) (fun _ _ _ _ _ => (pe_ix (ix_seqK K) (pv 1) (pe_op op_mod (pe_ix (ix_seqK K) (pv 2) (pe_op (op_addK K) pe_int (pv 5)) (fun _ _ => rfl)) (pe_callB (call_lenK K) (by rfl) B.len boot_b_len (pa_cons (pv 1) pa_nil))) (fun _ _ => rfl))))))
      (pss_one (ps_ret (pe_slice (sl_K K) (pv 3) po_none (po_some pe_int))))))), ?_⟩
    have a0 := atI_map (ns := ns) (j := 0) (by omega)
    have a1 := atI_map (ns := ns) (j := 1) (by omega)
    have a2 := atI_map (ns := ns) (j := 2) (by omega)
    have n0 := hall _ (List.getElem_mem (show 0 < ns.length by omega))
    have n1 := hall _ (List.getElem_mem (show 1 < ns.length by omega))
    obtain ⟨xs, hS, hR⟩ := hB.rows
    have hlen := hR.len
    have hl2 := hB.2.1
    refine q_l (Own.one H) (by wtm_at "ev") fun l0 H1 o => ?_
    refine q_cut (M := fun σ H' => ∃ l y4 N line, σ = [some (.ref v), some (.ref p), some (.ref q), some (.ref l), y4, none] ∧ Own [N, H] H' ∧ N l = some (.lst (line.map V.str)) ∧ line.length ≤ 8 ∧ SylL line) ?_ ?_
    · have hne : EvT (tTest (tOp (rNeU K) (tVar 0) (tLst tNil))) [some (.ref v), some (.ref p), some (.ref q), some (.ref l0), none, none] H1 (!decide (ls = [])) := et_test (ev_opN (ep_v (ev_var rfl)) (ep_lst ea_nil) fun v1 v2 N1 N2 H2 e2 i1 i2 hv1 ⟨c, hc, g⟩ => by
        have hv1 : v1 = .ref v := hv1
        subst hv1 hc
        have z := rv_neD (K := K) (H := H2) (dp_mono (o.e1.trans e2) hB.1) (Dp.lst (sq_of (i2 _ _ g)) .nil) (shaped_book fun l hl s hs => (hB.2.2 l hl).2 s hs) (by decide)
        rw [eqv_book_nil] at z
        exact z)
      refine s_wh o (et_and hne fun _ => by wtm_at "ev") (fun hb H1 o => ?_) (fun hb H1 o => ⟨l0, _, _, [], rfl, o, sing_at, by simp, fun _ h => nomatch h⟩)
      have hb1 : ls ≠ [] := by
        rw [Bool.and_eq_true] at hb
        simpa using hb.1
      have hpos : 0 < ls.length := List.length_pos_iff.mpr hb1
      -- ahead = verses[d[1] % len(verses)]
      obtain ⟨i, hi⟩ : ∃ i : Nat, ns[1] % ((xs.length : Nat) : Int) = i := ⟨(ns[1] % ((xs.length : Nat) : Int)).toNat, by have := Int.emod_nonneg ns[1] (show ((xs.length : Nat) : Int) ≠ 0 by omega); omega⟩
      have hi2 : i < ls.length := by
        have := Int.emod_lt_of_pos ns[1] (show 0 < ((xs.length : Nat) : Int) by omega)
        omega
      obtain ⟨c, hc, hL⟩ := hB.row hR hi2
      have hv := isVer_iff.mp (hV _ (row1_mem hi2))
      have hS1 := ex_l o.e1 hS
      have hN1 := ex_l o.e1 hN
      refine q_v (v := .ref c) o (ev_op (ev_var rfl) (ev_is (ev_op (ev_op (ev_var rfl) ev_c (rv_ixLs hN1 a1)) (ev_cb (by wtm_at "ev") (rc_lenL hS1)) (rv_I (show (0 : Int) < _ by omega))) (by rw [hi])) (rv_ixLs hS1 (atI_nat hc))) fun H1 o => ?_
      have hL1 := ex_l o.e1 hL.1
      have hN1 := ex_l o.e1 hN
      obtain ⟨m, hm⟩ : ∃ m : Nat, (ns[0] / 4) % ((((row1 ls i).map V.str).length : Nat) + 1 : Int) = m := ⟨((ns[0] / 4) % ((((row1 ls i).map V.str).length : Nat) + 1 : Int)).toNat, by have := Int.emod_nonneg (ns[0] / 4) (show ((((row1 ls i).map V.str).length : Nat) + 1 : Int) ≠ 0 by omega); omega⟩
      refine s_n (P := pLst (((row1 ls i).take m).map V.str)) o (ep_imp (ep_l (el_sl' (ev_var rfl) eo_none (eo_some (ev_is (ev_op (ev_op (ev_op (ev_var rfl) ev_c (rv_ixLs hN1 a0)) ev_c (rv_I ⟨by decide, by decide⟩)) (ev_op (ev_cb (by wtm_at "ev") (rc_lenL hL1)) ev_c rv_addI) (rv_I (show (0 : Int) < _ by omega))) (by rw [hm]))) hL1)) fun N v h => by rw [cut_line] at h; exact h) fun v2 H1 N o hp => ?_
      obtain ⟨c2, rfl, hc2⟩ := hp
      exact ⟨c2, _, N, (row1 ls i).take m, rfl, ⟨o.1, fun M hM => o.2.1 M (List.mem_cons_of_mem _ hM), o.2.2.2.2⟩, hc2, by rw [List.length_take]; omega, fun s hs => hv.2.2 s (List.mem_of_mem_take hs)⟩
    · rintro σ H2 ⟨l, y4, N, line, rfl, o, hl1, hl8, hsl⟩
      have n2 := hall _ (List.getElem_mem (show 2 < ns.length by omega))
      -- line + [pool[d[3 + k] % len(pool)] for k in range(1 + d[2] % 3)]
      refine q_n (P := fun N v => ∃ (c : Addr) (more : List Str), v = .ref c ∧ N c = some (.lst ((line ++ more).map V.str)) ∧ 1 ≤ more.length ∧ more.length ≤ 3 ∧ SylL more) o (ep_cat (xs := line.map V.str) (P2 := fun N v => ∃ (c : Addr) (more : List Str), v = .ref c ∧ N c = some (.lst (more.map V.str)) ∧ 1 ≤ more.length ∧ more.length ≤ 3 ∧ SylL more) (ev_var rfl) (o.e0 _ _ hl1) (ep_imp (ep_lcX (fun x => [some (.ref v), some (.ref p), some (.ref q), some (.ref l), y4, some x]) (fun _ => true) (fun x N v => ∃ s, v = .str s ∧ isSyl s = true) (fun _ _ _ _ _ h => h) (ei_rngX (G := H2) (ea_cons (ev_op ev_c (ev_op (ev_op (ev_var rfl) ev_c (rv_ixLs (ex_l o.e1 hN) a2)) ev_c (rv_I (by decide))) rv_addI) ea_nil) (by omega)) (Ex.refl _) (by rw [rngV_len]; omega) (fun _ _ _ _ q => q) (fun _ => rfl) (fun _ _ _ _ => et_yes) ?_) ?_) ?_) fun v2 H1 N2 o hp => ?_
      · intro x H3 e3 hx _
        obtain ⟨i, hi, rfl⟩ := List.mem_map.mp hx
        have hi : i < (1 + ns[2] % 3).toNat := List.mem_range.mp hi
        have hi3 : 3 + i < ns.length := by omega
        have ai : atI (ns.map V.int) (3 + ((i : Nat) : Int)) = some (V.int ns[3 + i]) := atI_map (j := 3 + i) hi3
        have e := (o.e1.trans e3)
        obtain ⟨m, hm⟩ : ∃ m : Nat, ns[3 + i] % (((pool.map V.str).length : Nat) : Int) = m := ⟨(ns[3 + i] % (((pool.map V.str).length : Nat) : Int)).toNat, by have := Int.emod_nonneg ns[3 + i] (show (((pool.map V.str).length : Nat) : Int) ≠ 0 by rw [List.length_map]; omega); omega⟩
        have hm2 : m < pool.length := by
          have := Int.emod_lt_of_pos ns[3 + i] (show 0 < (((pool.map V.str).length : Nat) : Int) by rw [List.length_map]; omega)
          rw [List.length_map] at this
          rw [List.length_map] at hm
          omega
        have am : atI (pool.map V.str) ((m : Nat) : Int) = some (.str pool[m]) := atI_nat (by rw [List.getElem?_map, List.getElem?_eq_getElem hm2]; rfl)
        exact ep_imp (ep_v (ev_op (ev_var rfl) (ev_is (ev_op (ev_op (ev_var rfl) (ev_op ev_c (ev_var rfl) rv_addI) (rv_ixLs (ex_l e hN) ai)) (ev_cb (by wtm_at "ev") (rc_lenL (ex_l e hP))) (rv_I (show (0 : Int) < _ by rw [List.length_map]; omega))) (by rw [hm])) (rv_ixLs (ex_l e hP) am))) fun N v h => ⟨_, h, hsyl _ (List.getElem_mem hm2)⟩
      · rintro N v ⟨c, ys, rfl, hc, hpr⟩
        obtain ⟨more, rfl, h2, h3⟩ := strs_of hpr
        rw [filter_all, rngV_len] at h2
        exact ⟨c, more, rfl, hc, by omega, by omega, h3⟩
      · rintro N v ⟨c, more, rfl, hc, hm1, hm2, hm3⟩
        refine ⟨c, more.map V.str, rfl, hc, by rw [List.length_map, List.length_map]; omega, fun p => ⟨p, more, rfl, ?_, hm1, hm2, hm3⟩⟩
        rw [sing_at, List.map_append]
      · obtain ⟨c, more, rfl, hc, hm1, hm2, hm3⟩ := hp
        refine s_rn o (ep_l (el_sl' (ev_var rfl) eo_none (eo_some ev_c) (sq_of (o.e0 _ _ hc)))) fun v H1 N o hp => o.ret k (i := 0) (j := 3) rfl rfl ?_
        obtain ⟨d, rfl, hd⟩ := hp
        rw [show cutV ((line ++ more).map V.str) none (some 8) = ((line ++ more).take 8).map V.str from cut_line _ 8] at hd
        refine ⟨d, _, rfl, hd, isVer_iff.mpr ⟨?_, ?_, fun s hs => ?_⟩⟩
        · rw [List.length_take, List.length_append]; omega
        · rw [List.length_take]; omega
        · rcases List.mem_append.mp (List.mem_of_mem_take hs) with z | z
          · exact hsl s z
          · exact hm3 s z
/-! ### good books -/
theorem alikeM_comm (a b : List Str) : alikeM a b = alikeM b a := Bool.or_comm _ _
def Apart (ls : List (List Str)) : Prop := ls.Pairwise fun a b => alikeM a b = false
structure GB (n : Nat) (ls : List (List Str)) : Prop where
  pos : 1 ≤ ls.length
  len : ls.length ≤ n
  ver : ∀ l ∈ ls, isVer l = true
  apart : Apart ls
theorem GB.need {n : Nat} {ls : List (List Str)} (h : GB n ls) (hn : n ≤ 40) : needM ls = none := by
  have h1 : badRow ls = none := by
    unfold badRow
    rw [List.find?_range_eq_none]
    intro i hi
    rw [h.ver _ (row1_mem hi)]
    rfl
  have h2 : badTwo ls = none := by
    unfold badTwo
    rw [List.find?_range_eq_none]
    intro j hj
    have e : badOne ls j = none := by
      unfold badOne
      rw [List.find?_range_eq_none]
      intro i hi
      have z := List.pairwise_iff_getElem.mp h.apart i j (by omega) hj hi
      have e1 : row1 ls i = ls[i] := by unfold row1; rw [List.getD_eq_getElem?_getD, List.getElem?_eq_getElem (by omega)]; rfl
      have e2 : row1 ls j = ls[j] := by unfold row1; rw [List.getD_eq_getElem?_getD, List.getElem?_eq_getElem hj]; rfl
      rw [e1, e2, z]
      rfl
    rw [e]
    rfl
  unfold needM
  rw [if_pos ⟨h.pos, Nat.le_trans h.len hn⟩, h1, h2]
theorem ver_txt {l : List Str} (h : isVer l = true) : l.length ≤ 1000 ∧ ∀ s ∈ l, TxtOk s := by
  obtain ⟨h1, h2, h3⟩ := isVer_iff.mp h
  exact ⟨by omega, fun s hs => syl_ok (h3 s hs)⟩
theorem vs_of {H : Hp} {v : Addr} {xs : List V} {ls : List (List Str)} (h : SqL K H v xs) (r : Rows K H xs ls) (hl : ls.length ≤ 1000) (hv : ∀ l ∈ ls, isVer l = true) : Vs K H v ls := ⟨⟨dp_book.mpr ⟨v, xs, rfl, h, r⟩, hl, fun l hl => ver_txt (hv l hl)⟩, hv⟩
abbrev pGood (K : PySem.W.Frag) (n : Nat) : Hp → V → Prop := fun N v => ∃ (p : Addr) (ls : List (List Str)), v = .ref p ∧ Vs K N p ls ∧ GB n ls ∧ Cells N p ls
/-- rows that lie in the heap itself -/
def CR (N : Hp) (xs : List V) (ls : List (List Str)) : Prop := Paired (fun x l => ∃ q, x = V.ref q ∧ N q = some (.lst (l.map V.str))) xs ls
theorem CR.rows {N : Hp} {xs : List V} {ls : List (List Str)} (h : CR N xs ls) : Rows K N xs ls := paired_imp (fun _ _ ⟨q, h1, h2⟩ => ⟨q, h1, sq_of h2⟩) h
theorem CR.mono {N M : Hp} {xs : List V} {ls : List (List Str)} (e : Ex N M) (h : CR N xs ls) : CR M xs ls := paired_imp (fun _ _ ⟨q, h1, h2⟩ => ⟨q, h1, e _ _ h2⟩) h
theorem cr_snoc {H : Hp} {xs : List V} {ls : List (List Str)} {c : Addr} {l : List Str} (r : CR H xs ls) (h : H c = some (.lst (l.map V.str))) : CR H (xs ++ [.ref c]) (ls ++ [l]) := paired_snoc r ⟨c, rfl, h⟩
theorem rows_snoc {H : Hp} {xs : List V} {ls : List (List Str)} {c : Addr} {l : List Str} (r : Rows K H xs ls) (h : SqL K H c (l.map V.str)) : Rows K H (xs ++ [.ref c]) (ls ++ [l]) := paired_snoc r ⟨c, rfl, h⟩
theorem Nm.drop {H : Hp} {p : Addr} {ns : List Int} {a b : Nat} (h : ∀ n ∈ ns, 0 ≤ n ∧ n < 9967) (hp : H p = some (.lst (((ns.drop a).take b).map V.int))) : Nm K H p ((ns.drop a).take b) := ⟨sq_of hp, fun n hn => h n (List.mem_of_mem_drop (List.mem_of_mem_take hn))⟩
end
section
variable {P : Program} {w : World} {K : PySem.W.Frag} {mg : Str → Option Value} {base : Heap}
/-! ### wide books -/
def wA : List Str := ["a", "b", "ab", "ba"]
def wB : List Str := ["a", "aa", "ba", "b"]
def wC : List Str := ["ka", "k", "a", "ki"]
def wT : List Str := ["ma", "a", "bab", "a", "b"]
def wN (a : Nat) : List Str := [wA.getD (a / 16) "", wB.getD (a / 4 % 4) "", wC.getD (a % 4) ""]
theorem wN_all : ((List.range 64).all fun a => (wN a).all isSyl && (List.range 64).all fun b => decide (a = b) || !decide (wN a = wN b)) = true := by decide +kernel
theorem wN_syl {a : Nat} (h : a < 64) : SylL (wN a) := by
  have z := List.all_eq_true.mp wN_all a (List.mem_range.mpr h)
  simp only [Bool.and_eq_true] at z
  exact List.all_eq_true.mp z.1
theorem wN_inj {a b : Nat} (h : a < 64) (h2 : b < 64) (hab : a ≠ b) : wN a ≠ wN b := by
  have z := List.all_eq_true.mp wN_all a (List.mem_range.mpr h)
  simp only [Bool.and_eq_true] at z
  have z2 := List.all_eq_true.mp z.2 b (List.mem_range.mpr h2)
  simp only [Bool.or_eq_true, decide_eq_true_eq] at z2
  rcases z2 with z2 | z2
  · exact absurd z2 hab
  · simpa using z2
theorem wT_syl : SylL wT := by
  have z : wT.all isSyl = true := by decide +kernel
  exact List.all_eq_true.mp z
theorem odd64 : ((List.range 32).all fun m => (List.range 64).all fun x => decide (x = 0) || !decide (x * (1 + 2 * m) % 64 = 0)) = true := by decide +kernel
theorem odd_ne {m x : Nat} (hm : m < 32) (hx : x < 64) (h0 : x ≠ 0) : x * (1 + 2 * m) % 64 ≠ 0 := by
  have z := List.all_eq_true.mp odd64 m (List.mem_range.mpr hm)
  have z2 := List.all_eq_true.mp z x (List.mem_range.mpr hx)
  simp only [Bool.or_eq_true, decide_eq_true_eq] at z2
  rcases z2 with z2 | z2
  · exact absurd z2 h0
  · simpa using z2
def atW (d0 d1 : Int) (k : Nat) : Nat := ((d0 + (k : Int) * (1 + 2 * (d1 % 32))) % 64).toNat
theorem atW_lt (d0 d1 : Int) (k : Nat) : atW d0 d1 k < 64 := by
  unfold atW
  have h1 := Int.emod_nonneg (d0 + (k : Int) * (1 + 2 * (d1 % 32))) (show (64 : Int) ≠ 0 by decide)
  have h2 := Int.emod_lt_of_pos (d0 + (k : Int) * (1 + 2 * (d1 % 32))) (show (0 : Int) < 64 by decide)
  omega
theorem atW_inj {d0 d1 : Int} {i j : Nat} (hij : i < j) (hj : j < 64) : atW d0 d1 i ≠ atW d0 d1 j := by
  intro h
  unfold atW at h
  obtain ⟨m, hm⟩ : ∃ m : Nat, d1 % 32 = m := ⟨(d1 % 32).toNat, by omega⟩
  have hm2 : m < 32 := by omega
  rw [hm] at h
  have e : ((j : Int) * (1 + 2 * (m : Int))) = (i : Int) * (1 + 2 * (m : Int)) + ((j - i : Nat) : Int) * (1 + 2 * (m : Int)) := by
    rw [← Int.add_mul]
    congr 1
    omega
  rw [e] at h
  have key : (((j - i : Nat) : Int) * (1 + 2 * (m : Int))) % 64 = 0 := by
    generalize (i : Int) * (1 + 2 * (m : Int)) = u at h
    generalize ((j - i : Nat) : Int) * (1 + 2 * (m : Int)) = t at h
    omega
  have z := odd_ne hm2 (show j - i < 64 by omega) (by omega)
  apply z
  have c : (((j - i) * (1 + 2 * m) : Nat) : Int) = ((j - i : Nat) : Int) * (1 + 2 * (m : Int)) := by
    rw [Int.natCast_mul, Int.natCast_add, Int.natCast_mul]
    rfl
  rw [← c] at key
  omega
theorem alike_head {a b s t : List Str} (hl : a.length = b.length) (hne : a ≠ b) : alikeM (a ++ s) (b ++ t) = false := by
  unfold alikeM begM
  have key : ∀ {a b s t : List Str}, a.length = b.length → a ≠ b → decide ((b ++ t).take (a ++ s).length = a ++ s) = false := by
    intro a b s t hl hne
    refine decide_eq_false fun z => hne ?_
    have z2 := congrArg (List.take a.length) z
    rw [List.take_take, List.length_append, Nat.min_eq_left (by omega), List.take_left', List.take_left'] at z2
    · exact z2.symm
    · rfl
    · exact hl.symm
  rw [key hl hne, key hl.symm (fun z => hne z.symm)]
  rfl
def lineW (d0 d1 d2 d3 : Int) (k : Nat) : List Str := wN (atW d0 d1 k) ++ wT.take ((d2 + (k : Int) * d3) % 6).toNat
theorem lineW_ver (d0 d1 d2 d3 : Int) (k : Nat) : isVer (lineW d0 d1 d2 d3 k) = true := by
  refine isVer_iff.mpr ⟨?_, ?_, fun s hs => ?_⟩
  · unfold lineW; rw [List.length_append]; show 1 ≤ 3 + _; omega
  · unfold lineW
    rw [List.length_append, List.length_take]
    have : wT.length = 5 := rfl
    show 3 + _ ≤ 8
    omega
  · rcases List.mem_append.mp hs with z | z
    · exact wN_syl (atW_lt d0 d1 k) s z
    · exact wT_syl s (List.mem_of_mem_take z)
theorem wide_good (d0 d1 d2 d3 : Int) {n : Nat} (h1 : 1 ≤ n) (h2 : n ≤ 40) : GB n ((List.range n).map (lineW d0 d1 d2 d3)) where
  pos := by simpa using h1
  len := by simp
  ver := fun l hl => by
    obtain ⟨k, _, rfl⟩ := List.mem_map.mp hl
    exact lineW_ver d0 d1 d2 d3 k
  apart := by
    unfold Apart
    rw [List.pairwise_iff_getElem]
    intro i j hi hj hij
    simp only [List.getElem_map, List.getElem_range]
    simp at hi hj
    exact alike_head rfl (wN_inj (atW_lt d0 d1 i) (atW_lt d0 d1 j) (atW_inj hij (by omega)))
def R__law_wide (K : PySem.W.Frag) : Rl := ⟨fun vs H r => ∃ (p : Addr) (ns : List Int) (n : Int), vs = [.ref p, .int n] ∧ Nm K H p ns ∧ 4 ≤ ns.length ∧ 1 ≤ n ∧ n ≤ 40 ∧ r = .ok (pGood K n.toNat), fun e ⟨p, ns, n, h1, h2, h3⟩ => ⟨p, ns, n, h1, h2.mono e, h3⟩⟩
theorem at4 {l : List Str} (hl : l.length = 4) {i : Nat} (hi : i < 4) : atI (l.map V.str) ((i : Nat) : Int) = some (.str (l.getD i "")) := atI_nat (by
  rw [List.getElem?_map, List.getElem?_eq_getElem (by omega), List.getD_eq_getElem?_getD, List.getElem?_eq_getElem (by omega)]
  rfl)
theorem ok__law_wide (B : Bt mg) (D : Df K mg "_law_wide" s__law_wide ["_law_d", "_law_size"]) : Ok P w K mg base 1 "_law_wide" ["_law_d", "_law_size"] ((R__law_wide K).sp mg) := by
  refine D.ok sc__law_wide (fun vs H Q E h => ?_) (fun f cdv A outer s H vs Q E hr h => ?_)
  · obtain ⟨r, ⟨p, ns, n, rfl, _⟩, _⟩ := h
    rfl
  · obtain ⟨r, ⟨p, ns, n, rfl, ⟨hN, hall⟩, hl, hn1, hn2, rfl⟩, k⟩ := h
    refine ⟨_, (pss_cons (ps_set (i := 2) sc__law_wide.nd rfl (.inl rfl) (pe_lst pa_nil))
      (pss_cons (ps_for (passes_of rfl) rfl (pi_range1 (by rfl) B.range (pa_cons (pv 1) pa_nil)) (pg_name (i := 3) sc__law_wide.nd rfl (.inl rfl))
        (pss_cons (ps_set (i := 4) sc__law_wide.nd rfl (.inl rfl) (pe_op op_mod (pe_op (op_addK K) (pe_ix (ix_seqK K) (pv 0) pe_int (fun _ _ => rfl)) (pe_op op_mulU (pv 3) (pe_op (op_addK K) pe_int (pe_op op_mulU pe_int (pe_op op_mod (pe_ix (ix_seqK K) (pv 0) pe_int (fun _ _ => rfl)) pe_int))))) pe_int))
        (pss_cons (ps_set (i := 5) sc__law_wide.nd rfl (.inl rfl) (pe_lst (pa_cons (pe_ix (ix_seqK K) (pe_lst (pa_cons pe_str (pa_cons pe_str (pa_cons pe_str (pa_cons pe_str pa_nil))))) (pe_op op_fdiv (pv 4) pe_int) (fun _ _ => rfl)) (pa_cons (pe_ix (ix_seqK K) (pe_lst (pa_cons pe_str (pa_cons pe_str (pa_cons pe_str (pa_cons pe_str pa_nil))))) (pe_op op_mod (pe_op op_fdiv (pv 4) pe_int) pe_int) (fun _ _ => rfl)) (pa_cons (pe_ix (ix_seqK K) (pe_lst (pa_cons pe_str (pa_cons pe_str (pa_cons pe_str (pa_cons pe_str pa_nil))))) (pe_op op_mod (pv 4) pe_int) (fun _ _ => rfl)) pa_nil)))))
        (pss_one (ps_expr (pe_bmK K PySem.F.plainAttrs_list PySem.F.slot_list_append PySem.F.type_list_append mt_append (pv 2) (pa_cons (pe_op (op_addK K) (pv 5) (pe_slice (sl_K K) (pe_lst (pa_cons pe_str (pa_cons pe_str (pa_cons pe_str (pa_cons pe_str (pa_cons pe_str pa_nil)))))) po_none (po_some (pe_op op_mod (pe_op (op_addK K) (pe_ix (ix_seqK K) (pv 0) pe_int (fun _ _ => rfl)) (pe_op op_mulU (pv 3) (pe_ix (ix_seqK K) (pv 0) pe_int (fun _ _ => rfl)))) pe_int)))) pa_nil)))))))
      (pss_one (ps_ret (pv 2))))), ?_⟩
    have a0 := atI_map (ns := ns) (j := 0) (by omega)
    have a1 := atI_map (ns := ns) (j := 1) (by omega)
    have a2 := atI_map (ns := ns) (j := 2) (by omega)
    have a3 := atI_map (ns := ns) (j := 3) (by omega)
    have n0 := hall _ (List.getElem_mem (show 0 < ns.length by omega))
    have n1 := hall _ (List.getElem_mem (show 1 < ns.length by omega))
    have n2 := hall _ (List.getElem_mem (show 2 < ns.length by omega))
    have n3 := hall _ (List.getElem_mem (show 3 < ns.length by omega))
    refine q_l (Own.one H) (by wtm_at "ev") fun l H1 o => ?_
    refine q_forN (G := emp) o (ei_rng1 (by wtm_at "ev") (by omega)) (fun i σ H' => ∃ xs N y3 y4 y5, σ = [some (.ref p), some (.int n), some (.ref l), y3, y4, y5] ∧ Own [sing l (.lst xs), N, H] H' ∧ CR N xs ((List.range i).map (lineW ns[0] ns[1] ns[2] ns[3]))) (fun H1 o => ⟨[], emp, _, _, _, rfl, ⟨o.1, fun M hM => ?_, emp_ex, (fun _ _ a ha => absurd rfl ha), o.2.2⟩, .nil⟩) (fun i σ H' _ _ => emp_ex) ?_ ?_
    · rcases List.mem_cons.mp hM with z | z
      · subst z; exact fun _ _ => rfl
      · exact o.2.1 M z
    · rintro i x σ H2 H3 hi ⟨xs, N, y3, y4, y5, rfl, o, hC⟩ e rfl
      have o := o.mono e
      have hR : Rows K N xs _ := hC.rows
      have hlen := hR.len
      rw [List.length_map, List.length_range] at hlen
      have hN1 := ex_l o.e2 hN
      -- at
      refine q_v (v := .int (atW ns[0] ns[1] i : Nat)) o (ev_is (ev_op (ev_op (ev_op (ev_var rfl) ev_c (rv_ixLs hN1 a0)) (ev_op (ev_var rfl) (ev_op ev_c (ev_op ev_c (ev_op (ev_op (ev_var rfl) ev_c (rv_ixLs hN1 a1)) ev_c (rv_I (by decide))) (rv_mulI (cmul_small (by decide) (by omega)))) rv_addI) (rv_mulI (cmul_small (by omega) (by omega)))) rv_addI) ev_c (rv_I (by decide))) (by
        have h1 : 0 ≤ (ns[0] + (i : Int) * (1 + 2 * (ns[1] % 32))) % 64 := Int.emod_nonneg _ (by decide)
        unfold atW
        congr 1
        exact (Int.toNat_of_nonneg h1).symm)) fun H1 o => ?_
      have ha := atW_lt ns[0] ns[1] i
      generalize hat : atW ns[0] ns[1] i = at' at ha ⊢
      have q16 : ((at' : Nat) : Int) / 16 = ((at' / 16 : Nat) : Int) := by omega
      have q4 : ((at' : Nat) : Int) / 4 % 4 = ((at' / 4 % 4 : Nat) : Int) := by omega
      have q1 : ((at' : Nat) : Int) % 4 = ((at' % 4 : Nat) : Int) := by omega
      have c16 : CDiv ((at' : Nat) : Int) 16 := ⟨by decide, by decide⟩
      have c4 : CDiv ((at' : Nat) : Int) 4 := ⟨by decide, by decide⟩
      refine q_n (P := pLst ((wN at').map V.str)) o (ep_lst (vs := (wN at').map V.str) (ea_cons (ev_op1 (P := pLst (wA.map V.str)) (ep_lst (by wtm_at "ev")) (ev_is (ev_op (ev_var rfl) ev_c (rv_I c16)) (by rw [q16])) fun v N H1 _ i1 ⟨c, e, hc⟩ => by subst e; exact rv_ixLs (sq_of (i1 _ _ hc)) (at4 rfl (by omega)))
        (ea_cons (ev_op1 (P := pLst (wB.map V.str)) (ep_lst (by wtm_at "ev")) (ev_is (ev_op (ev_op (ev_var rfl) ev_c (rv_I c4)) ev_c (rv_I (by decide))) (by rw [q4])) fun v N H1 _ i1 ⟨c, e, hc⟩ => by subst e; exact rv_ixLs (sq_of (i1 _ _ hc)) (at4 rfl (by omega)))
        (ea_cons (ev_op1 (P := pLst (wC.map V.str)) (ep_lst (by wtm_at "ev")) (ev_is (ev_op (ev_var rfl) ev_c (rv_I (by decide))) (by rw [q1])) fun v N H1 _ i1 ⟨c, e, hc⟩ => by subst e; exact rv_ixLs (sq_of (i1 _ _ hc)) (at4 rfl (by omega))) ea_nil)))) fun v2 H1 N2 o hp => ?_
      obtain ⟨c, rfl, hc⟩ := hp
      have hN1 := ex_l o.e3 hN
      obtain ⟨m, hm⟩ : ∃ m : Nat, (ns[2] + (i : Int) * ns[3]) % 6 = m := ⟨((ns[2] + (i : Int) * ns[3]) % 6).toNat, by have := Int.emod_nonneg (ns[2] + (i : Int) * ns[3]) (show (6 : Int) ≠ 0 by decide); omega⟩
      have el : lineW ns[0] ns[1] ns[2] ns[3] i = wN at' ++ wT.take m := by unfold lineW; rw [hat, hm]; rfl
      refine s_appN (P := pLst ((lineW ns[0] ns[1] ns[2] ns[3] i).map V.str)) (j := 1) o rfl (ev_var rfl) (ep_catN (P1 := is (.ref c)) (P2 := pLst ((wT.take m).map V.str)) (ep_v (ev_var rfl)) (ep_slN (xs := wT.map V.str) (ep_lst (by wtm_at "ev")) eo_none (eo_some (ev_is (ev_op (ev_op (ev_op (ev_var rfl) ev_c (rv_ixLs hN1 a2)) (ev_op (ev_var rfl) (ev_op (ev_var rfl) ev_c (rv_ixLs hN1 a3)) (rv_mulI (cmul_small (by omega) (by omega)))) rv_addI) ev_c (rv_I (by decide))) (by rw [hm]))) (cut_line wT m)) fun N1 N2 H1 v1 v2 e i1 i2 p1 ⟨b, e2, hb⟩ => ⟨c, b, _, _, p1, e2, e _ _ (o.e0 _ _ hc), i2 _ _ hb, ?_, fun p => ⟨p, rfl, ?_⟩⟩) (by omega) fun v2 H1 N3 o hp => ?_
      · rw [List.length_map, List.length_map, List.length_take]
        have : wT.length = 5 := rfl
        show 3 + _ ≤ _
        omega
      · rw [sing_at, el, List.map_append]
      · obtain ⟨b, rfl, hb⟩ := hp
        have o : Own [N3, N2, sing l (.lst (xs ++ [.ref b])), N, H] H1 := o
        have o2 : Own [sing l (.lst (xs ++ [.ref b])), N3, N, H] H1 := by
          have z : Own [sing l (.lst (xs ++ [.ref b])), N3, N2, N, H] H1 := o.pull (i := 2) rfl
          have z2 : Own [N2, sing l (.lst (xs ++ [.ref b])), N3, N, H] H1 := z.pull (i := 2) rfl
          exact z2.tail
        have dN : ∀ a, N3 a ≠ none → N a = none := o2.dj (i := 1) (j := 2) (by decide) rfl rfl
        refine ⟨xs ++ [.ref b], uni N N3, _, _, _, rfl, ?_, ?_⟩
        · exact own_merge2 o2
        · rw [List.range_succ, List.map_append]
          exact cr_snoc (hC.mono (uni_l dN)) (uni_r _ _ hb)
    · rintro σ H2 ⟨xs, N, y3, y4, y5, rfl, o, hC⟩
      have hR : Rows K N xs _ := hC.rows
      refine s_rv o (ev_var rfl) fun H1 o => ?_
      have o2 : Own [uni N (sing l (.lst xs)), H] H1 := o.merge
      have dN : ∀ a, sing l (.lst xs) a ≠ none → N a = none := o.dj (i := 0) (j := 1) (by decide) rfl rfl
      obtain ⟨m, rfl⟩ : ∃ m : Nat, n = m := ⟨n.toNat, by omega⟩
      exact o2.ret k (i := 0) (j := 1) rfl rfl ⟨l, _, rfl, vs_of (sq_of (uni_r _ _ sing_at)) (hR.mono (uni_l dN)) (by simp; omega) (fun l hl => (wide_good _ _ _ _ (n := m) (by omega) (by omega)).ver l hl), wide_good _ _ _ _ (by omega) (by omega), xs, uni_r _ _ sing_at, hC.mono (uni_l dN)⟩
end
section
variable {P : Program} {w : World} {K : PySem.W.Frag} {mg : Str → Option Value} {base : Heap}
def R__law_book (K : PySem.W.Frag) : Rl := ⟨fun vs H r => ∃ (p : Addr) (ns : List Int) (n : Int), vs = [.ref p, .int n] ∧ Nm K H p ns ∧ 9 + 6 * n ≤ ns.length ∧ 1 ≤ n ∧ n ≤ 40 ∧ r = .ok (pGood K n.toNat), fun e ⟨p, ns, n, h1, h2, h3⟩ => ⟨p, ns, n, h1, h2.mono e, h3⟩⟩
theorem apart_snoc {ls : List (List Str)} {l : List Str} (h : Apart ls) (ha : (List.range ls.length).all (fun i => !alikeM l (row1 ls i)) = true) : Apart (ls ++ [l]) := by
  unfold Apart at *
  rw [List.pairwise_append]
  refine ⟨h, List.pairwise_singleton _ _, fun a ha2 b hb => ?_⟩
  have e : b = l := by simpa using hb
  subst e
  obtain ⟨i, hi, rfl⟩ := List.getElem_of_mem ha2
  have z := List.all_eq_true.mp ha i (List.mem_range.mpr hi)
  have e1 : row1 ls i = ls[i] := by unfold row1; rw [List.getD_eq_getElem?_getD, List.getElem?_eq_getElem hi]; rfl
  rw [e1] at z
  rw [alikeM_comm]
  simpa using z
theorem GB.le {n m : Nat} {ls : List (List Str)} (h : GB n ls) (hm : n ≤ m) : GB m ls := ⟨h.pos, Nat.le_trans h.len hm, h.ver, h.apart⟩
theorem ok__law_book (B : Bt mg) (O__law_pool : Ok P w K mg base 2 "_law_pool" ["_law_d"] ((R__law_pool K).sp mg)) (O__law_verse : Ok P w K mg base 1 "_law_verse" ["_law_verses", "_law_pool_here", "_law_d"] ((R__law_verse K).sp mg)) (O__law_wide : Ok P w K mg base 1 "_law_wide" ["_law_d", "_law_size"] ((R__law_wide K).sp mg)) (O__law_alike : Ok P w K mg base 1 "_law_alike" ["_law_one", "_law_other"] ((R_alike K).sp mg)) (D : Df K mg "_law_book" s__law_book ["_law_d", "_law_most"]) : Ok P w K mg base 3 "_law_book" ["_law_d", "_law_most"] ((R__law_book K).sp mg) := by
  refine D.ok sc__law_book (fun vs H Q E h => ?_) (fun f cdv A outer s H vs Q E hr h => ?_)
  · obtain ⟨r, ⟨p, ns, n, rfl, _⟩, _⟩ := h
    rfl
  · obtain ⟨r, ⟨p, ns, n, rfl, ⟨hN, hall⟩, hl, hn1, hn2, rfl⟩, k⟩ := h
    refine ⟨_, (pss_cons (ps_if (pt_cmpR (op_eqK K (hu65 hr)) (pe_op op_mod (pe_op op_fdiv (pe_ix (ix_seqK K) (pv 0) pe_int (fun _ _ => rfl)) pe_int) pe_int) pe_int (nomark _))
        (pss_one (ps_ret (pe_callO O__law_wide (hr.mono (by omega)) (by rfl) (takes_of rfl rfl rfl rfl) (pa_cons (pe_slice (sl_K K) (pv 0) (po_some pe_int) (po_some pe_int)) (pa_cons (pe_op (op_addK K) pe_int (pe_op op_mod (pe_ix (ix_seqK K) (pv 0) pe_int (fun _ _ => rfl)) (pv 1))) pa_nil)))))
        pss_nil)
      (pss_cons (ps_set (i := 2) sc__law_book.nd rfl (.inl rfl) (pe_slice (sl_K K) (pe_callO O__law_pool (hr.mono (by omega)) (by rfl) (takes_of rfl rfl rfl rfl) (pa_cons (pe_slice (sl_K K) (pv 0) (po_some pe_int) (po_some pe_int)) pa_nil)) po_none (po_some (pe_op (op_addK K) pe_int (pe_op op_mod (pe_ix (ix_seqK K) (pv 0) pe_int (fun _ _ => rfl)) pe_int)))))
      (pss_cons (ps_set (i := 3) sc__law_book.nd rfl (.inl rfl) (pe_lst pa_nil))
      (pss_cons (ps_for (passes_of rfl) rfl (pi_range1 (by rfl) B.range (pa_cons (pe_op (op_addK K) pe_int (pe_op op_mod (pe_ix (ix_seqK K) (pv 0) pe_int (fun _ _ => rfl)) (pv 1))) pa_nil)) (pg_name (i := 4) sc__law_book.nd rfl (.inl rfl))
        (pss_cons (ps_set (i := 5) sc__law_book.nd rfl (.inr rfl) (pe_callO O__law_verse (hr.mono (by omega)) (by rfl) (takes_of rfl rfl rfl rfl) (pa_cons (pv 3) (pa_cons (pv 2) (pa_cons (pe_slice (sl_K K) (pv 0) (po_some (pe_op (op_addK K) pe_int (pe_op op_mulU pe_int (pv 4)))) (po_some (pe_op (op_addK K) pe_int (pe_op op_mulU pe_int (pv 4))))) pa_nil)))))
        (pss_one (ps_if (pt_val (pe_callB (cr_allK K rfl) (by rfl) B.all boot_b_all (pa_cons (pe_lc (own := [("_law_one", 6)]) rfl sc__law_book.nd (pi_listK K (pv 3)) (blkOk_by (N := ["_law_d", "_law_most", "_law_pool_here", "_law_verses", "_law_k", "_law_line", "_law_one"]) (sc := defScope s__law_book) (by decide +kernel)) (fun _ _ _ _ _ => (pg_name (i := 6) sc__law_book.nd rfl (.inl rfl))) (fun _ _ _ _ _ => pts_nil) (fun _ _ _ _ _ => (pe_not (pe_callO O__law_alike (hr.mono (by omega)) (by rfl) takes0 (pa_cons (pv 5) (pa_cons (pv 6) pa_nil)))))) pa_nil)))
          (pss_one (ps_expr (pe_bmK K PySem.F.plainAttrs_list PySem.F.slot_list_append PySem.F.type_list_append mt_append (pv 3) (pa_cons (pv 5) pa_nil))))
          pss_nil))))
      (pss_one (ps_ret (pv 3))))))), ?_⟩
    have a0 := atI_map (ns := ns) (j := 0) (by omega)
    have a8 := atI_map (ns := ns) (j := 8) (by omega)
    have n0 := hall _ (List.getElem_mem (show 0 < ns.length by omega))
    have n8 := hall _ (List.getElem_mem (show 8 < ns.length by omega))
    have hm0 := Int.emod_nonneg ns[0] (show n ≠ 0 by omega)
    have hm1 := Int.emod_lt_of_pos ns[0] (show 0 < n by omega)
    have c5 : CDiv ns[8] 5 := ⟨by decide, by decide⟩
    refine q_wh (Own.one H) (et_test (ev_op (ev_op (ev_op (ev_op (ev_var rfl) ev_c (rv_ixLs hN a8)) ev_c (rv_I c5)) ev_c (rv_I (by decide))) ev_c rv_eqI)) (fun hb H1 o => ?_) (fun hb H1 o => ?_)
    · have hN1 := ex_l o.e0 hN
      refine s_rn o (P := pGood K n.toNat) (ep_imp (ep_callN (S := R__law_wide K) (P := pGood K (1 + ns[0] % n).toNat) (eps_cons (P := pLst (((ns.drop 1).take 4).map V.int)) (ep_l (el_is (el_sl' (ev_var rfl) (eo_some ev_c) (eo_some ev_c) hN1) (cut_mid ns 1 5 (by decide)))) (eps_cons (ep_v (ev_op ev_c (ev_op (ev_op (ev_var rfl) ev_c (rv_ixLs hN1 a0)) (ev_var rfl) (rv_I (show (0 : Int) < n by omega))) rv_addI)) eps_nil)) fun vs H2 e2 ha => ?_) fun N v ⟨p, ls, h1, h2, h3, h4⟩ => ⟨p, ls, h1, h2, h3.le (by omega), h4⟩) fun v H1 N o hp => o.ret k (i := 0) (j := 1) rfl rfl hp
      cases ha with
      | cons h1 hr =>
        cases hr with
        | cons h2 hr =>
          cases hr
          obtain ⟨N1, i1, c, rfl, hc⟩ := h1
          obtain ⟨N2, i2, h2⟩ := h2
          have h2 : _ = V.int (1 + ns[0] % n) := h2
          subst h2
          refine ⟨c, _, _, rfl, Nm.drop hall (i1 _ _ hc), ?_, by omega, by omega, rfl⟩
          rw [List.length_take, List.length_drop]; omega
    · have hN1 := ex_l o.e0 hN
      obtain ⟨m, hm⟩ : ∃ m : Nat, (2 : Int) + ns[8] % 5 = (m : Int) := ⟨(2 + ns[8] % 5).toNat, by omega⟩
      refine q_n (P := fun N v => ∃ (c : Addr) (l : List Str), v = .ref c ∧ N c = some (.lst (l.map V.str)) ∧ 1 ≤ l.length ∧ l.length ≤ 1000 ∧ SylL l) o (ep_slP (P := pPool 6) (ep_callN (S := R__law_pool K) (eps_cons (P := pLst (((ns.drop 1).take 7).map V.int)) (ep_l (el_is (el_sl' (ev_var rfl) (eo_some ev_c) (eo_some ev_c) hN1) (cut_mid ns 1 8 (by decide)))) eps_nil) fun vs H2 e2 ha => ?_) eo_none (eo_some (i := (m : Int)) (ev_is (ev_op ev_c (ev_op (ev_op (ev_var rfl) ev_c (rv_ixLs hN1 a8)) ev_c (rv_I (by decide))) rv_addI) (congrArg V.int hm))) ?_) fun v H1 Np o hp => ?_
      · cases ha with
        | cons h1 hr =>
          cases hr
          obtain ⟨N1, i1, c, rfl, hc⟩ := h1
          refine ⟨c, _, rfl, Nm.drop hall (i1 _ _ hc), ?_, rfl⟩
          rw [List.length_take, List.length_drop]; omega
      · rintro N v ⟨c, l, rfl, hc, hlen, hs⟩
        refine ⟨c, _, rfl, hc, fun p => ⟨p, l.take m, rfl, ?_, ?_, ?_, fun s hs2 => hs s (List.mem_of_mem_take hs2)⟩⟩
        · rw [sing_at, cut_line]
        · rw [List.length_take]; omega
        · rw [List.length_take]; omega
      obtain ⟨pp, pool, rfl, hP, hp1, hp2, hsyl⟩ := hp
      refine q_l o (by wtm_at "ev") fun l H1 o => ?_
      have hN2 := ex_l o.e2 hN
      refine q_forN (G := emp) o (ei_rng1 (m := 1 + ns[0] % n) (ea_cons (ev_op ev_c (ev_op (ev_op (ev_var rfl) ev_c (rv_ixLs hN2 a0)) (ev_var rfl) (rv_I (show (0 : Int) < n by omega))) rv_addI) ea_nil) (by omega)) (fun i σ H' => ∃ xs N ls y4 y5, σ = [some (.ref p), some (.int n), some (.ref pp), some (.ref l), y4, y5, none] ∧ Own [sing l (.lst xs), N, Np, H] H' ∧ CR N xs ls ∧ ls.length ≤ i ∧ (1 ≤ i → 1 ≤ ls.length) ∧ (∀ l ∈ ls, isVer l = true) ∧ Apart ls) (fun H1 o => ⟨[], emp, [], _, _, rfl, own_emp o, .nil, Nat.le_refl _, (fun h => absurd h (by decide)), (fun _ h => nomatch h), List.Pairwise.nil⟩) (fun i σ H' _ _ => emp_ex) ?_ ?_
      · rintro i x σ H2 H3 hi ⟨xs, N, ls, y4, y5, rfl, o, hC, hli, hl1, hver, hap⟩ e rfl
        have o := o.mono e
        have hR : Rows K N xs ls := hC.rows
        have hlen := hR.len
        have hN3 := ex_l o.e3 hN
        have hV : Vs K H3 l ls := vs_of (sq_of (o.e0 _ _ sing_at)) (hR.mono o.e1) (by omega) hver
        have hPo := o.e2 _ _ hP
        refine q_n (P := pVer) o (ep_callN (S := R__law_verse K) (eps_cons (ep_v (ev_var rfl)) (eps_cons (ep_v (ev_var rfl)) (eps_cons (P := pLst (((ns.drop (9 + 6 * i)).take 6).map V.int)) (ep_l (el_is (el_sl' (lo := some ((9 + 6 * i : Nat) : Int)) (hi := some ((15 + 6 * i : Nat) : Int)) (ev_var rfl) (eo_some (ev_is (ev_op ev_c (ev_op ev_c (ev_var rfl) (rv_mulI (cmul_small (by decide) (by omega)))) rv_addI) (by congr 1))) (eo_some (ev_is (ev_op ev_c (ev_op ev_c (ev_var rfl) (rv_mulI (cmul_small (by decide) (by omega)))) rv_addI) (by congr 1))) hN3) (by rw [cut_mid ns _ _ (by omega), show 15 + 6 * i - (9 + 6 * i) = 6 by omega]))) eps_nil))) fun vs H4 e4 ha => ?_) fun v H1 Nl o hp => ?_
        · cases ha with
          | cons h1 hr => cases hr with
            | cons h2 hr => cases hr with
              | cons h3 hr =>
                cases hr
                obtain ⟨_, _, h1⟩ := h1
                obtain ⟨_, _, h2⟩ := h2
                have h1 : _ = V.ref l := h1
                have h2 : _ = V.ref pp := h2
                subst h1 h2
                obtain ⟨N1, i1, c, rfl, hc⟩ := h3
                refine ⟨l, pp, c, ls, pool, _, rfl, hV.mono e4, sq_of (e4 _ _ hPo), hp1, hp2, hsyl, Nm.drop hall (i1 _ _ hc), ?_, rfl⟩
                rw [List.length_take, List.length_drop]; omega
        obtain ⟨c, line, rfl, hc, hline⟩ := hp
        have hV : Vs K H1 l ls := vs_of (sq_of (o.e1 _ _ sing_at)) (hR.mono o.e2) (by omega) hver
        have hln : Ln K H1 c line := ⟨sq_of (o.e0 _ _ hc), ver_txt hline⟩
        have hRr := hR.mono o.e2
        refine s_wh o (et_test (ev_allI (n := xs.length) (fun j => [some (.ref p), some (.int n), some (.ref pp), some (.ref l), some (.int (i : Nat)), some (.ref c), some (xs.getD j .non)]) (fun j => !alikeM line (row1 ls j)) (ei_list (ev_var rfl) (sq_of (o.e1 _ _ sing_at)) (Ex.refl _)) (Ex.refl _) (by omega) (fun j x H' _ hx Q q => by rw [getD_of hx] at q; exact q) (fun _ _ => rfl) (fun j H4 e4 hj => ?_))) (fun hb H1 o => ?_) (fun hb H1 o => ?_)
        · obtain ⟨q, hq, hL⟩ := hV.1.row hRr (i := j) (by omega)
          refine ev_notV ((ev_callO (S := R_alike K) (vs := [.ref c, .ref q]) (ea_cons (ev_var rfl) (ea_cons (ev_var (by rw [getD_of hq]; rfl)) ea_nil)) ⟨c, q, line, row1 ls j, rfl, hln.mono e4, hL.mono e4, rfl⟩))
        · refine s_app (j := 1) o rfl (ev_var rfl) (ev_var rfl) (by omega) fun H1 o => ?_
          have o : Own [Nl, sing l (.lst (xs ++ [.ref c])), N, Np, H] H1 := o
          have o2 : Own [sing l (.lst (xs ++ [.ref c])), Nl, N, Np, H] H1 := o.swap
          have dN : ∀ a, Nl a ≠ none → N a = none := o2.dj (i := 1) (j := 2) (by decide) rfl rfl
          refine ⟨xs ++ [.ref c], uni N Nl, ls ++ [line], _, _, rfl, own_merge2 o2, cr_snoc (hC.mono (uni_l dN)) (uni_r _ _ hc), ?_, ?_, ?_, ?_⟩
          · rw [List.length_append, List.length_singleton]; omega
          · intro _; rw [List.length_append, List.length_singleton]; omega
          · intro l hl
            rcases List.mem_append.mp hl with z | z
            · exact hver l z
            · rw [List.mem_singleton.mp z]; exact hline
          · rw [hlen] at hb
            exact apart_snoc hap hb
        · refine ⟨xs, N, ls, _, _, rfl, o.tail, hC, by omega, fun _ => ?_, hver, hap⟩
          rcases Nat.eq_zero_or_pos ls.length with z | z
          · rw [hlen, z] at hb
            cases hb
          · exact z
      · rintro σ H2 ⟨xs, N, ls, y4, y5, rfl, o, hC, hli, hl1, hver, hap⟩
        have hR : Rows K N xs ls := hC.rows
        refine s_rv o (ev_var rfl) fun H1 o => ?_
        have o2 : Own [uni N (sing l (.lst xs)), Np, H] H1 := o.merge
        have dN : ∀ a, sing l (.lst xs) a ≠ none → N a = none := o.dj (i := 0) (j := 1) (by decide) rfl rfl
        exact o2.ret k (i := 0) (j := 2) rfl rfl ⟨l, ls, rfl, vs_of (sq_of (uni_r _ _ sing_at)) (hR.mono (uni_l dN)) (by omega) hver, ⟨hl1 (by omega), by omega, hver, hap⟩, xs, uni_r _ _ sing_at, hC.mono (uni_l dN)⟩
end
section
variable {P : Program} {w : World} {K : PySem.W.Frag} {mg : Str → Option Value} {base : Heap}
def R__law_copy (K : PySem.W.Frag) : Rl := ⟨fun vs H r => ∃ (v : Addr) (ls : List (List Str)), vs = [.ref v] ∧ Bk K H v ls ∧ r = .ok (pRows K ls), fun e ⟨v, ls, h1, h2, h3⟩ => ⟨v, ls, h1, h2.mono e, h3⟩⟩
theorem Bk.sm {H : Hp} {v : Addr} {ls : List (List Str)} (h : Bk K H v ls) : smD (eBook ls) := smD_book (by have := h.2.1; omega) fun l hl => by have := (h.2.2 l hl).1; omega
theorem Bk.shp {H : Hp} {v : Addr} {ls : List (List Str)} (h : Bk K H v ls) : SeqAt.shaped (eBook ls) = true := shaped_book fun l hl s hs => (h.2.2 l hl).2 s hs
theorem ver_len {l : List Str} (h : isVer l = true) : 1 ≤ l.length ∧ l.length ≤ 1000 := by
  obtain ⟨h1, h2, _⟩ := isVer_iff.mp h
  omega
theorem needR_ok {ls : List (List Str)} {P : Hp → V → Prop} (h : needM ls = none) : needR ls P = .ok P := by unfold needR; rw [h]
theorem depth_book (ls : List (List Str)) : (eBook ls).depth < 3 := by
  have := depth_rows ls
  simp only [PyData.depth]
  omega
theorem depth_line (l : List Str) : (eLine l).depth < 3 := by
  simp only [PyData.depth, depth_strs]
  omega
theorem depth_int (i : Int) : (PyData.int i).depth < 3 := by simp only [PyData.depth]; omega
end
abbrev s_need_numbers : Stmt := topS 19
theorem sc_need_numbers : FnScope ["book", "numbers", "number"] ["book", "numbers"] (defScope s_need_numbers) := ⟨rfl, rfl, rfl, by decide +kernel, rfl, by decide +kernel, by decide +kernel⟩
abbrev s_left : Stmt := topS 20
theorem sc_left : FnScope ["book", "unread", "number"] ["book", "unread"] (defScope s_left) := ⟨rfl, rfl, rfl, by decide +kernel, rfl, by decide +kernel, by decide +kernel⟩
section
variable {P : Program} {w : World} {K : PySem.W.Frag} {mg : Str → Option Value} {base : Heap}
/-- whole numbers at u -/
def Nl (K : PySem.W.Frag) (H : Hp) (u : Addr) (ns : List Int) : Prop := SqL K H u (ns.map V.int) ∧ ns.length ≤ 1000
theorem Nl.mono {H H' : Hp} {u : Addr} {ns : List Int} (e : Ex H H') (h : Nl K H u ns) : Nl K H' u ns := ⟨ex_l e h.1, h.2⟩
def okN (m : Nat) (ns : List Int) : Bool := ns.all fun n => decide (0 ≤ n) && decide (n < (m : Int))
def okR (m : Nat) (ns : List Int) (P : Hp → V → Prop) : Res := if okN m ns = true then .ok P else .err "NoVerse" []
theorem okR_ok {m : Nat} {ns : List Int} {P : Hp → V → Prop} (h : okN m ns = true) : okR m ns P = .ok P := if_pos h
theorem okR_no {m : Nat} {ns : List Int} {P : Hp → V → Prop} (h : okN m ns = false) : okR m ns P = .err "NoVerse" [] := if_neg (by rw [h]; decide)
def R_need_numbers (K : PySem.W.Frag) (C : Addr) : Rl := ⟨fun vs H r => ∃ (b u : Addr) (ls : List (List Str)) (ns : List Int), vs = [.ref b, .ref u] ∧ BookAt K C H b ls ∧ Nl K H u ns ∧ r = okR ls.length ns (is .non), fun e ⟨b, u, ls, ns, h1, h2, h3, h4⟩ => ⟨b, u, ls, ns, h1, h2.mono e, h3.mono e, h4⟩⟩
theorem ok_need_numbers (B : Bt mg) {C_Book C_NoVerse : Addr} (X_NoVerse : Xc K mg "NoVerse" C_NoVerse) (O_Book_many : OkM P w K mg base 1 C_Book "many" ["self"] ((R_Book_many K C_Book).sp mg)) (D : Df K mg "need_numbers" s_need_numbers ["book", "numbers"]) : Ok P w K mg base 2 "need_numbers" ["book", "numbers"] ((R_need_numbers K C_Book).sp mg) := by
  refine D.ok sc_need_numbers (fun vs H Q E h => ?_) (fun f cdv A outer s H vs Q E hr h => ?_)
  · obtain ⟨r, ⟨b, u, ls, ns, rfl, _⟩, _⟩ := h
    rfl
  · obtain ⟨r, ⟨b, u, ls, ns, rfl, hB, ⟨hu, hl⟩, rfl⟩, k⟩ := h
    refine ⟨_, (pss_one (ps_for (passes_of rfl) rfl (pi_listK K (pv 1)) (pg_name (i := 2) sc_need_numbers.nd rfl (.inl rfl))
        (pss_one (ps_if (pt_not (pt_chain op_le op_lt pe_int (pv 2) (pe_methO0 O_Book_many (pv 0) (hr.mono (by omega)) (takes_of rfl rfl rfl rfl))))
          (pss_one (ps_raise rfl (takes_of rfl rfl rfl rfl) (pmk_ex X_NoVerse (by rfl))))
          pss_nil)))), ?_⟩
    obtain ⟨dx, pp, hbi, hbp⟩ := hB.1
    refine s_forN (G := H) (Own.one H) (ei_list (ev_var rfl) hu (Ex.refl _)) (fun i σ H' => ∃ y, σ = [some (.ref b), some (.ref u), y] ∧ Own [H] H' ∧ okN ls.length (ns.take i) = true) (fun H1 o => ⟨_, rfl, o, rfl⟩) (fun i σ H' _ ⟨_, _, o, _⟩ => o.e0) ?_ ?_
    · rintro i x σ H1 H2 hi ⟨y, rfl, o, ha⟩ e hx
      have o := o.mono e
      rw [List.length_map] at hi
      have hx : (ns.map V.int)[i]? = some x := hx
      rw [List.getElem?_map, List.getElem?_eq_getElem hi] at hx
      obtain rfl : V.int ns[i] = x := Option.some.inj hx
      refine s_wh o (et_not (et_test (ev_chain ev_c (ev_var rfl) (ev_p (ep_meth (S := R_Book_many K C_Book) (ev_var rfl) (o.e0 _ _ hbi) rfl ea_nil ⟨b, ls, rfl, hB.mono o.e0, rfl⟩))))) (fun hb H3 o => ?_) (fun hb H3 o => ?_)
      · have e1 : okN ls.length ns = false := by
          unfold okN
          refine List.all_eq_false.mpr ⟨_, List.getElem_mem hi, ?_⟩
          cases hz : (decide (0 ≤ ns[i]) && decide (ns[i] < ((ls.length : Nat) : Int))) with
          | false => decide
          | true => rw [hz] at hb; cases hb
        rw [okR_no e1] at k
        exact k H3 C_NoVerse none (o.ix (i := 0) rfl) X_NoVerse.g (.inl ⟨rfl, rfl⟩)
      · refine ⟨_, rfl, o, ?_⟩
        rw [List.take_succ_eq_append_getElem hi]
        unfold okN at ha ⊢
        rw [List.all_append, ha, Bool.true_and]
        cases hz : (decide (0 ≤ ns[i]) && decide (ns[i] < ((ls.length : Nat) : Int))) with
        | true => simpa using hz
        | false => rw [hz] at hb; cases hb
    · rintro σ H2 ⟨y, rfl, o, ha⟩
      rw [List.length_map, List.take_length] at ha
      rw [okR_ok ha] at k
      exact o.retV k (j := 0) rfl rfl
def leftM (m : Nat) (ns : List Int) : List Nat := (List.range m).filter fun i => decide ((i : Int) ∈ ns)
abbrev nsV (l : List Nat) : List V := l.map fun i => V.int (i : Nat)
abbrev pNs (l : List Nat) : Hp → V → Prop := pLst (nsV l)
def R_left (K : PySem.W.Frag) (C : Addr) : Rl := ⟨fun vs H r => ∃ (b u : Addr) (ls : List (List Str)) (ns : List Int), vs = [.ref b, .ref u] ∧ BookAt K C H b ls ∧ Nl K H u ns ∧ r = okR ls.length ns (pNs (leftM ls.length ns)), fun e ⟨b, u, ls, ns, h1, h2, h3, h4⟩ => ⟨b, u, ls, ns, h1, h2.mono e, h3.mono e, h4⟩⟩
theorem eqV_int (a b : Int) : eqV (.int a) (.int b) = decide (a = b) := by
  unfold eqV
  by_cases h : a = b <;> simp [h]
theorem inV_ints (i : Int) (ns : List Int) : inV (.int i) (ns.map V.int) = decide (i ∈ ns) := by
  unfold inV
  induction ns with
  | nil => rfl
  | cons n r ih =>
    rw [List.map_cons, List.any_cons, ih, eqV_int]
    by_cases h : n = i
    · subst h
      simp
    · have h2 : ¬ i = n := fun z => h z.symm
      simp [h, h2]
theorem flat_ints (ns : List Int) : (ns.map V.int).all flatV = true := List.all_eq_true.mpr fun x hx => by
  obtain ⟨n, _, rfl⟩ := List.mem_map.mp hx
  rfl
theorem book_len {C : Addr} {H : Hp} {b : Addr} {ls : List (List Str)} (h : BookAt K C H b ls) : ls.length ≤ 1000 := by
  obtain ⟨⟨dx, p, _, hB⟩, _⟩ := h
  exact hB.2.1
theorem ok_left (B : Bt mg) {C_Book : Addr} (O_Book_many : OkM P w K mg base 1 C_Book "many" ["self"] ((R_Book_many K C_Book).sp mg)) (O_need_numbers : Ok P w K mg base 2 "need_numbers" ["book", "numbers"] ((R_need_numbers K C_Book).sp mg)) (D : Df K mg "left" s_left ["book", "unread"]) : Ok P w K mg base 3 "left" ["book", "unread"] ((R_left K C_Book).sp mg) := by
  refine D.ok sc_left (fun vs H Q E h => ?_) (fun f cdv A outer s H vs Q E hr h => ?_)
  · obtain ⟨r, ⟨b, u, ls, ns, rfl, _⟩, _⟩ := h
    rfl
  · obtain ⟨r, ⟨b, u, ls, ns, rfl, hB, hN, rfl⟩, k⟩ := h
    refine ⟨_, (pss_cons (ps_expr (pe_callO O_need_numbers (hr.mono (by omega)) (by rfl) (takes_of rfl rfl rfl rfl) (pa_cons (pv 0) (pa_cons (pv 1) pa_nil))))
      (pss_one (ps_ret (pe_lc (own := [("number", 2)]) rfl sc_left.nd (pi_range1 (by rfl) B.range (pa_cons (pe_methO0 O_Book_many (pv 0) (hr.mono (by omega)) (takes_of rfl rfl rfl rfl)) pa_nil)) (blkOk_by (N := ["book", "unread", "number"]) (sc := defScope s_left) (by decide +kernel)) (fun _ _ _ _ _ => (pg_name (i := 2) sc_left.nd rfl (.inl rfl))) (fun _ _ _ _ _ => pts_one (pt_cmpR (op_inK K (hu65 hr)) (pv 2) (pv 1) (by rfl))) (fun _ _ _ _ _ => (pv 2)))))), ?_⟩
    cases hok : okN ls.length ns with
    | false =>
      rw [okR_no hok] at k
      exact q_der (er_call (S := R_need_numbers K C_Book) (vs := [.ref b, .ref u]) (by wtm_at "ev") ⟨b, u, ls, ns, rfl, hB, hN, (okR_no hok).symm⟩) k
    | true =>
      rw [okR_ok hok] at k
      refine q_dv (Own.one H) (ep_call (S := R_need_numbers K C_Book) (P := is .non) (vs := [.ref b, .ref u]) (by wtm_at "ev") ⟨b, u, ls, ns, rfl, hB, hN, (okR_ok hok).symm⟩) fun H1 o => ?_
      have hB1 := hB.mono o.e0
      obtain ⟨dx, pp, hbi, hbp⟩ := hB1.1
      have hln := book_len hB
      refine s_rn o (ep_l (el_lc (n := ls.length) (fun i => [some (.ref b), some (.ref u), some (.int (i : Nat))]) (fun i => decide ((i : Int) ∈ ns)) (fun i => .int (i : Nat)) (ei_rng1 (m := (ls.length : Nat)) (ea_cons (ev_p (ep_meth (S := R_Book_many K C_Book) (ev_var rfl) hbi rfl ea_nil ⟨b, ls, rfl, hB1, rfl⟩)) ea_nil) (by omega)) (Ex.refl _) (by omega) (fun i x H' _ hx Q q => by rw [hx]; exact q) (fun _ _ => rfl) (fun i H2 e2 hi => ?_) (fun i H2 e2 hi _ => ev_var rfl))) fun v H1 N o p => o.ret k (i := 0) (j := 1) rfl rfl p
      exact et_test (ev_is (ev_op (ev_var rfl) (ev_var rfl) (rv_inLs (ex_l (o.e0.trans e2) hN.1) rfl (flat_ints ns))) (by rw [inV_ints]))
def meetM (ls : List (List Str)) (ns : List Int) (h : List Str) : List Nat := (leftM ls.length ns).filter fun i => begM h (row1 ls i)
def R_meeting (K : PySem.W.Frag) (C : Addr) : Rl := ⟨fun vs H r => ∃ (b u h : Addr) (ls : List (List Str)) (ns : List Int) (l : List Str), vs = [.ref b, .ref u, .ref h] ∧ BookAt K C H b ls ∧ Nl K H u ns ∧ Ln K H h l ∧ r = okR ls.length ns (pNs (meetM ls ns l)), fun e ⟨b, u, h, ls, ns, l, h1, h2, h3, h4, h5⟩ => ⟨b, u, h, ls, ns, l, h1, h2.mono e, h3.mono e, h4.mono e, h5⟩⟩
theorem leftM_lt {m : Nat} {ns : List Int} {i : Nat} (h : i ∈ leftM m ns) : i < m := List.mem_range.mp (List.mem_filter.mp h).1
theorem leftM_len (m : Nat) (ns : List Int) : (leftM m ns).length ≤ m := by
  have := List.length_filter_le (fun i : Nat => decide ((i : Int) ∈ ns)) (List.range m)
  rw [List.length_range] at this
  exact this
theorem verseR_ok {ls : List (List Str)} {i : Nat} (h : i < ls.length) : verseR ls (i : Nat) = .ok (pLine (row1 ls i)) := by
  unfold verseR
  rw [if_pos ⟨by omega, by omega⟩]
  rfl
def onN (f : Nat → Bool) : V → Bool
  | .int i => f i.toNat
  | _ => false
theorem filter_nsV (l : List Nat) (f : Nat → Bool) : (nsV l).filter (onN f) = nsV (l.filter f) := by
  unfold nsV
  rw [List.filter_map]
  rfl
theorem meetM_lt {ls : List (List Str)} {ns : List Int} {h : List Str} {i : Nat} (hi : i ∈ meetM ls ns h) : i < ls.length := leftM_lt (List.mem_filter.mp hi).1
theorem meetM_len (ls : List (List Str)) (ns : List Int) (h : List Str) : (meetM ls ns h).length ≤ ls.length := Nat.le_trans (List.length_filter_le _ _) (leftM_len _ _)
end
section
variable {P : Program} {w : World} {K : PySem.W.Frag} {mg : Str → Option Value} {base : Heap}
theorem dpa_map {α : Type} {f : α → PyData} {H : Hp} : ∀ {xs : List V} {l : List α}, Paired (fun x q => Dp K H x (f q)) xs l → DpAll K H xs (l.map f)
  | _, _, .nil => .nil
  | _, _, .cons h r => .cons h (dpa_map r)
/-- a new list of data -/
abbrev pDL (K : PySem.W.Frag) (ds : List PyData) : Hp → V → Prop := fun N v => ∃ p xs, v = .ref p ∧ N p = some (.lst xs) ∧ DpAll K N xs ds
/-- a new list of new pairs -/
def CP (N : Hp) (xs : List V) (acc : List (Str × Nat)) : Prop := Paired (fun x q => ∃ t, x = V.ref t ∧ N t = some (.tup [.str q.1, .int (q.2 : Nat)])) xs acc
abbrev pCnt (acc : List (Str × Nat)) : Hp → V → Prop := fun N v => ∃ p xs, v = .ref p ∧ N p = some (.lst xs) ∧ CP N xs acc
theorem CP.mono {N M : Hp} {xs : List V} {acc : List (Str × Nat)} (e : Ex N M) (h : CP N xs acc) : CP M xs acc := paired_imp (fun _ _ ⟨q, h1, h2⟩ => ⟨q, h1, e _ _ h2⟩) h
abbrev eCnt (p : Str × Nat) : PyData := .tuple [.str p.1, .int (p.2 : Nat)]
def sndM (ls : List (List Str)) (n : Nat) (l : List Nat) : List (Str × Nat) := (l.filterMap fun i => (row1 ls i)[n]?).foldl bump []
def goM (ls : List (List Str)) (ns : List Int) (h : List Str) : List (Str × Nat) := sndM ls h.length (meetM ls ns h)
theorem sndM_snoc (ls : List (List Str)) (n : Nat) (l : List Nat) (i : Nat) : sndM ls n (l ++ [i]) = match (row1 ls i)[n]? with | some s => bump (sndM ls n l) s | none => sndM ls n l := by
  unfold sndM
  rw [List.filterMap_append, List.foldl_append]
  cases h : (row1 ls i)[n]? with
  | none => simp [List.filterMap_cons, h]
  | some s => simp [List.filterMap_cons, h]
theorem bump_len (acc : List (Str × Nat)) (s : Str) : (bump acc s).length ≤ acc.length + 1 := by
  unfold bump
  split
  · rw [List.length_map]; omega
  · rw [List.length_append, List.length_singleton]; omega
theorem sndM_len (ls : List (List Str)) (n : Nat) (l : List Nat) : (sndM ls n l).length ≤ l.length := by
  unfold sndM
  have key : ∀ (ss : List Str) (acc : List (Str × Nat)), (ss.foldl bump acc).length ≤ acc.length + ss.length := by
    intro ss
    induction ss with
    | nil => intro acc; simp
    | cons s r ih =>
      intro acc
      have h1 := ih (bump acc s)
      have h2 := bump_len acc s
      rw [List.foldl_cons, List.length_cons]
      omega
  have h1 := key (l.filterMap fun i => (row1 ls i)[n]?) []
  have h2 := List.length_filterMap_le (fun i => (row1 ls i)[n]?) l
  simp at h1
  omega
theorem toK_len (acc : List (Str × Nat)) : (toK acc).length = acc.length := by unfold toK; rw [List.length_map]
/-- [(sound, count) for sound, count in counts.items()] -/
theorem ep_counts {σ : L2.St} {H : Hp} {d : Addr} {acc : List (Str × Nat)} {j : Nat} {te : TE} {g : TG} {vs : List Nat} (S : Nat → L2.St) (hd : H d = some (.dK (toK acc))) (hl : acc.length ≤ 1000) (hv : ∀ H1, Ev (tVar j) σ H1 (.ref d))
    (hg : ∀ i T H' (Q : L2.St → Hp → Prop), i < acc.length → SqT K H' T [.str (acc.getD i ("", 0)).1, .int ((acc.getD i ("", 0)).2 : Nat)] → Q (S i) H' → g (.ref T) (wipe σ vs) H' Q) (hw : ∀ i, wipe (S i) vs = wipe σ vs)
    (he : ∀ i H1, EvP te (S i) H1 (pTup [.str (acc.getD i ("", 0)).1, .int ((acc.getD i ("", 0)).2 : Nat)])) : EvP (tLockE (tLc (iItems (tVar j)) g tYes te vs)) σ H (pCnt acc) := by
  refine ep_lock hd fun od H1 hk hf => ep_imp (ep_lc (n := acc.length) (Y := fun i x H' => ∃ T k y, x = .ref T ∧ H' T = some (.tup [kV k, y]) ∧ (toK acc)[i]? = some (k, y)) S (fun _ => true) (fun i N v => ∃ t, v = .ref t ∧ N t = some (.tup [.str (acc.getD i ("", 0)).1, .int ((acc.getD i ("", 0)).2 : Nat)])) (fun i N N' v e ⟨t, h1, h2⟩ => ⟨t, h1, e _ _ h2⟩) (toK_len acc ▸ ei_items (hv H1) hf (Ex.refl _)) (Ex.refl _) (by omega) ?_ (fun i _ => hw i) (fun _ _ _ _ => et_yes) (fun i H2 _ _ _ => he i H2)) ?_
  · rintro i x H' hi ⟨T, k, y, rfl, hT, hy⟩ Q q
    unfold toK at hy
    rw [List.getElem?_map, List.getElem?_eq_getElem hi] at hy
    have hy := Option.some.inj hy
    have e1 : acc.getD i ("", 0) = acc[i] := by rw [List.getD_eq_getElem?_getD, List.getElem?_eq_getElem hi]; rfl
    refine hg i T H' Q hi ?_ q
    rw [e1]
    cases hy
    exact st_of hT
  · rintro N v ⟨p, xs, rfl, hp, hpr⟩
    refine ⟨p, xs, rfl, hp, ?_⟩
    rw [picks_all] at hpr
    have hlx := Paired.length hpr
    rw [List.length_range] at hlx
    refine paired_of (by omega) fun i x q h1 h2 => ?_
    have hi : i < acc.length := (List.getElem?_eq_some_iff.mp h2).1
    obtain ⟨x', h3, t, h4, h5⟩ := paired_get hpr (i := i) (x := i) (List.getElem?_range hi)
    rw [h1] at h3
    cases h3
    have e1 : acc.getD i ("", 0) = q := by rw [List.getD_eq_getElem?_getD, h2]; rfl
    rw [e1] at h5
    exact ⟨t, h4, h5⟩
theorem CP.dp {N : Hp} {xs : List V} {acc : List (Str × Nat)} (h : CP N xs acc) : DpAll K N xs (acc.map eCnt) := dpa_map (paired_imp (fun x q ⟨t, h1, h2⟩ => by rw [h1]; exact .tup (st_of h2) (.cons (.str _) (.cons (.int _) .nil))) h)
theorem cnt_ok {ls : List (List Str)} {n : Nat} {l : List Nat} (h : ∀ l ∈ ls, ∀ s ∈ l, TxtOk s) : ∀ q ∈ sndM ls n l, TxtOk q.1 := by
  unfold sndM
  have h0 : ∀ s ∈ l.filterMap fun i => (row1 ls i)[n]?, TxtOk s := fun s hs => by
    obtain ⟨i, _, hi⟩ := List.mem_filterMap.mp hs
    have hm := List.mem_of_getElem? hi
    by_cases hlt : i < ls.length
    · exact h _ (row1_mem hlt) s hm
    · have e : row1 ls i = [] := by unfold row1; rw [List.getD_eq_getElem?_getD, List.getElem?_eq_none (by omega)]; rfl
      rw [e] at hm
      cases hm
  generalize (l.filterMap fun i => (row1 ls i)[n]?) = ss at h0
  have key : ∀ (ss : List Str) (acc : List (Str × Nat)), (∀ s ∈ ss, TxtOk s) → (∀ q ∈ acc, TxtOk q.1) → ∀ q ∈ ss.foldl bump acc, TxtOk q.1 := by
    intro ss
    induction ss with
    | nil => intro acc _ ha q hq; exact ha q hq
    | cons s r ih =>
      intro acc hs ha
      refine ih (bump acc s) (fun t ht => hs t (List.mem_cons_of_mem _ ht)) fun q hq => ?_
      unfold bump at hq
      split at hq
      · obtain ⟨q0, h1, rfl⟩ := List.mem_map.mp hq
        split
        · exact ha q0 h1
        · exact ha q0 h1
      · rcases List.mem_append.mp hq with z | z
        · exact ha q z
        · rw [List.mem_singleton.mp z]; exact hs s List.mem_cons_self
  exact key ss [] h0 fun q hq => nomatch hq
theorem ly_cnt {acc : List (Str × Nat)} (hl : acc.length ≤ 40000) (h : ∀ q ∈ acc, TxtOk q.1) : Ly 2 (.list (acc.map eCnt)) := ly_list (by rw [List.length_map]; exact hl) fun d hd => by
  obtain ⟨q, hq, rfl⟩ := List.mem_map.mp hd
  refine ly_tup (Nat.le_of_ble_eq_true rfl) fun d hd => ?_
  rcases List.mem_cons.mp hd with z | z
  · rw [z]; exact ly_str 0 (h q hq)
  · rw [List.mem_singleton.mp z]; exact ly_int 0 _
def R_goings (K : PySem.W.Frag) (C : Addr) : Rl := ⟨fun vs H r => ∃ (b u h : Addr) (ls : List (List Str)) (ns : List Int) (l : List Str), vs = [.ref b, .ref u, .ref h] ∧ BookAt K C H b ls ∧ Nl K H u ns ∧ Ln K H h l ∧ r = okR ls.length ns (pCnt (goM ls ns l)), fun e ⟨b, u, h, ls, ns, l, h1, h2, h3, h4, h5⟩ => ⟨b, u, h, ls, ns, l, h1, h2.mono e, h3.mono e, h4.mono e, h5⟩⟩
end
section
variable {P : Program} {w : World} {K : PySem.W.Frag} {mg : Str → Option Value} {base : Heap}
theorem rc_max2 {H : Hp} {i j : Int} : RC (fun xs H Q => ∃ i j, xs = [.int i, .int j] ∧ Q (.int (if j > i then j else i)) H) [.int i, .int j] H (.int (max i j)) := fun H1 _ _ q => ⟨i, j, rfl, by
  have e : (if j > i then j else i) = max i j := by
    split <;> omega
  rw [e]
  exact q H1 (Ex.refl H1)⟩
section
variable {σ : L2.St} {H : Hp} {te ta tb : TE}
theorem eh_l {xs : List V} (h : EvL te σ H xs) : EvH te σ H (cL fun _ ys => ys = xs) := fun H1 e Q q => h H1 e Q fun p H2 _ e2 h2 => q (.ref p) H2 e2 ⟨p, xs, rfl, h2, rfl⟩
theorem eh_ref {xs : List V} {p : Addr} (h : Ev te σ H (.ref p)) (hp : H p = some (.lst xs)) : EvH te σ H (cL fun _ ys => ys = xs) := fun H1 e Q q => h H1 e Q fun H2 e2 => q (.ref p) H2 e2 ⟨p, xs, rfl, e2 _ _ (e _ _ hp), rfl⟩
theorem eh_catE {xs ys : List V} (ha : EvH ta σ H (cL fun _ zs => zs = xs)) (hb : EvH tb σ H (cL fun _ zs => zs = ys)) (hl : xs.length + ys.length ≤ 100000) : EvH (tOp (rAddU K) ta tb) σ H (cL fun _ zs => zs = xs ++ ys) :=
  eh_cat ha hb (fun _ h => h) (fun _ h => h) fun H1 a b _ h1 h2 => by subst h1 h2; exact ⟨hl, rfl⟩
theorem eh_rep {xs : List V} {k : Int} (ha : EvH ta σ H (cL fun _ zs => zs = xs)) (hb : Ev tb σ H (.int k)) (h0 : 0 ≤ k) (h1 : k ≤ 1000) (hl : xs.length ≤ 50) : EvH (tOp rMulU ta tb) σ H (cL fun _ zs => zs = (List.replicate k.toNat xs).flatten) := fun H1 e Q q =>
  ha H1 e _ fun v H2 e2 ⟨p, ys, ev, hp, hy⟩ => hb H2 (e.trans e2) _ fun H3 e3 => by
    subst ev hy
    have hz : ys.length * k.toNat ≤ 50 * 1000 := Nat.mul_le_mul hl (by omega)
    exact .inl (.inr ⟨p, k, ys, rfl, rfl, e3 _ _ hp, by omega, by omega, Nat.le_trans hz (by decide), fun p2 hp2 => q (.ref p2) _ ((e2.trans e3).trans (Ex.new hp2)) ⟨p2, _, rfl, upd_same, rfl⟩⟩)
end
def OkL (m : Nat) (l : List Str) : Prop := l.length ≤ m ∧ ∀ s ∈ l, TxtOk s
def cLine (m : Nat) : Hp → V → Prop := fun H v => ∃ c l, v = .ref c ∧ H c = some (.lst (l.map V.str)) ∧ OkL m l
theorem cLine_up {m : Nat} : Up (cLine m) := fun e ⟨c, l, h1, h2, h3⟩ => ⟨c, l, h1, e _ _ h2, h3⟩
theorem Cells.mono {H H' : Hp} {p : Addr} {ls : List (List Str)} (e : Ex H H') (h : Cells H p ls) : Cells H' p ls := by
  obtain ⟨xs, h1, h2⟩ := h
  exact ⟨xs, e _ _ h1, CR.mono e h2⟩
theorem eh_line {σ : L2.St} {H : Hp} {te : TE} {xs : List V} {l : List Str} {m : Nat} (h : EvH te σ H (cL fun _ zs => zs = xs)) (e : xs = l.map V.str) (hl : OkL m l) : EvH te σ H (cLine m) := eh_imp h fun H2 v _ ⟨p, ys, h1, h2, h3⟩ => ⟨p, l, h1, by rw [h2, h3, e], hl⟩
theorem paired_append {α β : Type} {R : α → β → Prop} : ∀ {xs : List α} {ys : List β} {us : List α} {ws : List β}, Paired R xs ys → Paired R us ws → Paired R (xs ++ us) (ys ++ ws)
  | _, _, _, _, .nil, h => h
  | _, _, _, _, .cons a r, h => .cons a (paired_append r h)
theorem paired_take {α β : Type} {R : α → β → Prop} : ∀ {xs : List α} {ys : List β} (n : Nat), Paired R xs ys → Paired R (xs.take n) (ys.take n)
  | _, _, 0, _ => by rw [List.take_zero, List.take_zero]; exact .nil
  | _, _, n + 1, .nil => by simp only [List.take_nil]; exact .nil
  | _, _, n + 1, .cons a r => by simp only [List.take_succ_cons]; exact .cons a (paired_take n r)
theorem paired_drop {α β : Type} {R : α → β → Prop} : ∀ {xs : List α} {ys : List β} (n : Nat), Paired R xs ys → Paired R (xs.drop n) (ys.drop n)
  | _, _, 0, h => by rw [List.drop_zero, List.drop_zero]; exact h
  | _, _, n + 1, .nil => by simp only [List.drop_nil]; exact .nil
  | _, _, n + 1, .cons a r => by simp only [List.drop_succ_cons]; exact paired_drop n r
theorem txt_of {s : Str} (h : (decide (s.length ≤ 1000) && s.cps.toList.all fun c => decide (c < 128)) = true) : TxtOk s := by
  simp only [Bool.and_eq_true, decide_eq_true_eq, List.all_eq_true] at h
  exact h
theorem mod_nat {a b : Int} (h : 0 < b) : ∃ m : Nat, a % b = (m : Int) ∧ (m : Int) < b := ⟨(a % b).toNat, by have := Int.emod_nonneg a (show b ≠ 0 by omega); omega, by have := Int.emod_nonneg a (show b ≠ 0 by omega); have := Int.emod_lt_of_pos a h; omega⟩
theorem take_ok {m : Nat} {l : List Str} (n : Nat) (h : OkL m l) : OkL m (l.take n) := ⟨by have := h.1; rw [List.length_take]; omega, fun s hs => h.2 s (List.mem_of_mem_take hs)⟩
theorem app_ok {m a b : Nat} {l r : List Str} (h : OkL a l) (h2 : OkL b r) (hm : a + b ≤ m) : OkL m (l ++ r) := ⟨by have := h.1; have := h2.1; rw [List.length_append]; omega, fun s hs => (List.mem_append.mp hs).elim (h.2 s) (h2.2 s)⟩
theorem cut_line0 (l : List Str) (n : Nat) : cutV (l.map V.str) (some (n : Int)) none = (l.drop n).map V.str := by rw [cutV_drop, List.map_drop]
end
abbrev s__law_unread : Stmt := topS 45
theorem sc__law_unread : FnScope ["_law_many", "_law_d", "_law_row", "_law_at", "_law_verse_here"] ["_law_many", "_law_d"] (defScope s__law_unread) := ⟨rfl, rfl, rfl, by decide +kernel, rfl, by decide +kernel, by decide +kernel⟩
section
variable {P : Program} {w : World} {K : PySem.W.Frag} {mg : Str → Option Value} {base : Heap}
theorem ep_catE {σ : L2.St} {H : Hp} {ta tb : TE} {xs ys : List V} (h1 : EvP ta σ H (pLst xs)) (h2 : EvP tb σ H (pLst ys)) (hl : xs.length + ys.length ≤ 100000) : EvP (tOp (rAddU K) ta tb) σ H (pLst (xs ++ ys)) :=
  ep_catN h1 h2 fun N1 N2 H1 v1 v2 e i1 i2 ⟨a, ea, ha⟩ ⟨b, eb, hb⟩ => ⟨a, b, xs, ys, ea, eb, i1 _ _ ha, i2 _ _ hb, hl, fun p => ⟨p, rfl, sing_at⟩⟩
theorem atI_last {xs : List V} (h : 1 ≤ xs.length) : atI xs (-1) = xs[xs.length - 1]? := by
  have e : ixN xs.length (-1) = some (xs.length - 1) := by
    unfold ixN
    rw [if_neg (by decide), if_pos (by omega)]
    congr 1
    omega
  unfold atI
  rw [e]
  rfl
/-- numbers of verses below n -/
def Un (n : Nat) (us : List Nat) : Prop := (∀ i ∈ us, i < n) ∧ us.length ≤ n + 2
abbrev pUn (n : Nat) : Hp → V → Prop := fun N v => ∃ p us, v = .ref p ∧ N p = some (.lst (nsV us)) ∧ Un n us
def R__law_unread (K : PySem.W.Frag) : Rl := ⟨fun vs H r => ∃ (n : Nat) (p : Addr) (ns : List Int), vs = [.int (n : Nat), .ref p] ∧ Nm K H p ns ∧ 1 + n ≤ ns.length ∧ n ≤ 1000 ∧ r = .ok (pUn n), fun e ⟨n, p, ns, h1, h2, h3⟩ => ⟨n, p, ns, h1, h2.mono e, h3⟩⟩
theorem cut_ns (l : List Nat) (n : Nat) : cutV (nsV l) none (some (n : Int)) = nsV (l.take n) := by unfold nsV; rw [cutV_take, List.map_take]
theorem cut_ns0 (l : List Nat) (n : Nat) : cutV (nsV l) (some (n : Int)) none = nsV (l.drop n) := by unfold nsV; rw [cutV_drop, List.map_drop]
theorem ok__law_unread (B : Bt mg) (D : Df K mg "_law_unread" s__law_unread ["_law_many", "_law_d"]) : Ok P w K mg base 1 "_law_unread" ["_law_many", "_law_d"] ((R__law_unread K).sp mg) := by
  refine D.ok sc__law_unread (fun vs H Q E h => ?_) (fun f cdv A outer s H vs Q E hr h => ?_)
  · obtain ⟨r, ⟨n, p, ns, rfl, _⟩, _⟩ := h
    rfl
  · obtain ⟨r, ⟨n, p, ns, rfl, ⟨hN, hall⟩, hl, hn, rfl⟩, k⟩ := h
    refine ⟨_, (pss_cons (ps_setLc (i := 2) (own := [("_law_verse_here", 4)]) rfl sc__law_unread.nd rfl rfl (sw_true rfl rfl rfl (by decide +kernel)) (pi_range1 (by rfl) B.range (pa_cons (pv 0) pa_nil)) (blkOk_by (N := ["_law_many", "_law_d", "_law_row", "_law_at", "_law_verse_here"]) (sc := defScope s__law_unread) (by decide +kernel)) (fun _ _ _ _ _ => (pg_name (i := 4) sc__law_unread.nd rfl (.inl rfl))) (fun _ _ _ _ _ => pts_one (PW.pt (pw_or (pt_cmpR (op_eqK K (hu65 hr)) (pe_op op_mod (pe_ix (ix_seqK K) (pv 1) pe_int (fun _ _ => rfl)) pe_int) pe_int (nomark _)) (pw_or1 (pt_cmpR op_gt (pe_op op_mod (pe_ix (ix_seqK K) (pv 1) (pe_op (op_addK K) pe_int (pv 4)) (fun _ _ => rfl)) pe_int) pe_int (nomark _)))))) (fun _ _ _ _ _ => (pv 4)))
      (pss_cons (ps_if (pt_cmpR (op_eqK K (hu65 hr)) (pe_op op_mod (pe_op op_fdiv (pe_ix (ix_seqK K) (pv 1) pe_int (fun _ _ => rfl)) pe_int) pe_int) pe_int (nomark _))
        (pss_one (ps_ret (pe_revLK K (pv 2))))
        pss_nil)
      (pss_cons (ps_if (pt_cmpR (op_eqK K (hu65 hr)) (pe_op op_mod (pe_op op_fdiv (pe_ix (ix_seqK K) (pv 1) pe_int (fun _ _ => rfl)) pe_int) pe_int) pe_int (nomark _))
        (pss_cons (ps_set (i := 3) sc__law_unread.nd rfl (.inl rfl) (pe_op op_mod (pe_op op_fdiv (pe_ix (ix_seqK K) (pv 1) pe_int (fun _ _ => rfl)) pe_int) (pe_op (op_addK K) (pe_callB (call_lenK K) (by rfl) B.len boot_b_len (pa_cons (pv 2) pa_nil)) pe_int)))
        (pss_one (ps_ret (pe_op (op_addK K) (pe_op (op_addK K) (pe_slice (sl_K K) (pv 2) (po_some (pv 3)) po_none) (pe_slice (sl_K K) (pv 2) po_none (po_some (pv 3)))) (pe_slice (sl_K K) (pv 2) po_none (po_some pe_int))))))
        pss_nil)
      (pss_one (ps_ret (pv 2)))))), ?_⟩
    have a0 := atI_map (ns := ns) (j := 0) (by omega)
    have n0 := hall _ (List.getElem_mem (show 0 < ns.length by omega))
    refine q_l (xs := nsV ((List.range n).filter fun i => decide (ns[0] % 4 = 0) || decide (ns.getD (1 + i) 0 % 3 > 0))) (Own.one H) (el_is (el_lcX (fun x => [some (.int (n : Nat)), some (.ref p), none, none, some x]) (onN fun i => decide (ns[0] % 4 = 0) || decide (ns.getD (1 + i) 0 % 3 > 0)) (fun x => x) (ei_rngX (G := H) (m := (n : Nat)) (by wtm_at "ev") (by omega)) (Ex.refl _) (by rw [rngV_len]; omega) (fun _ _ _ _ q => q) (fun _ => rfl) ?_ (fun x H2 e2 hx _ => ev_var rfl)) ?_) fun l H1 o => ?_
    · intro x H2 e2 hx
      obtain ⟨i, hi, rfl⟩ := List.mem_map.mp hx
      have hi : i < n := List.mem_range.mp hi
      have hi1 : 1 + i < ns.length := by omega
      have ai : atI (ns.map V.int) (1 + ((i : Nat) : Int)) = some (V.int ns[1 + i]) := atI_map (j := 1 + i) hi1
      have eg : ns.getD (1 + i) 0 = ns[1 + i] := by rw [List.getD_eq_getElem?_getD, List.getElem?_eq_getElem hi1]; rfl
      have hN2 := ex_l e2 hN
      show EvT _ _ _ (decide (ns[0] % 4 = 0) || decide (ns.getD (1 + i) 0 % 3 > 0))
      rw [eg]
      exact et_or (et_test (ev_op (ev_op (ev_op (ev_var rfl) ev_c (rv_ixLs hN2 a0)) ev_c (rv_I (by decide))) ev_c rv_eqI)) fun _ => et_test (ev_op (ev_op (ev_op (ev_var rfl) (ev_op ev_c (ev_var rfl) rv_addI) (rv_ixLs hN2 ai)) ev_c (rv_I (by decide))) ev_c rv_I0)
    · rw [List.map_id']
      exact filter_nsV _ _
    · have hrow : ∀ i ∈ (List.range n).filter fun i => decide (ns[0] % 4 = 0) || decide (ns.getD (1 + i) 0 % 3 > 0), i < n := fun i hi => List.mem_range.mp (List.mem_filter.mp hi).1
      have hrl : ((List.range n).filter fun i => decide (ns[0] % 4 = 0) || decide (ns.getD (1 + i) 0 % 3 > 0)).length ≤ n := by
        have := List.length_filter_le (fun i => decide (ns[0] % 4 = 0) || decide (ns.getD (1 + i) 0 % 3 > 0)) (List.range n)
        rw [List.length_range] at this
        exact this
      generalize ((List.range n).filter fun i => decide (ns[0] % 4 = 0) || decide (ns.getD (1 + i) 0 % 3 > 0)) = row at hrow hrl o
      have hN1 := ex_l o.e1 hN
      have c4 : CDiv ns[0] 4 := ⟨by decide, by decide⟩
      have c12 : CDiv ns[0] 12 := ⟨by decide, by decide⟩
      refine q_wh o (et_test (ev_op (ev_op (ev_op (ev_op (ev_var rfl) ev_c (rv_ixLs hN1 a0)) ev_c (rv_I c4)) ev_c (rv_I (by decide))) ev_c rv_eqI)) (fun _ H2 o => ?_) (fun _ H2 o => ?_)
      · refine s_rn o (ep_l (el_rev (K := K) (ev_var rfl) (sq_of (o.e0 _ _ sing_at)))) fun v H1 N o hp => o.ret k (i := 0) (j := 2) rfl rfl ?_
        obtain ⟨q, rfl, hq⟩ := hp
        exact ⟨q, row.reverse, rfl, by rw [hq]; unfold nsV; rw [List.map_reverse], fun i hi => hrow i (List.mem_reverse.mp hi), by rw [List.length_reverse]; omega⟩
      · have hN1 := ex_l o.e1 hN
        refine q_wh o (et_test (ev_op (ev_op (ev_op (ev_op (ev_var rfl) ev_c (rv_ixLs hN1 a0)) ev_c (rv_I c4)) ev_c (rv_I (by decide))) ev_c rv_eqI)) (fun _ H2 o => ?_) (fun _ H2 o => ?_)
        · have hN1 := ex_l o.e1 hN
          obtain ⟨t, ht, ht2⟩ := mod_nat (a := ns[0] / 12) (b := (((nsV row).length : Nat) : Int) + 1) (by omega)
          refine q_v (v := .int (t : Nat)) o (ev_is (ev_op (ev_op (ev_op (ev_var rfl) ev_c (rv_ixLs hN1 a0)) ev_c (rv_I c12)) (ev_op (ev_cb (by wtm_at "ev") (rc_lenL (sq_of (o.e0 _ _ sing_at)))) ev_c rv_addI) (rv_I (show (0 : Int) < _ by omega))) (congrArg V.int ht)) fun H3 o => ?_
          have hr := sq_of (K := K) (o.e0 _ _ sing_at)
          refine s_rn o (ep_catE (K := K) (ep_catE (K := K) (ep_l (el_is (el_sl' (ev_var rfl) (eo_some (ev_var rfl)) eo_none hr) (cut_ns0 row t))) (ep_l (el_is (el_sl' (ev_var rfl) eo_none (eo_some (ev_var rfl)) hr) (cut_ns row t))) (by rw [List.length_map, List.length_map, List.length_drop, List.length_take]; omega)) (ep_l (el_is (el_sl' (ev_var rfl) eo_none (eo_some ev_c) hr) (cut_ns row 2))) (by rw [List.length_append, List.length_map, List.length_map, List.length_map, List.length_drop, List.length_take, List.length_take]; omega)) fun v H1 N o hp => o.ret k (i := 0) (j := 2) rfl rfl ?_
          obtain ⟨q, rfl, hq⟩ := hp
          refine ⟨q, row.drop t ++ row.take t ++ row.take 2, rfl, by rw [hq]; unfold nsV; rw [List.map_append, List.map_append], fun i hi => ?_, ?_⟩
          · rcases List.mem_append.mp hi with z | z
            · rcases List.mem_append.mp z with z | z
              · exact hrow i (List.mem_of_mem_drop z)
              · exact hrow i (List.mem_of_mem_take z)
            · exact hrow i (List.mem_of_mem_take z)
          · rw [List.length_append, List.length_append, List.length_drop, List.length_take, List.length_take]
            have := ht2
            rw [List.length_map] at this
            omega
        · exact s_rv o (ev_var rfl) fun H1 o => o.ret k (i := 0) (j := 1) rfl rfl ⟨l, row, rfl, sing_at, hrow, by omega⟩
end
section
variable {P : Program} {w : World} {K : PySem.W.Frag} {mg : Str → Option Value} {base : Heap}
theorem all2_four {H : Hp} {P P2 P3 P4 : Hp → V → Prop} {vs : List V} (h : All2 H [P, P2, P3, P4] vs) : ∃ x y z t, vs = [x, y, z, t] ∧ (∃ N, Ex N H ∧ P N x) ∧ (∃ N, Ex N H ∧ P2 N y) ∧ (∃ N, Ex N H ∧ P3 N z) ∧ ∃ N, Ex N H ∧ P4 N t := by
  cases h with
  | cons h r => cases r with
    | cons h2 r => cases r with
      | cons h3 r => cases r with
        | cons h4 r => cases r; exact ⟨_, _, _, _, rfl, h, h2, h3, h4⟩
abbrev intsN (us : List Nat) : List Int := us.map fun i => ((i : Nat) : Int)
theorem Un.ok {n : Nat} {us : List Nat} (h : Un n us) : okN n (intsN us) = true := by
  unfold okN
  refine List.all_eq_true.mpr fun x hx => ?_
  obtain ⟨i, hi, rfl⟩ := List.mem_map.mp hx
  have := h.1 i hi
  rw [decide_eq_true (by omega), decide_eq_true (by omega)]
  rfl
theorem Un.nl {n : Nat} {us : List Nat} {H : Hp} {p : Addr} (h : Un n us) (hn : n ≤ 900) (hp : H p = some (.lst (nsV us))) : Nl K H p (intsN us) := ⟨sq_of (by rw [hp]; unfold nsV intsN; rw [List.map_map]; rfl), by have := h.2; unfold intsN; rw [List.length_map]; omega⟩
theorem OkL.ln {m : Nat} {l : List Str} {H : Hp} {p : Addr} (h : OkL m l) (hm : m ≤ 1000) (hp : H p = some (.lst (l.map V.str))) : Ln K H p l := ⟨sq_of hp, Nat.le_trans h.1 hm, h.2⟩
theorem okN_bad {m : Nat} {ns : List Int} {z : Int} (h : z ∈ ns) (hz : z < 0 ∨ (m : Int) ≤ z) : okN m ns = false := by
  unfold okN
  refine List.all_eq_false.mpr ⟨z, h, ?_⟩
  rcases hz with h | h
  · rw [decide_eq_false (show ¬ 0 ≤ z by omega), Bool.false_and]; decide
  · rw [decide_eq_false (show ¬ z < (m : Int) by omega), Bool.and_false]; decide
theorem okN_app {m : Nat} {i : Nat} {ns : List Int} (h : i < m) (hn : okN m ns = true) : okN m ((i : Int) :: ns) = true := by
  rw [show okN m ((i : Int) :: ns) = ((decide (0 ≤ (i : Int)) && decide ((i : Int) < (m : Int))) && okN m ns) from rfl, hn, Bool.and_true, decide_eq_true (show (0 : Int) ≤ i by omega), decide_eq_true (show (i : Int) < m by omega)]
  rfl
theorem dp_ns {H : Hp} {p : Addr} {l : List Nat} (h : SqL K H p (nsV l)) : Dp K H (.ref p) (eInts (l.map fun i => ((i : Nat) : Int))) := dp_ints.mpr ⟨p, rfl, by rw [List.map_map]; exact h⟩
theorem eqv_nil (ds : List PyData) : PyData.eqv (.list ds) (.list []) = decide (ds = []) := by
  cases ds <;> simp [PyData.eqv, PyData.eqvAll]
/-- xs == [], xs != [] -/
theorem et_eqNil {σ : L2.St} {H : Hp} {te : TE} {v : V} {ds : List PyData} {n : Nat} (h : Ev te σ H v) (hd : Dp K H v (.list ds)) (ly : Ly n (.list ds)) (hn : n ≤ 64) : EvT (tTest (tOp (rEqU K) te (tLst tNil))) σ H (decide (ds = [])) := et_test (ev_opN (P1 := is v) (ep_v h) (ep_lst ea_nil) fun v1 v2 N1 N2 H2 e2 i1 i2 hv1 ⟨c, hc, g⟩ => by
  have hv1 : v1 = v := hv1
  subst hv1 hc
  have z := rv_eqD (K := K) (H := H2) (dp_mono e2 hd) (Dp.lst (sq_of (i2 _ _ g)) .nil) (ly.shp hn) (by decide)
  rw [eqv_nil] at z
  exact z)
theorem et_neNil {σ : L2.St} {H : Hp} {te : TE} {v : V} {ds : List PyData} {n : Nat} (h : Ev te σ H v) (hd : Dp K H v (.list ds)) (ly : Ly n (.list ds)) (hn : n ≤ 64) : EvT (tTest (tOp (rNeU K) te (tLst tNil))) σ H (!decide (ds = [])) := et_test (ev_opN (P1 := is v) (ep_v h) (ep_lst ea_nil) fun v1 v2 N1 N2 H2 e2 i1 i2 hv1 ⟨c, hc, g⟩ => by
  have hv1 : v1 = v := hv1
  subst hv1 hc
  have z := rv_neD (K := K) (H := H2) (dp_mono e2 hd) (Dp.lst (sq_of (i2 _ _ g)) .nil) (ly.shp hn) (by decide)
  rw [eqv_nil] at z
  exact z)
theorem ly_ns {l : List Nat} (h : l.length ≤ 40000) : Ly 1 (eInts (l.map fun i => ((i : Nat) : Int))) := ly_ints (by rw [List.length_map]; exact h)
theorem ns_nil {l : List Nat} : decide ((l.map fun i => ((i : Nat) : Int)).map PyData.int = []) = decide (l = []) := by
  cases l <;> simp
theorem okN_ns {n : Nat} {fs : List Nat} (h : ∀ i ∈ fs, i < n) : okN n (fs.map fun i => ((i : Nat) : Int)) = true := by
  unfold okN
  refine List.all_eq_true.mpr fun x hx => ?_
  obtain ⟨i, hi, rfl⟩ := List.mem_map.mp hx
  have := h i hi
  rw [decide_eq_true (by omega), decide_eq_true (by omega)]
  rfl
theorem nl_ns {fs : List Nat} {G : Hp} {p : Addr} (hl : fs.length ≤ 1000) (hp : SqL K G p (nsV fs)) : Nl K G p (fs.map fun i => ((i : Nat) : Int)) := ⟨by rw [List.map_map]; exact hp, by rw [List.length_map]; exact hl⟩
end
section
variable {K : PySem.W.Frag} {σ : L2.St} {H : Hp} {ta tb te : TE} {D : Ends} {tz : TS} {Ns : List Hp}
theorem own_off {t : Addr} {u : HO} : ∀ {Ns : List Hp} {H : Hp}, Own Ns H → (∀ M ∈ Ns, M t = none) → Own Ns (upd H t u)
  | [], _, _, _ => trivial
  | M :: r, H, o, h => ⟨fun a v hv => by
      have ne : a ≠ t := fun z => by rw [z, h M List.mem_cons_self] at hv; cases hv
      rw [upd_ne ne]
      exact o.1 a v hv, o.2.1, own_off o.2.2 fun M' hM' => h M' (List.mem_cons_of_mem _ hM')⟩
/-- something within a part is changed -/
theorem Own.setP {t : Addr} {u : HO} {M : Hp} : ∀ {Ns : List Hp} {H : Hp} {j : Nat}, Own Ns H → Ns[j]? = some M → M t ≠ none → Own (Ns.set j (upd M t u)) (upd H t u)
  | N :: r, H, 0, o, h, ht => by
    have e : N = M := Option.some.inj h
    subst e
    refine ⟨fun a v hv => ?_, fun M' hM' a ha => ?_, own_off o.2.2 fun M' hM' => o.2.1 M' hM' t ht⟩
    · by_cases q : a = t
      · subst q
        rw [upd_same] at hv ⊢
        exact hv
      · rw [upd_ne q] at hv ⊢
        exact o.1 a v hv
    · by_cases q : a = t
      · subst q
        exact o.2.1 M' hM' a ht
      · rw [upd_ne q] at ha
        exact o.2.1 M' hM' a ha
  | N :: r, H, j + 1, o, h, ht => by
    have hm : M ∈ r := List.mem_of_getElem? h
    have hN : N t = none := (o.2.1 M hm).symm t ht
    refine ⟨fun a v hv => ?_, fun M' hM' a ha => ?_, Own.setP o.2.2 h ht⟩
    · have ne : a ≠ t := fun z => by rw [z, hN] at hv; cases hv
      rw [upd_ne ne]
      exact o.1 a v hv
    · rcases List.mem_or_eq_of_mem_set hM' with z | z
      · exact o.2.1 M' z a ha
      · subst z
        have ne : a ≠ t := fun q => ha (by rw [q]; exact hN)
        rw [upd_ne ne]
        exact o.2.1 M hm a ha
theorem ep_lst2 {P1 P2 : Hp → V → Prop} (h1 : EvP ta σ H P1) (h2 : EvP tb σ H P2) : EvP (tLst (tCons ta (tCons tb tNil))) σ H (fun N v => ∃ p x y N1 N2, v = .ref p ∧ N p = some (.lst [x, y]) ∧ Ex N1 N ∧ Ex N2 N ∧ P1 N1 x ∧ P2 N2 y ∧ N1 p = none ∧ N2 p = none) := fun H1 e Q q =>
  h1 H1 e _ fun x H2 N1 e2 i1 f1 p1 => h2 H2 (e.trans e2) _ fun y H3 N2 e3 i2 f2 p2 => ⟨by show 2 ≤ sizeLine; decide, fun p hp => by
    have n1 : N1 p = none := ex_none (i1.trans e3) hp
    have n2 : N2 p = none := ex_none i2 hp
    have d12 : ∀ a, N2 a ≠ none → N1 a = none := fun a ha => ex_none i1 (f2 a ha)
    have dp : ∀ a, sing p (.lst [x, y]) a ≠ none → uni N1 N2 a = none := fun a ha => by
      by_cases z : a = p
      · subst z
        unfold uni
        rw [n2, n1]
      · exact absurd (sing_ne z) ha
    refine q (.ref p) _ (uni (uni N1 N2) (sing p (.lst [x, y]))) ((e2.trans e3).trans (Ex.new hp)) (uni_ex (uni_ex ((i1.trans e3).trans (Ex.new hp)) (i2.trans (Ex.new hp))) (sing_ex upd_same)) (uni_fr (uni_fr f1 (f2.back e2)) (sing_fr (fresh_back (e2.trans e3) hp))) ⟨p, x, y, N1, N2, rfl, uni_r _ _ sing_at, (uni_l d12).trans (uni_l dp), uni_r.trans (uni_l dp), p1, p2, n1, n2⟩⟩
/-- xs[j] = (something new) -/
theorem s_setON {P : Hp → V → Prop} {l : Addr} {xs : List V} {i j : Nat} (o : Own Ns H) (hi : Ns[i]? = some (sing l (.lst xs))) (h : EvP te σ H P) (ho : Ev ta σ H (.ref l)) (hb : Ev tb σ H (.int (j : Int))) (hj : j < xs.length) (k : ∀ v H1 N, Own (N :: Ns.set i (sing l (.lst (xs.set j v)))) H1 → P N v → D.nx σ H1) : tAsg te (gSub ta tb rSetL) D σ H :=
  h H (Ex.refl H) _ fun v H1 N e i1 f1 p1 => s_setO (te := fun _ H Q => Q v H) (i := i + 1) (o.add e i1 f1) hi (fun H2 _ Q q => q H2 (Ex.refl H2)) (fun H2 e2 => ho H2 (e.trans e2)) (fun H2 e2 => hb H2 (e.trans e2)) hj fun H2 o2 => k v H2 N o2 p1
theorem et_neNilP {l : List Nat} (h : EvP te σ H (pNs l)) (hl : l.length ≤ 40000) : EvT (tTest (tOp (rNeU K) te (tLst tNil))) σ H (!decide (l = [])) := et_test (ev_opN (P1 := pNs l) h (ep_lst ea_nil) fun v1 v2 N1 N2 H2 e2 i1 i2 ⟨c1, h1, g1⟩ ⟨c, hc, g⟩ => by
  subst h1 hc
  have z := rv_neD (K := K) (H := H2) (dp_ns (sq_of (i1 _ _ g1))) (Dp.lst (sq_of (i2 _ _ g)) .nil) ((ly_ns hl).shp (by decide)) (by decide)
  rw [eqv_nil, ns_nil] at z
  exact z)
section
variable {n j : Nat} {tu : TS}
/-- for x in (a new list of which not all is told) -/
theorem s_forP {X : List V → Hp → Prop} (o : Own Ns H) (h : EvP te σ H (fun N v => ∃ p xs, v = .ref p ∧ N p = some (.lst xs) ∧ X xs N)) (Pv : List V → Hp → Nat → L2.St → Hp → Prop) (h0 : ∀ xs N H1, X xs N → Own (N :: Ns) H1 → Pv xs N 0 σ H1) (hG : ∀ xs N i σ' H', i ≤ xs.length → Pv xs N i σ' H' → Ex N H')
    (hs : ∀ xs N i x σ' H' H'', X xs N → xs[i]? = some x → Pv xs N i σ' H' → Ex H' H'' → tu { D with nx := Pv xs N (i + 1), ct := Pv xs N (i + 1), bk := D.nx } (σ'.set j (some x)) H'') (hd : ∀ xs N σ' H', X xs N → Pv xs N xs.length σ' H' → D.nx σ' H') : tFor (iList K te) (gName j) tu D σ H :=
  ej_listP h H (Ex.refl H) _ fun J H1 N xs e e2 f hX d => for_drw d (Pv xs N) (h0 xs N H1 hX (o.add e e2 f)) (hG xs N) (fun i x σ' H' H'' hi p e hy => hs xs N i x σ' H' H'' hX hy p e) (fun σ' H' p => hd xs N σ' H' hX p)
theorem q_forP {X : List V → Hp → Prop} (o : Own Ns H) (h : EvP te σ H (fun N v => ∃ p xs, v = .ref p ∧ N p = some (.lst xs) ∧ X xs N)) (Pv : List V → Hp → Nat → L2.St → Hp → Prop) (h0 : ∀ xs N H1, X xs N → Own (N :: Ns) H1 → Pv xs N 0 σ H1) (hG : ∀ xs N i σ' H', i ≤ xs.length → Pv xs N i σ' H' → Ex N H')
    (hs : ∀ xs N i x σ' H' H'', X xs N → xs[i]? = some x → Pv xs N i σ' H' → Ex H' H'' → tu { D with nx := Pv xs N (i + 1), ct := Pv xs N (i + 1), bk := tz D } (σ'.set j (some x)) H'') (hd : ∀ xs N σ' H', X xs N → Pv xs N xs.length σ' H' → tz D σ' H') : tSeq (tFor (iList K te) (gName j) tu) tz D σ H :=
  s_forP (D := { D with nx := tz D }) o h Pv h0 hG hs hd
end
end
section
variable {P : Program} {w : World} {K : PySem.W.Frag} {mg : Str → Option Value} {base : Heap}
/-! ### rows of numbers -/
abbrev eRws (rs : List (List Int)) : PyData := .list (rs.map eInts)
def RwS (K : PySem.W.Frag) (H : Hp) (xs : List V) (rs : List (List Int)) : Prop := Paired (fun x l => ∃ q, x = V.ref q ∧ SqL K H q (l.map V.int)) xs rs
theorem RwS.mono {H H' : Hp} {xs : List V} {rs : List (List Int)} (e : Ex H H') (h : RwS K H xs rs) : RwS K H' xs rs := paired_imp (fun _ _ ⟨q, a, b⟩ => ⟨q, a, ex_l e b⟩) h
theorem dp_rws {H : Hp} {x : V} {rs : List (List Int)} : Dp K H x (eRws rs) ↔ ∃ q xs, x = .ref q ∧ SqL K H q xs ∧ RwS K H xs rs := by
  constructor
  · intro h
    cases h with
    | lst h r =>
      refine ⟨_, _, rfl, h, ?_⟩
      clear h
      rename_i q xs
      induction rs generalizing xs with
      | nil => cases r; exact .nil
      | cons l rs ih =>
        cases r with
        | cons a r =>
          obtain ⟨q, e, s⟩ := dp_ints.mp a
          exact .cons ⟨q, e, s⟩ (ih r)
  · rintro ⟨q, xs, rfl, h, r⟩
    exact .lst h (dpa_map (paired_imp (fun x l ⟨q, e, s⟩ => dp_ints.mpr ⟨q, e, s⟩) r))
/-- rows of numbers at r -/
def Rw (K : PySem.W.Frag) (H : Hp) (r : Addr) (rs : List (List Int)) : Prop := Dp K H (.ref r) (eRws rs) ∧ rs.length ≤ 1000 ∧ ∀ l ∈ rs, l.length ≤ 1000
theorem Rw.mono {H H' : Hp} {r : Addr} {rs : List (List Int)} (e : Ex H H') (h : Rw K H r rs) : Rw K H' r rs := ⟨dp_mono e h.1, h.2⟩
theorem Rw.rows {H : Hp} {r : Addr} {rs : List (List Int)} (h : Rw K H r rs) : ∃ xs, SqL K H r xs ∧ RwS K H xs rs := by
  obtain ⟨q, xs, e, h1, h2⟩ := dp_rws.mp h.1
  cases e
  exact ⟨xs, h1, h2⟩
theorem Rw.ly {H : Hp} {r : Addr} {rs : List (List Int)} (h : Rw K H r rs) : Ly 2 (eRws rs) := ly_list (by rw [List.length_map]; have := h.2.1; omega) fun d hd => by
  obtain ⟨l, hl, rfl⟩ := List.mem_map.mp hd
  exact ly_ints (by have := h.2.2 l hl; omega)
theorem RwS.get {H : Hp} {xs : List V} {rs : List (List Int)} {i : Nat} {l : List Int} (h : RwS K H xs rs) (hi : rs[i]? = some l) : ∃ q, xs[i]? = some (.ref q) ∧ SqL K H q (l.map V.int) := by
  have hlen := Paired.length h
  have hlt := (List.getElem?_eq_some_iff.mp hi).1
  have hx : xs[i]? = some xs[i] := List.getElem?_eq_getElem (by omega)
  obtain ⟨y, hy, q, e, s⟩ := LiI.paired_get h hx
  rw [hi] at hy
  cases hy
  exact ⟨q, by rw [hx, e], s⟩
/-- rows that lie in N itself -/
def CIi (N : Hp) (xs : List V) (rs : List (List Int)) : Prop := Paired (fun x l => ∃ t, x = V.ref t ∧ N t = some (.lst (l.map V.int))) xs rs
theorem CIi.mono {N N' : Hp} {xs : List V} {rs : List (List Int)} (e : Ex N N') (h : CIi N xs rs) : CIi N' xs rs := paired_imp (fun _ _ ⟨t, a, b⟩ => ⟨t, a, e _ _ b⟩) h
abbrev pRw (rs : List (List Int)) : Hp → V → Prop := fun N v => ∃ p xs, v = .ref p ∧ N p = some (.lst xs) ∧ CIi N xs rs
theorem CIi.rw {N : Hp} {p : Addr} {xs : List V} {rs : List (List Int)} (h : N p = some (.lst xs)) (c : CIi N xs rs) (h1 : rs.length ≤ 1000) (h2 : ∀ l ∈ rs, l.length ≤ 1000) : Rw K N p rs := ⟨dp_rws.mpr ⟨p, xs, rfl, sq_of h, paired_imp (fun _ _ ⟨t, a, b⟩ => ⟨t, a, sq_of b⟩) c⟩, h1, h2⟩
/-- [list(row) for row in rows] -/
theorem ep_copyI {σ : L2.St} {H : Hp} {tl : TE} {p : Addr} {rs : List (List Int)} {j : Nat} {vs : List Nat} (S : V → L2.St) (h : Ev tl σ H (.ref p)) (hB : Rw K H p rs) (hg : ∀ x, (wipe σ vs).set j (some x) = S x) (hw : ∀ x, wipe (S x) vs = wipe σ vs) (hj : ∀ x, (S x)[j]? = some (some x)) :
    EvP (tLc (iList K tl) (gName j) tYes (tCB (rListS K) (tCons (tVar j) tNil)) vs) σ H (pRw rs) := by
  obtain ⟨xs, hS, hR⟩ := hB.rows
  have hl := Paired.length hR
  have hl2 := hB.2.1
  refine ep_imp (ep_lc (n := xs.length) (fun i => S (xs.getD i .non)) (fun _ => true) (fun i N y => ∃ p, y = .ref p ∧ N p = some (.lst ((rs.getD i []).map V.int))) (fun i N N' v e ⟨p, h3, h4⟩ => ⟨p, h3, e _ _ h4⟩) (ei_list h hS (Ex.refl _)) (Ex.refl _) (by omega) (fun i x H' _ hx Q q => by rw [getD_of hx, ← hg] at q; exact q) (fun _ _ => hw _) (fun _ _ _ _ => et_yes) (fun i H1 e hlt _ => ?_)) ?_
  · have hi : rs[i]? = some (rs.getD i []) := by rw [List.getD_eq_getElem?_getD, List.getElem?_eq_getElem (by omega)]; rfl
    obtain ⟨q, hq, hL⟩ := hR.get hi
    rw [getD_of hq]
    exact ep_list (ev_var (hj _)) (.inl (ex_l e hL))
  · rintro N v ⟨p', ys, rfl, hp, hpr⟩
    rw [picks_all] at hpr
    have hly := Paired.length hpr
    rw [List.length_range] at hly
    refine ⟨p', ys, rfl, hp, paired_of (by omega) fun i y l h1 h2 => ?_⟩
    obtain ⟨y', h3, p, h4, h5⟩ := paired_get hpr (i := i) (x := i) (List.getElem?_range (by have := (List.getElem?_eq_some_iff.mp h2).1; omega))
    rw [h1] at h3
    cases h3
    rw [List.getD_eq_getElem?_getD, h2] at h5
    exact ⟨p, h4, h5⟩
def R_copied (K : PySem.W.Frag) : Rl := ⟨fun vs H r => ∃ (v : Addr) (rs : List (List Int)), vs = [.ref v] ∧ Rw K H v rs ∧ r = .ok (pRw rs), fun e ⟨v, rs, h1, h2, h3⟩ => ⟨v, rs, h1, h2.mono e, h3⟩⟩
/-! ### what a field may be -/
def okCd (n : Nat) (c : Int) : Bool := decide (0 ≤ c) && decide (c < (n : Int))
def okRw (n : Nat) (l : List Int) : Bool := decide ((l.length : Int) ≤ 12) && l.all (okCd n)
def fldM (n : Nat) (rs : List (List Int)) : Bool := (decide ((1 : Int) ≤ (rs.length : Int)) && decide ((rs.length : Int) ≤ 3)) && rs.all (okRw n)
def fldR (n : Nat) (rs : List (List Int)) : Res := if fldM n rs = true then .ok (is .non) else .err "BadDeal" []
def R_need_field (K : PySem.W.Frag) (C : Addr) : Rl := ⟨fun vs H r => ∃ (b v : Addr) (ls : List (List Str)) (rs : List (List Int)), vs = [.ref b, .ref v] ∧ BookAt K C H b ls ∧ Rw K H v rs ∧ r = fldR ls.length rs, fun e ⟨b, v, ls, rs, h1, h2, h3, h4⟩ => ⟨b, v, ls, rs, h1, h2.mono e, h3.mono e, h4⟩⟩
theorem not_t {b : Bool} (h : (!b) = true) : b = false := by cases b with | true => cases h | false => rfl
theorem not_f {b : Bool} (h : (!b) = false) : b = true := by cases b with | false => cases h | true => rfl
theorem all_take {α : Type} {f : α → Bool} {l : List α} {i : Nat} {x : α} (h : (l.take i).all f = true) (hx : l[i]? = some x) (hf : f x = true) : (l.take (i + 1)).all f = true := by
  obtain ⟨hi, rfl⟩ := List.getElem?_eq_some_iff.mp hx
  rw [List.take_succ_eq_append_getElem hi, List.all_append, h]
  simpa using hf
theorem all_bad {α : Type} {f : α → Bool} {l : List α} {i : Nat} {x : α} (hx : l[i]? = some x) (hf : f x = false) : l.all f = false := List.all_eq_false.mpr ⟨x, List.mem_of_getElem? hx, by rw [hf]; decide⟩
end
section
variable {P : Program} {w : World} {K : PySem.W.Frag} {mg : Str → Option Value} {base : Heap}
/-! ### where the cards lie -/
abbrev Pl := Int × Nat × Nat × Nat
def cardsP (f r : Nat) (l : List Int) : List Pl := l.zipIdx.map fun p => (p.1, f, r, p.2)
def rowsP (f : Nat) (rs : List (List Int)) : List Pl := rs.zipIdx.flatMap fun p => cardsP f p.2 p.1
def plM (Fs : List (List (List Int))) : List Pl := Fs.zipIdx.flatMap fun p => rowsP p.2 p.1
theorem zip_snoc {α : Type} (l : List α) (x : α) : (l ++ [x]).zipIdx = l.zipIdx ++ [(x, l.length)] := by
  rw [List.zipIdx_append, Nat.zero_add]
  rfl
theorem take_snoc {α : Type} {l : List α} {i : Nat} {x : α} (h : l[i]? = some x) : l.take (i + 1) = l.take i ++ [x] ∧ (l.take i).length = i := by
  obtain ⟨hi, rfl⟩ := List.getElem?_eq_some_iff.mp h
  exact ⟨List.take_succ_eq_append_getElem hi, by rw [List.length_take]; omega⟩
theorem cardsP_snoc {f r i : Nat} {l : List Int} {c : Int} (h : l[i]? = some c) : cardsP f r (l.take (i + 1)) = cardsP f r (l.take i) ++ [(c, f, r, i)] := by
  obtain ⟨e, n⟩ := take_snoc h
  unfold cardsP
  rw [e, zip_snoc, List.map_append, n]
  rfl
theorem rowsP_snoc {f i : Nat} {rs : List (List Int)} {l : List Int} (h : rs[i]? = some l) : rowsP f (rs.take (i + 1)) = rowsP f (rs.take i) ++ cardsP f i l := by
  obtain ⟨e, n⟩ := take_snoc h
  unfold rowsP
  rw [e, zip_snoc, List.flatMap_append, n, List.flatMap_cons, List.flatMap_nil, List.append_nil]
theorem plM_snoc {i : Nat} {Fs : List (List (List Int))} {F : List (List Int)} (h : Fs[i]? = some F) : plM (Fs.take (i + 1)) = plM (Fs.take i) ++ rowsP i F := by
  obtain ⟨e, n⟩ := take_snoc h
  unfold plM
  rw [e, zip_snoc, List.flatMap_append, n, List.flatMap_cons, List.flatMap_nil, List.append_nil]
theorem pre_map {α β : Type} (g : α × Nat → List β) : ∀ (l : List α) (i k : Nat), ∃ rest : List β, (l.zipIdx k).flatMap g = ((l.take i).zipIdx k).flatMap g ++ rest
  | [], i, k => ⟨[], by simp⟩
  | x :: l, 0, k => ⟨((x :: l).zipIdx k).flatMap g, by simp⟩
  | x :: l, i + 1, k => by
    obtain ⟨rest, h⟩ := pre_map g l i (k + 1)
    exact ⟨rest, by rw [List.take_succ_cons, List.zipIdx_cons, List.zipIdx_cons, List.flatMap_cons, List.flatMap_cons, h, List.append_assoc]⟩
theorem plM_pre (Fs : List (List (List Int))) (i : Nat) : ∃ rest, plM Fs = plM (Fs.take i) ++ rest := pre_map (fun p => rowsP p.2 p.1) Fs i 0
theorem rowsP_pre (f : Nat) (rs : List (List Int)) (i : Nat) : ∃ rest, rowsP f rs = rowsP f (rs.take i) ++ rest := pre_map (fun p => cardsP f p.2 p.1) rs i 0
theorem cardsP_pre (f r : Nat) (l : List Int) (i : Nat) : ∃ rest, cardsP f r l = cardsP f r (l.take i) ++ rest := by
  refine ⟨cardsP f r l |>.drop (cardsP f r (l.take i)).length, ?_⟩
  have e : cardsP f r (l.take i) = (cardsP f r l).take i := by
    unfold cardsP
    rw [← List.map_take]
    congr 1
    exact List.ext_getElem? fun j => by
      rw [List.getElem?_zipIdx, List.getElem?_take, List.getElem?_take, List.getElem?_zipIdx]
      split <;> simp
  have e2 : (cardsP f r (l.take i)).length = min i (cardsP f r l).length := by rw [e, List.length_take]
  rw [e2]
  rw [e]
  by_cases h : i ≤ (cardsP f r l).length
  · rw [Nat.min_eq_left h, List.take_append_drop]
  · rw [Nat.min_eq_right (by omega), List.take_of_length_le (by omega), List.drop_length, List.append_nil]
/-- the dict of the places; the tuples lie in N -/
def KP (N : Hp) (kvs : List (Key × V)) (acc : List Pl) : Prop := Paired (fun kv q => kv.1 = .inl q.1 ∧ ∃ t, kv.2 = V.ref t ∧ N t = some (.tup [.int (q.2.1 : Nat), .int (q.2.2.1 : Nat), .int (q.2.2.2 : Nat)])) kvs acc
theorem KP.mono {N N' : Hp} {kvs : List (Key × V)} {acc : List Pl} (e : Ex N N') (h : KP N kvs acc) : KP N' kvs acc := paired_imp (fun _ _ ⟨a, t, b, c⟩ => ⟨a, t, b, e _ _ c⟩) h
theorem KP.has : ∀ {N : Hp} {kvs : List (Key × V)} {acc : List Pl} (c : Int), KP N kvs acc → (valV kvs (.inl c)).isSome = decide (c ∈ acc.map (·.1))
  | _, [], _, c, .nil => by simp [valV]
  | _, (k, v) :: kvs, q :: acc, c, .cons h r => by
    have ih := KP.has c r
    have hk : k = .inl q.1 := h.1
    by_cases e : q.1 = c
    · have h1 : valV ((k, v) :: kvs) (.inl c) = some v := valV_pos (p := (k, v)) (by rw [hk, e])
      rw [h1]
      simp [e]
    · have h1 : valV ((k, v) :: kvs) (.inl c) = valV kvs (.inl c) := valV_neg (p := (k, v)) (fun z => e (by rw [hk] at z; exact Sum.inl.inj z))
      rw [h1, ih]
      have : c ∈ (q :: acc).map (·.1) ↔ c ∈ acc.map (·.1) := by
        rw [List.map_cons, List.mem_cons]
        exact ⟨fun z => z.elim (fun y => absurd y.symm e) id, .inr⟩
      by_cases hm : c ∈ acc.map (·.1)
      · rw [decide_eq_true hm, decide_eq_true (this.mpr hm)]
      · rw [decide_eq_false hm, decide_eq_false fun z => hm (this.mp z)]
theorem KP.val : ∀ {N : Hp} {kvs : List (Key × V)} {acc : List Pl} {q : Pl}, KP N kvs acc → (acc.map (·.1)).Nodup → q ∈ acc → ∃ t, valV kvs (.inl q.1) = some (.ref t) ∧ N t = some (.tup [.int (q.2.1 : Nat), .int (q.2.2.1 : Nat), .int (q.2.2.2 : Nat)])
  | _, [], _, q, .nil, _, hq => by cases hq
  | _, (k, v) :: kvs, p :: acc, q, .cons h r, nd, hq => by
    rw [List.map_cons] at nd
    obtain ⟨n1, n2⟩ := List.nodup_cons.mp nd
    have hk : k = .inl p.1 := h.1
    rcases List.mem_cons.mp hq with e | e
    · subst e
      obtain ⟨_, t, hv, ht⟩ := h
      exact ⟨t, by rw [valV_pos (p := (k, v)) (show k = .inl q.1 from hk)]; exact congrArg some hv, ht⟩
    · have ne : ¬ k = .inl q.1 := fun z => n1 (by
        rw [hk] at z
        rw [Sum.inl.inj z]
        exact List.mem_map.mpr ⟨q, e, rfl⟩)
      obtain ⟨t, h1, h2⟩ := KP.val r n2 e
      exact ⟨t, by rw [valV_neg (p := (k, v)) ne]; exact h1, h2⟩
theorem put_new {N : Hp} {kvs : List (Key × V)} {acc : List Pl} {c : Int} {v : V} (h : KP N kvs acc) (hc : c ∉ acc.map (·.1)) : putK kvs (.inl c) v = kvs ++ [(.inl c, v)] := by
  unfold putK
  rw [if_neg]
  intro z
  obtain ⟨kv, hk, e⟩ := List.any_eq_true.mp z
  obtain ⟨j, q, h1, h2, h3, _⟩ := LiI.paired_ix h hk
  have e := of_decide_eq_true e
  rw [h3] at e
  exact hc (List.mem_map.mpr ⟨q, List.mem_of_getElem? h2, Sum.inl.inj e⟩)
/-- fields of rows at f -/
def Fd (K : PySem.W.Frag) (H : Hp) (f : Addr) (Fs : List (List (List Int))) : Prop := ∃ xs, SqL K H f xs ∧ Paired (fun x F => ∃ q, x = V.ref q ∧ Rw K H q F) xs Fs ∧ Fs.length ≤ 100 ∧ (plM Fs).length ≤ 1000
theorem Fd.mono {H H' : Hp} {f : Addr} {Fs : List (List (List Int))} (e : Ex H H') (h : Fd K H f Fs) : Fd K H' f Fs := by
  obtain ⟨xs, h1, h2, h3⟩ := h
  exact ⟨xs, ex_l e h1, paired_imp (fun _ _ ⟨q, a, b⟩ => ⟨q, a, b.mono e⟩) h2, h3⟩
def goodP (Fs : List (List (List Int))) : Bool := decide (((plM Fs).map (·.1)).Nodup)
abbrev pPl (acc : List Pl) : Hp → V → Prop := fun N v => ∃ p kvs, v = .ref p ∧ N p = some (.dK kvs) ∧ KP N kvs acc
def placesR (Fs : List (List (List Int))) : Res := if goodP Fs = true then .ok (pPl (plM Fs)) else .err "BadDeal" []
def R_places_of (K : PySem.W.Frag) : Rl := ⟨fun vs H r => ∃ (f : Addr) (Fs : List (List (List Int))), vs = [.ref f] ∧ Fd K H f Fs ∧ r = placesR Fs, fun e ⟨f, Fs, h1, h2, h3⟩ => ⟨f, Fs, h1, h2.mono e, h3⟩⟩
/-- what stands while the places are gathered -/
def StP (H : Hp) (d : Addr) (acc : List Pl) (H' : Hp) : Prop := ∃ (T : Hp) (kvs : List (Key × V)), Own [sing d (.dK kvs), T, H] H' ∧ KP T kvs acc ∧ (acc.map (·.1)).Nodup
theorem StP.mono {H G G' : Hp} {d : Addr} {acc : List Pl} (e : Ex G G') : StP H d acc G → StP H d acc G' := fun ⟨T, kvs, o, h1, h2⟩ => ⟨T, kvs, o.mono e, h1, h2⟩
theorem StP.eH {H G : Hp} {d : Addr} {acc : List Pl} : StP H d acc G → Ex H G := fun ⟨T, kvs, o, _⟩ => o.e2
end
section
variable {P : Program} {w : World} {K : PySem.W.Frag} {mg : Str → Option Value} {base : Heap}
theorem q_fld {σ : L2.St} {H : Hp} {ta te : TE} {tz : TS} {P : Hp → V → Prop} {C : Addr} {Ns : List Hp} {D : Ends} {a dx : Addr} {gs : List (Str × V)} {f : Str} {j : Nat} (o : Own Ns H) (hj : Ns[j]? = some (sing a (.ins C dx gs))) (ho : Ev ta σ H (.ref a)) (h : EvP te σ H P) (c : Cls K C) (n : NoAttr K C f) (hl : gs.length < 1000) (k : ∀ v H1 N, Own (N :: Ns.set j (sing a (.ins C dx (putF f v gs)))) H1 → P N v → tz D σ H1) : tSeq (sFld K ta te f) tz D σ H := s_fld (D := { D with nx := tz D }) o hj ho h c n hl k
theorem s_fler {σ : L2.St} {H : Hp} {ta te : TE} {W : WX} {xn : Str} {fs : List (Str × V)} {D : Ends} {f : Str} (h : EvErr mg W xn fs te σ H) (k : RaiseX mg xn fs H (WE W σ)) : sFld K ta te f D σ H := h H (Ex.refl H) k _
/-- xs.extend(ys) -/
theorem s_ext {σ : L2.St} {H : Hp} {ta tb : TE} {Ns : List Hp} {D : Ends} {l b : Addr} {xs zs : List V} {j : Nat} (o : Own Ns H) (hj : Ns[j]? = some (sing l (.lst xs))) (ha : Ev ta σ H (.ref l)) (hb : Ev tb σ H (.ref b)) (hz : H b = some (.lst zs)) (hl : xs.length + zs.length ≤ 100000) (k : ∀ H1, Own (Ns.set j (sing l (.lst (xs ++ zs)))) H1 → D.nx σ H1) : tDrop (tBM K "list" rExtend ta (tCons tb tNil)) D σ H := ha H (Ex.refl H) _ fun H1 e1 =>
  ⟨Or.inl ⟨rfl, xs, sq_of (e1 l _ (o.at hj))⟩, hb H1 e1 _ fun H2 e2 => by
    have o2 : Own Ns H2 := (o.mono e1).mono e2
    exact ⟨l, b, xs, zs, rfl, rfl, o2.at hj, e2 _ _ (e1 _ _ hz), sz_of hl, k _ (o2.set hj)⟩⟩
theorem flat_len {α β : Type} {g : α × Nat → List β} {c : Nat} : ∀ (l : List α) (k : Nat), (∀ p ∈ l.zipIdx k, (g p).length ≤ c) → ((l.zipIdx k).flatMap g).length ≤ c * l.length
  | [], k, _ => by simp
  | x :: l, k, h => by
    rw [List.zipIdx_cons] at h
    have h1 := h (x, k) List.mem_cons_self
    have h2 := flat_len l (k + 1) fun p hp => h p (List.mem_cons_of_mem _ hp)
    rw [List.zipIdx_cons, List.flatMap_cons, List.length_append, List.length_cons, Nat.mul_succ]
    omega
theorem fld_rows {n : Nat} {rs : List (List Int)} (h : fldM n rs = true) : (1 ≤ rs.length ∧ rs.length ≤ 3) ∧ ∀ l ∈ rs, l.length ≤ 12 ∧ ∀ c ∈ l, 0 ≤ c ∧ c < (n : Int) := by
  unfold fldM at h
  simp only [Bool.and_eq_true, decide_eq_true_eq, List.all_eq_true] at h
  refine ⟨⟨by omega, by omega⟩, fun l hl => ?_⟩
  have h2 := h.2 l hl
  unfold okRw okCd at h2
  simp only [Bool.and_eq_true, decide_eq_true_eq, List.all_eq_true] at h2
  exact ⟨by omega, fun c hc => h2.2 c hc⟩
theorem plM_len {n : Nat} {F0 F1 : List (List Int)} (h0 : fldM n F0 = true) (h1 : fldM n F1 = true) : (plM [F0, F1]).length ≤ 72 := by
  have row : ∀ {F : List (List Int)}, fldM n F = true → ∀ f, (rowsP f F).length ≤ 36 := fun {F} h f => by
    obtain ⟨⟨_, g1⟩, g2⟩ := fld_rows h
    have := flat_len (g := fun p => cardsP f p.2 p.1) (c := 12) F 0 fun p hp => by
      unfold cardsP
      rw [List.length_map, List.length_zipIdx]
      have hm : p.1 ∈ F := by
        obtain ⟨x, i⟩ := p
        exact (List.mem_zipIdx hp).2.2 ▸ List.getElem_mem _
      exact (g2 p.1 hm).1
    unfold rowsP
    omega
  have e : plM [F0, F1] = rowsP 0 F0 ++ rowsP 1 F1 := by simp [plM]
  rw [e, List.length_append]
  have := row h0 0
  have := row h1 1
  omega
/-- a deal: its rows and the places lie in things of its own -/
def DealK (K : PySem.W.Frag) (C : Addr) (H : Hp) (d b : Addr) (F0 F1 : List (List Int)) (kvs : List (Key × V)) : Prop := ∃ dx pf ph a0 a1, H d = some (.ins C dx [("bound", .ref b), ("fields", .ref pf), ("homes", .ref ph)]) ∧ H pf = some (.lst [.ref a0, .ref a1]) ∧ Rw K H a0 F0 ∧ Rw K H a1 F1 ∧ H ph = some (.dK kvs) ∧ KP H kvs (plM [F0, F1])
theorem DealK.mono {C : Addr} {H H' : Hp} {d b : Addr} {F0 F1 : List (List Int)} {kvs : List (Key × V)} (e : Ex H H') (h : DealK K C H d b F0 F1 kvs) : DealK K C H' d b F0 F1 kvs := by
  obtain ⟨dx, pf, ph, a0, a1, h1, h2, h3, h4, h5, h6⟩ := h
  exact ⟨dx, pf, ph, a0, a1, e _ _ h1, e _ _ h2, h3.mono e, h4.mono e, e _ _ h5, h6.mono e⟩
def dealM (n : Nat) (F0 F1 : List (List Int)) : Bool := fldM n F0 && (fldM n F1 && goodP [F0, F1])
abbrev pDeal (K : PySem.W.Frag) (C b : Addr) (F0 F1 : List (List Int)) : Hp → V → Prop := fun N v => ∃ d kvs, v = .ref d ∧ DealK K C N d b F0 F1 kvs
def dealR (n : Nat) (F0 F1 : List (List Int)) (P : Hp → V → Prop) : Res := if dealM n F0 F1 = true then .ok P else .err "BadDeal" []
structure TDeal (K : PySem.W.Frag) (mg : Str → Option Value) (C : Addr) : Prop where
  cl : Cls K C
  g : mg "Deal" = some (.ref C)
  n_bound : NoAttr K C "bound"
  n_fields : NoAttr K C "fields"
  n_homes : NoAttr K C "homes"
def R_Deal (K : PySem.W.Frag) (CB C : Addr) : Rl := ⟨fun vs H r => ∃ (b z o : Addr) (ls : List (List Str)) (F0 F1 : List (List Int)), vs = [.ref b, .ref z, .ref o] ∧ BookAt K CB H b ls ∧ Rw K H z F0 ∧ Rw K H o F1 ∧ r = dealR ls.length F0 F1 (pDeal K C b F0 F1), fun e ⟨b, z, o, ls, F0, F1, h1, h2, h3, h4, h5⟩ => ⟨b, z, o, ls, F0, F1, h1, h2.mono e, h3.mono e, h4.mono e, h5⟩⟩
def R_Deal_book (K : PySem.W.Frag) (C : Addr) : Rl := ⟨fun vs H r => ∃ (d b : Addr) (F0 F1 : List (List Int)) (kvs : List (Key × V)), vs = [.ref d] ∧ DealK K C H d b F0 F1 kvs ∧ r = .ok (is (.ref b)), fun e ⟨d, b, F0, F1, kvs, h1, h2, h3⟩ => ⟨d, b, F0, F1, kvs, h1, h2.mono e, h3⟩⟩
def fieldM (F0 F1 : List (List Int)) (i : Int) : List (List Int) := if i = 0 then F0 else F1
def fieldR (i : Int) (P : Hp → V → Prop) : Res := if 0 ≤ i ∧ i ≤ 1 then .ok P else .err "NoField" []
def R_Deal_rows (K : PySem.W.Frag) (C : Addr) : Rl := ⟨fun vs H r => ∃ (d b : Addr) (F0 F1 : List (List Int)) (kvs : List (Key × V)) (i : Int), vs = [.ref d, .int i] ∧ DealK K C H d b F0 F1 kvs ∧ r = fieldR i (pRw (fieldM F0 F1 i)), fun e ⟨d, b, F0, F1, kvs, i, h1, h2, h3⟩ => ⟨d, b, F0, F1, kvs, i, h1, h2.mono e, h3⟩⟩
def R_Deal_cards (K : PySem.W.Frag) (C : Addr) : Rl := ⟨fun vs H r => ∃ (d b : Addr) (F0 F1 : List (List Int)) (kvs : List (Key × V)) (i : Int), vs = [.ref d, .int i] ∧ DealK K C H d b F0 F1 kvs ∧ (fieldM F0 F1 i).flatten.length ≤ 90000 ∧ r = fieldR i (pLst ((fieldM F0 F1 i).flatten.map V.int)), fun e ⟨d, b, F0, F1, kvs, i, h1, h2, h3⟩ => ⟨d, b, F0, F1, kvs, i, h1, h2.mono e, h3⟩⟩
def R_Deal_where (K : PySem.W.Frag) (CB C : Addr) : Rl := ⟨fun vs H r => ∃ (d b : Addr) (ls : List (List Str)) (F0 F1 : List (List Int)) (kvs : List (Key × V)) (i : Int), vs = [.ref d, .int i] ∧ DealK K C H d b F0 F1 kvs ∧ BookAt K CB H b ls ∧ r = okR ls.length [i] (is ((valV kvs (.inl i)).getD .non)), fun e ⟨d, b, ls, F0, F1, kvs, i, h1, h2, h3, h4⟩ => ⟨d, b, ls, F0, F1, kvs, i, h1, h2.mono e, h3.mono e, h4⟩⟩
end
section
variable {P : Program} {w : World} {K : PySem.W.Frag} {mg : Str → Option Value} {base : Heap}
/-! ### lists of new lists, unlike one another -/
def CA (N : Hp) (ts : List Addr) (Cs : List (List V)) : Prop := Paired (fun t l => N t = some (.lst l)) ts Cs
theorem CA.mono {N N' : Hp} {ts : List Addr} {Cs : List (List V)} (e : Ex N N') (h : CA N ts Cs) : CA N' ts Cs := paired_imp (fun _ _ a => e _ _ a) h
theorem ep_lcNew {σ : L2.St} {H G : Hp} {te : TE} {g : TG} {wi : TI} {n : Nat} {Y : Nat → V → Hp → Prop} {vs : List Nat} (S : Nat → L2.St) (v : Nat → List V) (hi : EvI wi σ H G n Y) (eG : Ex G H) (hn : n ≤ 50000) (hg : ∀ i x H', i < n → Y i x H' → ∀ Q : L2.St → Hp → Prop, Q (S i) H' → g x (wipe σ vs) H' Q) (hw : ∀ i, i < n → wipe (S i) vs = wipe σ vs)
    (he : ∀ i H1, Ex H H1 → i < n → EvL te (S i) H1 (v i)) :
    EvP (tLc wi g tYes te vs) σ H (fun N w => ∃ p ts, w = .ref p ∧ N p = some (.lst (ts.map V.ref)) ∧ CA N ts ((List.range n).map v) ∧ (p :: ts).Nodup) := fun H0 e Q q =>
  hi H0 e _ fun J H1 e1 d Dl hD => lc_drw d (fun i H' => ∃ (N : Hp) (ts : List Addr), Own [sing Dl (.lst (ts.map V.ref)), N, H1] H' ∧ CA N ts ((List.range i).map v) ∧ (Dl :: ts).Nodup ∧ ts.length = i)
    ⟨emp, [], ⟨sing_ex upd_same, fun M hM a ha => by
      rcases List.mem_cons.mp hM with z | z
      · subst z; rfl
      · have z : M = H1 := by simpa using z
        subst z
        by_cases qa : a = Dl
        · subst qa; exact hD
        · exact absurd (sing_ne qa) ha, emp_ex, (fun _ _ a ha => absurd rfl ha), Ex.new hD, (fun _ h => nomatch h), trivial⟩, .nil, by simp, rfl⟩
    (fun i H' _ ⟨N, ts, o, _⟩ => ((eG.trans e).trans e1).trans o.e2) (fun i x H' H'' hlt ⟨N, ts, o, pr, nd, hl⟩ e2 hy => hg i x H'' hlt hy _ ⟨hw i hlt, by
      have o2 := o.mono e2
      show te (S i) H'' _
      refine he i H'' ((e.trans e1).trans o2.e2) hlt H'' (Ex.refl _) _ fun t H4 ht e4 h4 => ?_
      have o4 : Own [sing t (.lst (v i)), sing Dl (.lst (ts.map V.ref)), N, H1] H4 := o2.add e4 (sing_ex h4) (sing_fr ht)
      have hN : N t = none := ex_none o2.e1 ht
      have htD : t ≠ Dl := fun z => by
        have := o2.e0 Dl _ sing_at
        rw [← z, ht] at this
        cases this
      have htn : t ∉ ts := fun hm => by
        obtain ⟨j, l, _, _, g3⟩ := LiI.paired_ix pr hm
        rw [hN] at g3
        cases g3
      refine ⟨ts.map V.ref, o4.at (j := 1) rfl, by rw [List.length_map]; exact sz_lt (by omega), uni N (sing t (.lst (v i))), ts ++ [t], ?_, ?_, ?_, by rw [List.length_append, hl]; rfl⟩
      · have e5 : (ts ++ [t]).map V.ref = ts.map V.ref ++ [.ref t] := by rw [List.map_append]; rfl
        rw [e5]
        have o5 : Own [sing t (.lst (v i)), sing Dl (.lst (ts.map V.ref ++ [.ref t])), N, H1] (upd H4 Dl (.lst (ts.map V.ref ++ [.ref t]))) := o4.set (j := 1) rfl
        exact own_merge2 o5.swap
      · have dj : ∀ a, (sing t (.lst (v i))) a ≠ none → N a = none := o4.dj (i := 0) (j := 2) (by decide) rfl rfl
        rw [List.range_succ, List.map_append]
        exact paired_append (CA.mono (uni_l dj) pr) (.cons (uni_r _ _ sing_at) .nil)
      · obtain ⟨n1, n2⟩ := List.nodup_cons.mp nd
        refine List.nodup_cons.mpr ⟨fun z => ?_, List.nodup_append.mpr ⟨n2, by simp, fun a ha b hb e => ?_⟩⟩
        · rcases List.mem_append.mp z with z | z
          · exact n1 z
          · exact htD (List.mem_singleton.mp z).symm
        · exact htn (by rw [← List.mem_singleton.mp hb, ← e]; exact ha)⟩) (fun H' ⟨N, ts, o, pr, nd, _⟩ => q (.ref Dl) H' (uni N (sing Dl (.lst (ts.map V.ref)))) (e1.trans o.e2) (uni_ex o.e1 o.e0) (uni_fr (Fr.back e1 (o.dj (i := 1) (j := 2) (by decide) rfl rfl)) (sing_fr (fresh_back e1 hD))) ⟨Dl, ts, rfl, uni_r _ _ sing_at, pr.mono (uni_l (o.dj (i := 0) (j := 1) (by decide) rfl rfl)), nd⟩)
theorem ep_lst2D {σ : L2.St} {H : Hp} {ta tb : TE} {P1 P2 : Hp → V → Prop} (h1 : EvP ta σ H P1) (h2 : EvP tb σ H P2) : EvP (tLst (tCons ta (tCons tb tNil))) σ H (fun N v => ∃ p x y N1 N2, v = .ref p ∧ N p = some (.lst [x, y]) ∧ Ex N1 N ∧ Ex N2 N ∧ P1 N1 x ∧ P2 N2 y ∧ N1 p = none ∧ N2 p = none ∧ ∀ a, N2 a ≠ none → N1 a = none) := fun H1 e Q q =>
  h1 H1 e _ fun x H2 N1 e2 i1 f1 p1 => h2 H2 (e.trans e2) _ fun y H3 N2 e3 i2 f2 p2 => ⟨by show 2 ≤ sizeLine; decide, fun p hp => by
    have n1 : N1 p = none := ex_none (i1.trans e3) hp
    have n2 : N2 p = none := ex_none i2 hp
    have d12 : ∀ a, N2 a ≠ none → N1 a = none := fun a ha => ex_none i1 (f2 a ha)
    have dp : ∀ a, sing p (.lst [x, y]) a ≠ none → uni N1 N2 a = none := fun a ha => by
      by_cases z : a = p
      · subst z
        unfold uni
        rw [n2, n1]
      · exact absurd (sing_ne z) ha
    exact q (.ref p) _ (uni (uni N1 N2) (sing p (.lst [x, y]))) ((e2.trans e3).trans (Ex.new hp)) (uni_ex (uni_ex ((i1.trans e3).trans (Ex.new hp)) (i2.trans (Ex.new hp))) (sing_ex upd_same)) (uni_fr (uni_fr f1 (f2.back e2)) (sing_fr (fresh_back (e2.trans e3) hp))) ⟨p, x, y, N1, N2, rfl, uni_r _ _ sing_at, (uni_l d12).trans (uni_l dp), uni_r.trans (uni_l dp), p1, p2, n1, n2, d12⟩⟩
/-- xs.insert(i, v), xs within a part -/
theorem s_insP {σ : L2.St} {H M : Hp} {ta ti tv : TE} {Ns : List Hp} {D : Ends} {l : Addr} {xs : List V} {v : V} {j n : Nat} (o : Own Ns H) (hj : Ns[j]? = some M) (hM : M l = some (.lst xs)) (ha : Ev ta σ H (.ref l)) (hi : Ev ti σ H (.int (n : Nat))) (hv : Ev tv σ H v) (hl : xs.length < 90000) (hn : n ≤ 100000) (k : ∀ H1, Own (Ns.set j (upd M l (.lst (xs.take n ++ [v] ++ xs.drop n)))) H1 → D.nx σ H1) :
    tDrop (tBM K "list" (fun x vs H Q => ∃ (l : Addr) (xs : List V) (i : Int) (y : V), x = .ref l ∧ vs = [.int i, y] ∧ H l = some (.lst xs) ∧ xs.length < sizeLine ∧ 0 ≤ i ∧ i < 2 ^ 63 ∧ Q .non (upd H l (.lst (xs.take i.toNat ++ [y] ++ xs.drop i.toNat)))) ta (tCons ti (tCons tv tNil))) D σ H := ha H (Ex.refl H) _ fun H1 e1 =>
  ⟨Or.inl ⟨rfl, xs, sq_of (e1 l _ (o.ix hj _ _ hM))⟩, hi H1 e1 _ fun H2 e2 => hv H2 (e1.trans e2) _ fun H3 e3 => by
    have o3 : Own Ns H3 := ((o.mono e1).mono e2).mono e3
    exact ⟨l, xs, (n : Nat), v, rfl, rfl, o3.ix hj _ _ hM, sz_lt (by omega), by omega, by omega, k _ (o3.setP hj (by rw [hM]; exact fun z => nomatch z))⟩⟩
/-! ### the fields drawn -/
/-- rows of both fields, behind one another; n0: so many are the first field's -/
structure FOk (m n0 : Nat) (C : List (List Int)) : Prop where
  lo : 1 ≤ n0 ∧ n0 ≤ 3
  hi : n0 + 1 ≤ C.length ∧ C.length ≤ n0 + 3
  len : ∀ l ∈ C, l.length ≤ 12
  rng : ∀ c ∈ C.flatten, 0 ≤ c ∧ c < (m : Int)
  nd : C.flatten.Nodup
theorem flat_set {C : List (List Int)} {q : Nat} {l l' : List Int} {v : Int} (h : C[q]? = some l) (hp : l'.Perm (v :: l)) : (C.set q l').flatten.Perm (v :: C.flatten) := by
  induction C generalizing q with
  | nil => cases h
  | cons x r ih =>
    cases q with
    | zero =>
      have e : x = l := Option.some.inj h
      subst e
      show (l' ++ r.flatten).Perm (v :: (x ++ r.flatten))
      exact List.Perm.append_right _ hp
    | succ q =>
      show (x ++ (r.set q l').flatten).Perm (v :: (x ++ r.flatten))
      exact (List.Perm.append_left x (ih h)).trans List.perm_middle
theorem FOk.put {m n0 q n : Nat} {C : List (List Int)} {l : List Int} (h : FOk m n0 C) (hq : C[q]? = some l) (hl : l.length < 12) : FOk (m + 1) n0 (C.set q (l.take n ++ [((m : Nat) : Int)] ++ l.drop n)) := by
  have hp : (l.take n ++ [((m : Nat) : Int)] ++ l.drop n).Perm (((m : Nat) : Int) :: l) := by
    have h1 : (l.take n ++ [((m : Nat) : Int)] ++ l.drop n).Perm (((m : Nat) : Int) :: (l.take n ++ l.drop n)) := by
      rw [List.append_assoc]
      exact List.perm_middle
    rw [List.take_append_drop] at h1
    exact h1
  have hf := flat_set hq hp
  refine ⟨h.lo, by rw [List.length_set]; exact h.hi, fun x hx => ?_, fun c hc => ?_, (hf.nodup_iff).mpr (List.nodup_cons.mpr ⟨fun z => ?_, h.nd⟩)⟩
  · rcases List.mem_or_eq_of_mem_set hx with z | z
    · exact h.len x z
    · rw [z, hp.length_eq, List.length_cons]; omega
  · rcases List.mem_cons.mp ((hf.mem_iff).mp hc) with z | z
    · rw [z]; omega
    · have := h.rng c z; omega
  · have := h.rng _ z; omega
theorem FOk.up {m n0 : Nat} {C : List (List Int)} (h : FOk m n0 C) : FOk (m + 1) n0 C := ⟨h.lo, h.hi, h.len, fun c hc => by have := h.rng c hc; omega, h.nd⟩
theorem pl_keys (Fs : List (List (List Int))) : (plM Fs).map (·.1) = (Fs.map List.flatten).flatten := by
  have hc : ∀ f r (l : List Int), (cardsP f r l).map (·.1) = l := fun f r l => by
    unfold cardsP
    rw [List.map_map]
    show (l.zipIdx).map Prod.fst = l
    exact List.zipIdx_map_fst ..
  have hr : ∀ f (rs : List (List Int)) k, ((rs.zipIdx k).flatMap fun p => cardsP f p.2 p.1).map (·.1) = rs.flatten := fun f rs => by
    induction rs with
    | nil => intro k; rfl
    | cons x r ih => intro k; rw [List.zipIdx_cons, List.flatMap_cons, List.map_append, hc, ih]; rfl
  have hp : ∀ (Fs : List (List (List Int))) k, ((Fs.zipIdx k).flatMap fun p => rowsP p.2 p.1).map (·.1) = (Fs.map List.flatten).flatten := fun Fs => by
    induction Fs with
    | nil => intro k; rfl
    | cons x r ih =>
      intro k
      rw [List.zipIdx_cons, List.flatMap_cons, List.map_append, ih]
      unfold rowsP
      rw [hr]
      rfl
  exact hp Fs 0
theorem FOk.fld {m n0 : Nat} {C : List (List Int)} (h : FOk m n0 C) : fldM m (C.take n0) = true ∧ fldM m (C.drop n0) = true ∧ goodP [C.take n0, C.drop n0] = true := by
  have row : ∀ {R : List (List Int)}, (1 ≤ R.length ∧ R.length ≤ 3) → (∀ l ∈ R, l ∈ C) → fldM m R = true := fun {R} hl hm => by
    unfold fldM okRw okCd
    simp only [Bool.and_eq_true, decide_eq_true_eq, List.all_eq_true]
    exact ⟨⟨by omega, by omega⟩, fun l hl => ⟨by have := h.len l (hm l hl); omega, fun c hc => h.rng c (List.mem_flatten.mpr ⟨l, hm l hl, hc⟩)⟩⟩
  have h1 := h.lo
  have h2 := h.hi
  refine ⟨row (by rw [List.length_take]; omega) fun l hl => List.mem_of_mem_take hl, row (by rw [List.length_drop]; omega) fun l hl => List.mem_of_mem_drop hl, ?_⟩
  unfold goodP
  refine decide_eq_true ?_
  rw [pl_keys]
  show ((C.take n0).flatten ++ ((C.drop n0).flatten ++ [])).Nodup
  rw [List.append_nil, ← List.flatten_append, List.take_append_drop]
  exact h.nd
/-- the fields as they lie in M -/
def FAt (M : Hp) (p : Addr) (n0 : Nat) (C : List (List Int)) : Prop := ∃ (a b : Addr) (L : List Addr), M p = some (.lst [.ref a, .ref b]) ∧ M a = some (.lst ((L.take n0).map V.ref)) ∧ M b = some (.lst ((L.drop n0).map V.ref)) ∧ CA M L (C.map fun l => l.map V.int) ∧ (p :: a :: b :: L).Nodup
theorem CA_off {M : Hp} {t : Addr} {u : HO} : ∀ {ts : List Addr} {Cs : List (List V)}, t ∉ ts → CA M ts Cs → CA (upd M t u) ts Cs
  | _, _, _, .nil => .nil
  | s :: ts, _, hn, .cons h r => .cons (by
      have ne : s ≠ t := fun e => hn (e ▸ List.mem_cons_self)
      rw [upd_ne ne]
      exact h) (CA_off (fun z => hn (List.mem_cons_of_mem _ z)) r)
theorem CA_set {M : Hp} {t : Addr} {z : List V} : ∀ {ts : List Addr} {Cs : List (List V)} {q : Nat}, CA M ts Cs → ts.Nodup → ts[q]? = some t → CA (upd M t (.lst z)) ts (Cs.set q z)
  | _, _, _, .nil, _, h => by cases h
  | s :: ts, _, 0, .cons h r, nd, e => by
    have e : s = t := Option.some.inj e
    subst e
    exact .cons upd_same (CA_off (List.nodup_cons.mp nd).1 r)
  | s :: ts, _, q + 1, .cons h r, nd, e => by
    obtain ⟨n1, n2⟩ := List.nodup_cons.mp nd
    have ne : s ≠ t := fun z => n1 (by rw [z]; exact List.mem_of_getElem? e)
    exact .cons (by rw [upd_ne ne]; exact h) (CA_set r n2 e)
theorem FAt.put {M : Hp} {p t : Addr} {n0 q : Nat} {C : List (List Int)} {l' : List Int} {a b : Addr} {L : List Addr} (h1 : M p = some (.lst [.ref a, .ref b])) (h2 : M a = some (.lst ((L.take n0).map V.ref))) (h3 : M b = some (.lst ((L.drop n0).map V.ref))) (h4 : CA M L (C.map fun l => l.map V.int)) (h5 : (p :: a :: b :: L).Nodup) (ht : L[q]? = some t) : FAt (upd M t (.lst (l'.map V.int))) p n0 (C.set q l') := by
  have hm : t ∈ L := List.mem_of_getElem? ht
  obtain ⟨n1, n2⟩ := List.nodup_cons.mp h5
  obtain ⟨n3, n4⟩ := List.nodup_cons.mp n2
  obtain ⟨n5, n6⟩ := List.nodup_cons.mp n4
  have np : p ≠ t := fun e => n1 (by rw [e]; simp [hm])
  have na : a ≠ t := fun e => n3 (by rw [e]; simp [hm])
  have nb : b ≠ t := fun e => n5 (by rw [e]; exact hm)
  refine ⟨a, b, L, by rw [upd_ne np]; exact h1, by rw [upd_ne na]; exact h2, by rw [upd_ne nb]; exact h3, ?_, h5⟩
  rw [List.map_set]
  exact CA_set h4 n6 ht
abbrev pFds (n : Nat) : Hp → V → Prop := fun N v => ∃ p n0 C, v = .ref p ∧ FAt N p n0 C ∧ FOk n n0 C
def R__law_fields (K : PySem.W.Frag) : Rl := ⟨fun vs H r => ∃ (n : Nat) (q : Addr) (ns : List Int), vs = [.int (n : Nat), .ref q] ∧ Nm K H q ns ∧ 3 + n ≤ ns.length ∧ n ≤ 1000 ∧ r = .ok (pFds n), fun e ⟨n, q, ns, h1, h2, h3⟩ => ⟨n, q, ns, h1, h2.mono e, h3⟩⟩
end
section
variable {P : Program} {w : World} {K : PySem.W.Frag} {mg : Str → Option Value} {base : Heap}
/-- rows of texts, or rows of numbers -/
def R__law_copy2 (K : PySem.W.Frag) : Rl := ⟨fun vs H r => (R__law_copy K).R vs H r ∨ (R_copied K).R vs H r, fun e h => h.imp ((R__law_copy K).mono e) ((R_copied K).mono e)⟩
theorem ok__law_copy (B : Bt mg) (D : Df K mg "_law_copy" s__law_copy ["_law_rows"]) : Ok P w K mg base 1 "_law_copy" ["_law_rows"] ((R__law_copy2 K).sp mg) := by
  refine D.ok sc__law_copy (fun vs H Q E h => ?_) (fun f cdv A outer s H vs Q E hr h => ?_)
  · obtain ⟨r, h | h, _⟩ := h
    · obtain ⟨v, ls, rfl, _⟩ := h
      rfl
    · obtain ⟨v, ls, rfl, _⟩ := h
      rfl
  · obtain ⟨r, h, k⟩ := h
    refine ⟨_, (pss_one (ps_ret (pe_lc (own := [("_law_row", 1)]) rfl sc__law_copy.nd (pi_listK K (pv 0)) (blkOk_by (N := ["_law_rows", "_law_row"]) (sc := defScope s__law_copy) (by decide +kernel)) (fun _ _ _ _ _ => (pg_name (i := 1) sc__law_copy.nd rfl (.inl rfl))) (fun _ _ _ _ _ => pts_nil) (fun _ _ _ _ _ => (pe_callTy (call_listK K) (by rfl) B.list boot_ty_list (pa_cons (pv 1) pa_nil)))))), ?_⟩
    rcases h with ⟨v, ls, rfl, hB, rfl⟩ | ⟨v, rs, rfl, hB, rfl⟩
    · exact s_rn (Own.one H) (ep_copy (fun x => [some (.ref v), some x]) (ev_var rfl) hB (fun _ => rfl) (fun _ => rfl) (fun _ => rfl)) fun v H1 N o p => o.ret k (i := 0) (j := 1) rfl rfl p
    · exact s_rn (Own.one H) (ep_copyI (fun x => [some (.ref v), some x]) (ev_var rfl) hB (fun _ => rfl) (fun _ => rfl) (fun _ => rfl)) fun v H1 N o p => o.ret k (i := 0) (j := 1) rfl rfl p
/-- two fields at p -/
def Fl (K : PySem.W.Frag) (H : Hp) (p : Addr) (F0 F1 : List (List Int)) : Prop := ∃ a b, SqL K H p [.ref a, .ref b] ∧ Rw K H a F0 ∧ Rw K H b F1
theorem Fl.mono {H H' : Hp} {p : Addr} {F0 F1 : List (List Int)} (e : Ex H H') (h : Fl K H p F0 F1) : Fl K H' p F0 F1 := by
  obtain ⟨a, b, h1, h2, h3⟩ := h
  exact ⟨a, b, ex_l e h1, h2.mono e, h3.mono e⟩
theorem Fl.at {H : Hp} {p : Addr} {F0 F1 : List (List Int)} (h : Fl K H p F0 F1) {i : Nat} (hi : i < 2) : ∃ xs c, SqL K H p xs ∧ atI xs ((i : Nat) : Int) = some (.ref c) ∧ Rw K H c (fieldM F0 F1 ((i : Nat) : Int)) := by
  obtain ⟨a, b, h1, h2, h3⟩ := h
  rcases i with _ | _ | i
  · exact ⟨_, a, h1, rfl, h2⟩
  · exact ⟨_, b, h1, rfl, h3⟩
  · omega
theorem CA.rws {M : Hp} {ts : List Addr} {C : List (List Int)} (h : CA M ts (C.map fun l => l.map V.int)) : CIi M (ts.map V.ref) C := by
  induction C generalizing ts with
  | nil => cases h; exact .nil
  | cons l r ih =>
    cases h with
    | cons h1 h2 => exact .cons ⟨_, rfl, h1⟩ (ih h2)
theorem FAt.fl {M : Hp} {p : Addr} {m n0 : Nat} {C : List (List Int)} (h : FAt M p n0 C) (o : FOk m n0 C) : Fl K M p (C.take n0) (C.drop n0) := by
  obtain ⟨a, b, L, h1, h2, h3, h4, _⟩ := h
  have lo := o.lo
  have hi := o.hi
  have len : ∀ l ∈ C, l.length ≤ 1000 := fun l hl => by have := o.len l hl; omega
  refine ⟨a, b, sq_of h1, CIi.rw h2 ?_ (by rw [List.length_take]; omega) fun l hl => len l (List.mem_of_mem_take hl), CIi.rw h3 ?_ (by rw [List.length_drop]; omega) fun l hl => len l (List.mem_of_mem_drop hl)⟩
  · rw [List.map_take]
    exact paired_take n0 (CA.rws h4)
  · rw [List.map_drop]
    exact paired_drop n0 (CA.rws h4)
theorem FOk.deal {m n0 : Nat} {C : List (List Int)} (h : FOk m n0 C) : dealM m (C.take n0) (C.drop n0) = true := by
  obtain ⟨h1, h2, h3⟩ := h.fld
  unfold dealM
  rw [h1, h2, h3]
  rfl
def R__law_made (K : PySem.W.Frag) (CB C : Addr) : Rl := ⟨fun vs H r => ∃ (b p : Addr) (ls : List (List Str)) (F0 F1 : List (List Int)), vs = [.ref b, .ref p] ∧ BookAt K CB H b ls ∧ Fl K H p F0 F1 ∧ r = dealR ls.length F0 F1 (pDeal K C b F0 F1), fun e ⟨b, p, ls, F0, F1, h1, h2, h3, h4⟩ => ⟨b, p, ls, F0, F1, h1, h2.mono e, h3.mono e, h4⟩⟩
/-- where a verse lies in the rows -/
abbrev pWh (F0 F1 : List (List Int)) (v : Int) : Hp → V → Prop := fun N x => (∃ t f r k, x = V.ref t ∧ N t = some (.tup [.int (f : Nat), .int (r : Nat), .int (k : Nat)]) ∧ (v, f, r, k) ∈ plM [F0, F1]) ∨ (x = .non ∧ v ∉ (plM [F0, F1]).map (·.1))
def R__law_where (K : PySem.W.Frag) : Rl := ⟨fun vs H r => ∃ (p : Addr) (F0 F1 : List (List Int)) (v : Int), vs = [.ref p, .int v] ∧ Fl K H p F0 F1 ∧ r = .ok (pWh F0 F1 v), fun e ⟨p, F0, F1, v, h1, h2, h3⟩ => ⟨p, F0, F1, v, h1, h2.mono e, h3⟩⟩
theorem pl_mem {F0 F1 : List (List Int)} {f r k : Nat} {l : List Int} {c : Int} (hf : f < 2) (hr : (fieldM F0 F1 ((f : Nat) : Int))[r]? = some l) (hk : l[k]? = some c) : (c, f, r, k) ∈ plM [F0, F1] := by
  have hF : [F0, F1][f]? = some (fieldM F0 F1 ((f : Nat) : Int)) := by
    rcases f with _ | _ | f
    · rfl
    · rfl
    · omega
  unfold plM
  refine List.mem_flatMap.mpr ⟨(fieldM F0 F1 ((f : Nat) : Int), f), List.mem_zipIdx_iff_getElem?.mpr hF, ?_⟩
  unfold rowsP
  refine List.mem_flatMap.mpr ⟨(l, r), List.mem_zipIdx_iff_getElem?.mpr hr, ?_⟩
  unfold cardsP
  exact List.mem_map.mpr ⟨(c, k), List.mem_zipIdx_iff_getElem?.mpr hk, rfl⟩
theorem ev_index {σ : L2.St} {H : Hp} {ta te : TE} {a : Addr} {l : List Int} {v : Int} {k : Nat} (ha : Ev ta σ H (.ref a)) (hs : SqL K H a (l.map V.int)) (hv : Ev te σ H (.int v)) (hk : l[k]? = some v) (hn : ∀ m : Nat, m < k → l[m]? ≠ some v) : Ev (tBM K "list" (rIndex K) ta (tCons te tNil)) σ H (.int (k : Nat)) := fun H1 e Q q =>
  ha H1 e _ fun H2 e2 => ⟨Or.inl ⟨rfl, _, ex_l (e.trans e2) hs⟩, hv H2 (e.trans e2) _ fun H3 e3 => ⟨a, l.map V.int, .int v, k, .int v, rfl, rfl, ex_l ((e.trans e2).trans e3) hs, rfl, flat_ints l, by rw [List.getElem?_map, hk]; rfl, by rw [eqV_int]; exact decide_eq_true rfl, fun m z hm hz => by
    rw [List.getElem?_map] at hz
    cases hl : l[m]? with
    | none => rw [hl] at hz; cases hz
    | some y =>
      rw [hl] at hz
      obtain rfl : V.int y = z := Option.some.inj hz
      rw [eqV_int]
      exact decide_eq_false fun e => hn m hm (by rw [hl, e]), q H3 (e2.trans e3)⟩⟩
theorem first_at {l : List Int} {v : Int} (h : v ∈ l) : ∃ k : Nat, l[k]? = some v ∧ ∀ m : Nat, m < k → l[m]? ≠ some v := by
  induction l with
  | nil => cases h
  | cons x r ih =>
    by_cases e : x = v
    · exact ⟨0, by rw [e]; rfl, fun m hm => by omega⟩
    · rcases List.mem_cons.mp h with z | z
      · exact absurd z.symm e
      · obtain ⟨k, h1, h2⟩ := ih z
        refine ⟨k + 1, h1, fun m hm => ?_⟩
        cases m with
        | zero => intro q; exact e (Option.some.inj q)
        | succ m => exact h2 m (by omega)
end
section
/-- a op1 b op2 c op3 d, as a test -/
def tChain3 (r r' r'' : R2) (ta tb tc td : TE) : TE := fun σ H Q => ta σ H fun x H1 => tb σ H1 fun y H2 => r x y H2 fun z H3 => ∃ k, z = .bl k ∧
  (if k = true then tc σ H3 fun w H4 => r' y w H4 fun z2 H5 => ∃ k2, z2 = .bl k2 ∧ (if k2 = true then td σ H5 fun w2 H6 => r'' w w2 H6 Q else Q (.bl false) H5) else Q (.bl false) H3)
theorem pt_chain3 {X : Cx} {a b c d : Expr} {ta tb tc td : TE} {pos : Pos} {op op' op'' : CmpOp} {r r' r'' : R2} (ho : OpR X (compareOp op) r) (ho' : OpR X (compareOp op') r') (ho'' : OpR X (compareOp op'') r'') (ha : PE X a ta) (hb : PE X b tb) (hc : PE X c tc) (hd : PE X d td)
    (hm : lastMarks [op, op', op''] [b, c, d] = false := by with_unfolding_all rfl) : PT X (.Compare a [op, op', op''] [b, c, d] pos) (tTest (tChain3 r r' r'' ta tb tc td)) := by
  refine ⟨fun pins s σ H Q I h => ?_⟩
  refine isTrue_chain (thn (ha.run pins s σ H _ I h) fun v s1 ⟨x, H1, I1, r1, q1⟩ => ?_) hm
  refine test_link (thn (hb.run pins s1 σ H1 _ I1 q1) fun u s2 ⟨y, H2, I2, r2, q2⟩ => ?_)
  refine thn (ho pins s2 σ H2 x y v u _ I2 r1 r2 q2) fun d1 s3 ⟨z, H3, I3, r3, k, e, q3⟩ => ?_
  subst e
  cases r3
  refine wpAny_truthy_bool ?_
  cases k with
  | false =>
    obtain ⟨_, e', q'⟩ := q3
    cases e'
    exact ite_ff ⟨H3, I3, q'⟩
  | true =>
    refine ite_tt (test_link (thn (hc.run pins s3 σ H3 _ I3 q3) fun w s4 ⟨y2, H4, I4, r4, q4⟩ => ?_))
    refine thn (ho' pins s4 σ H4 y y2 u w _ I4 r2 r4 q4) fun d2 s5 ⟨z2, H5, I5, r5, k2, e2, q5⟩ => ?_
    subst e2
    cases r5
    refine wpAny_truthy_bool ?_
    cases k2 with
    | false =>
      obtain ⟨_, e', q'⟩ := q5
      cases e'
      exact ite_ff ⟨H5, I5, q'⟩
    | true =>
      refine ite_tt (test_last (thn (hd.run pins s5 σ H5 _ I5 q5) fun w2 s6 ⟨y3, H6, I6, r6, q6⟩ => ?_))
      refine thn (ho'' pins s6 σ H6 y2 y3 w w2 _ I6 r4 r6 q6) fun d3 s7 ⟨z3, H7, I7, r7, k3, e3, q7⟩ => ?_
      subst e3
      cases r7
      exact wpAny_truthy_bool ⟨H7, I7, q7⟩
theorem ev_chain3 {σ : L2.St} {H : Hp} {ta tb tc td : TE} {p q g : Int → Int → Bool} {a b c d : Int} (h1 : Ev ta σ H (.int a)) (h2 : Ev tb σ H (.int b)) (h3 : Ev tc σ H (.int c)) (h4 : Ev td σ H (.int d)) : Ev (tChain3 (rI0 fun i j => .bl (p i j)) (rI0 fun i j => .bl (q i j)) (rI0 fun i j => .bl (g i j)) ta tb tc td) σ H (.bl (p a b && (q b c && g c d))) := fun H1 e Q k =>
  h1 H1 e _ fun H2 e2 => h2 H2 (e.trans e2) _ fun H3 e3 => ⟨a, b, rfl, rfl, p a b, rfl, by
    cases hp : p a b with
    | true =>
      show tc σ H3 _
      exact h3 H3 ((e.trans e2).trans e3) _ fun H4 e4 => ⟨b, c, rfl, rfl, q b c, rfl, by
        cases hq : q b c with
        | true =>
          show td σ H4 _
          exact h4 H4 (((e.trans e2).trans e3).trans e4) _ fun H5 e5 => ⟨c, d, rfl, rfl, by
            have z := k H5 (((e2.trans e3).trans e4).trans e5)
            rw [hp, hq, Bool.true_and, Bool.true_and] at z
            exact z⟩
        | false =>
          show Q (.bl false) H4
          have z := k H4 ((e2.trans e3).trans e4)
          rw [hp, hq, Bool.false_and, Bool.and_false] at z
          exact z⟩
    | false =>
      show Q (.bl false) H3
      have z := k H3 (e2.trans e3)
      rw [hp, Bool.false_and] at z
      exact z⟩
/-- the third of a chain is asked only where the first holds -/
theorem ev_chainT {σ : L2.St} {H : Hp} {ta tb tc : TE} {p q : Int → Int → Bool} {a b c : Int} (h1 : Ev ta σ H (.int a)) (h2 : Ev tb σ H (.int b)) (h3 : p a b = true → Ev tc σ H (.int c)) : Ev (tChain (rI0 fun i j => .bl (p i j)) (rI0 fun i j => .bl (q i j)) ta tb tc) σ H (.bl (p a b && q b c)) := fun H1 e Q k =>
  h1 H1 e _ fun H2 e2 => h2 H2 (e.trans e2) _ fun H3 e3 => ⟨a, b, rfl, rfl, p a b, rfl, by
    cases hp : p a b with
    | true =>
      show tc σ H3 _
      exact h3 hp H3 ((e.trans e2).trans e3) _ fun H4 e4 => ⟨b, c, rfl, rfl, by
        have z := k H4 ((e2.trans e3).trans e4)
        rw [hp, Bool.true_and] at z
        exact z⟩
    | false =>
      show Q (.bl false) H3
      have z := k H3 (e2.trans e3)
      rw [hp, Bool.false_and] at z
      exact z⟩
theorem er_chain {mg : Str → Option Value} {W : WX} {xn : Str} {fs : List (Str × V)} {σ : L2.St} {H : Hp} {ta tb tc : TE} {p : Int → Int → Bool} {r : R2} {a b : Int} (h1 : Ev ta σ H (.int a)) (h2 : Ev tb σ H (.int b)) (hp : p a b = true) (h3 : EvErr mg W xn fs tc σ H) : EvErr mg W xn fs (tChain (rI0 fun i j => .bl (p i j)) r ta tb tc) σ H := fun H1 e k Q =>
  h1 H1 e _ fun H2 e2 => h2 H2 (e.trans e2) _ fun H3 e3 => ⟨a, b, rfl, rfl, p a b, rfl, by
    rw [hp]
    show tc σ H3 _
    exact h3 H3 ((e.trans e2).trans e3) (k.fwd (e2.trans e3)) _⟩
/-- a test that raises, at the head of an if -/
theorem s_ifer {mg : Str → Option Value} {W : WX} {xn : Str} {fs : List (Str × V)} {σ : L2.St} {H : Hp} {te : TE} {tu tw : TS} {D : Ends} (h : EvErr mg W xn fs te σ H) (k : RaiseX mg xn fs H (WE W σ)) : tIfS (tNot (tTest te)) tu tw D σ H := h H (Ex.refl H) k _
theorem er_cb {mg : Str → Option Value} {W : WX} {xn : Str} {fs : List (Str × V)} {σ : L2.St} {H : Hp} {te : TE} {r : List V → Hp → VK → Prop} (h : EvErr mg W xn fs te σ H) : EvErr mg W xn fs (tCB r (tCons te tNil)) σ H := fun H1 e k Q => h H1 e k _
end
section
variable {P : Program} {w : World} {K : PySem.W.Frag} {mg : Str → Option Value} {base : Heap}
def rowOk (F0 F1 : List (List Int)) (f r : Int) : Bool := (decide (0 ≤ f) && decide (f ≤ 1)) && (decide (0 ≤ r) && decide (r < ((fieldM F0 F1 f).length : Int)))
def rowR (F0 F1 : List (List Int)) (f r : Int) (P : Hp → V → Prop) : Res := if rowOk F0 F1 f r = true then .ok P else .err "NoField" []
def R_Deal_need_row (K : PySem.W.Frag) (C : Addr) : Rl := ⟨fun vs H r => ∃ (d b : Addr) (F0 F1 : List (List Int)) (kvs : List (Key × V)) (i j : Int), vs = [.ref d, .int i, .int j] ∧ DealK K C H d b F0 F1 kvs ∧ r = rowR F0 F1 i j (is .non), fun e ⟨d, b, F0, F1, kvs, i, j, h1, h2, h3⟩ => ⟨d, b, F0, F1, kvs, i, j, h1, h2.mono e, h3⟩⟩
def rowAt (F0 F1 : List (List Int)) (f r : Int) : List Int := (fieldM F0 F1 f).getD r.toNat []
def cardOk (F0 F1 : List (List Int)) (f r p q : Int) : Bool := decide (0 ≤ p) && (decide (p ≤ q) && decide (q < ((rowAt F0 F1 f r).length : Int)))
def swM (F0 F1 : List (List Int)) (f r p q : Int) : List Int := ((rowAt F0 F1 f r).take (q + 1).toNat).drop p.toNat
def sweptR (F0 F1 : List (List Int)) (f r p q : Int) : Res := if rowOk F0 F1 f r = true then (if cardOk F0 F1 f r p q = true then .ok (pLst ((swM F0 F1 f r p q).map V.int)) else .err "NoCard" []) else .err "NoField" []
def R_Deal_swept (K : PySem.W.Frag) (C : Addr) : Rl := ⟨fun vs H r => ∃ (d b s : Addr) (F0 F1 : List (List Int)) (kvs : List (Key × V)) (i j p q : Int), vs = [.ref d, .ref s] ∧ DealK K C H d b F0 F1 kvs ∧ SqT K H s [.int i, .int j, .int p, .int q] ∧ r = sweptR F0 F1 i j p q, fun e ⟨d, b, s, F0, F1, kvs, i, j, p, q, h1, h2, h3, h4⟩ => ⟨d, b, s, F0, F1, kvs, i, j, p, q, h1, h2.mono e, ex_t e h3, h4⟩⟩
theorem cut_both {xs : List V} {a b : Nat} : cutV xs (some (a : Int)) (some (b : Int)) = (xs.take b).drop a := by
  unfold cutV
  rw [HT.sIx_nat, HT.sIx_nat, List.drop_take]
  by_cases ha : a ≤ xs.length
  · rw [Nat.min_eq_left ha]
    by_cases hb : b ≤ xs.length
    · rw [Nat.min_eq_left hb]
    · rw [Nat.min_eq_right (by omega)]
      rw [List.take_of_length_le (by rw [List.length_drop]; omega), List.take_of_length_le (by rw [List.length_drop]; omega)]
  · rw [Nat.min_eq_right (a := a) (by omega), List.drop_length, List.take_nil, List.drop_of_length_le (by omega), List.take_nil]
theorem row_ok {F0 F1 : List (List Int)} {f r : Int} (h : rowOk F0 F1 f r = true) : (0 ≤ f ∧ f ≤ 1) ∧ 0 ≤ r ∧ r.toNat < (fieldM F0 F1 f).length ∧ (fieldM F0 F1 f)[r.toNat]? = some (rowAt F0 F1 f r) := by
  unfold rowOk at h
  simp only [Bool.and_eq_true, decide_eq_true_eq] at h
  have hl : r.toNat < (fieldM F0 F1 f).length := by omega
  exact ⟨h.1, h.2.1, hl, by unfold rowAt; rw [List.getD_eq_getElem?_getD, List.getElem?_eq_getElem hl]; rfl⟩
theorem DealK.row {C : Addr} {H : Hp} {d b : Addr} {F0 F1 : List (List Int)} {kvs : List (Key × V)} {i j : Int} (T : TDeal K mg C) (h : DealK K C H d b F0 F1 kvs) (ho : rowOk F0 F1 i j = true) : ∃ q, SqL K H q ((rowAt F0 F1 i j).map V.int) ∧ ∀ {σ : L2.St} {G : Hp} {td ti tj : TE}, Ex H G → Ev td σ G (.ref d) → Ev ti σ G (.int i) → Ev tj σ G (.int j) → Ev (tOp (rIx K) (tOp (rIx K) (tFld K td "fields") ti) tj) σ G (.ref q) := by
  obtain ⟨dx, pf, ph, a0, a1, h1, h2, h3, h4, _⟩ := h
  obtain ⟨hi, hj, hl, hrow⟩ := row_ok ho
  obtain ⟨a, ha, hr⟩ : ∃ a, atI [V.ref a0, .ref a1] i = some (.ref a) ∧ Rw K H a (fieldM F0 F1 i) := by
    by_cases z : i = 0
    · subst z
      exact ⟨a0, rfl, h3⟩
    · have : i = 1 := by omega
      subst this
      exact ⟨a1, rfl, h4⟩
  obtain ⟨xs, hS, hR⟩ := hr.rows
  obtain ⟨q, hq, hL⟩ := hR.get hrow
  have e : (j.toNat : Int) = j := by omega
  refine ⟨q, hL, fun e1 hd hi hj => ev_op (ev_op (ev_fld hd (e1 _ _ h1) T.cl T.n_fields rfl) hi (rv_ixLs (sq_of (e1 _ _ h2)) ha)) hj (rv_ixLs (ex_l e1 hS) (by rw [← e]; exact atI_nat hq))⟩
/-- a, b, c, d = a tuple -/
theorem q_unp4 {σ : L2.St} {H : Hp} {Ns : List Hp} {te : TE} {D : Ends} {tz : TS} {a : Addr} {x y z u : V} {i j k l : Nat} (o : Own Ns H) (h : Ev te σ H (.ref a)) (hT : SqT K H a [x, y, z, u]) (q : ∀ H1, Own Ns H1 → tz D ((((σ.set i (some x)).set j (some y)).set k (some z)).set l (some u)) H1) : tSeq (tAsg te (gTup K 4 (gCons (gName i) (gCons (gName j) (gCons (gName k) (gCons (gName l) gNil)))))) tz D σ H :=
  h H (Ex.refl H) _ fun H1 e => ⟨a, _, rfl, ex_t e hT, rfl, x, _, rfl, y, _, rfl, z, _, rfl, u, _, rfl, rfl, q H1 (o.mono e)⟩
theorem q_unp3 {σ : L2.St} {H : Hp} {Ns : List Hp} {te : TE} {D : Ends} {tz : TS} {a : Addr} {x y z : V} {i j k : Nat} (o : Own Ns H) (h : Ev te σ H (.ref a)) (hT : SqT K H a [x, y, z]) (q : ∀ H1, Own Ns H1 → tz D (((σ.set i (some x)).set j (some y)).set k (some z)) H1) : tSeq (tAsg te (gTup K 3 (gCons (gName i) (gCons (gName j) (gCons (gName k) gNil))))) tz D σ H :=
  h H (Ex.refl H) _ fun H1 e => ⟨a, _, rfl, ex_t e hT, rfl, x, _, rfl, y, _, rfl, z, _, rfl, rfl, q H1 (o.mono e)⟩
end
section
variable {P : Program} {w : World} {K : PySem.W.Frag} {mg : Str → Option Value} {base : Heap}
def R__law_meet (K : PySem.W.Frag) : Rl := ⟨fun vs H r => ∃ (v u h : Addr) (ls : List (List Str)) (ns : List Int) (l : List Str), vs = [.ref v, .ref u, .ref h] ∧ Bk K H v ls ∧ Nl K H u ns ∧ Ln K H h l ∧ r = .ok (pNs (meetM ls ns l)), fun e ⟨v, u, h, ls, ns, l, h1, h2, h3, h4, h5⟩ => ⟨v, u, h, ls, ns, l, h1, h2.mono e, h3.mono e, h4.mono e, h5⟩⟩
theorem meetM_eq (ls : List (List Str)) (ns : List Int) (l : List Str) : (picks ls.length fun i => decide ((i : Int) ∈ ns) && begM l (row1 ls i)) = meetM ls ns l := by
  unfold picks meetM leftM
  rw [List.filter_filter]
  congr 1
  funext i
  rw [Bool.and_comm]
end
abbrev s_common : Stmt := topS 26
theorem sc_common : FnScope ["one", "other", "size"] ["one", "other"] (defScope s_common) := ⟨rfl, rfl, rfl, by decide +kernel, rfl, by decide +kernel, by decide +kernel⟩
section
variable {P : Program} {w : World} {K : PySem.W.Frag} {mg : Str → Option Value} {base : Heap}
def comM : List Str → List Str → Nat
  | a :: r, b :: t => if a = b then comM r t + 1 else 0
  | _, _ => 0
theorem comM_le : ∀ a b : List Str, comM a b ≤ min a.length b.length
  | [], _ => by simp [comM]
  | _ :: _, [] => by simp [comM]
  | x :: r, y :: t => by
    have := comM_le r t
    simp only [comM, List.length_cons]
    split <;> omega
theorem comM_same : ∀ (a b : List Str) (n : Nat), n < comM a b → a[n]? = b[n]?
  | [], _, n, h => by simp [comM] at h
  | _ :: _, [], n, h => by simp [comM] at h
  | x :: r, y :: t, n, h => by
    simp only [comM] at h
    split at h
    · rename_i e
      subst e
      cases n with
      | zero => rfl
      | succ n => exact comM_same r t n (by omega)
    · omega
theorem comM_end : ∀ (a b : List Str) (n : Nat), (∀ i, i < n → a[i]? = b[i]?) → n ≤ min a.length b.length → ¬ (n < min a.length b.length ∧ a[n]? = b[n]?) → comM a b = n
  | [], _, n, _, h2, _ => by simp [comM] at *; omega
  | _ :: _, [], n, _, h2, _ => by simp [comM] at *; omega
  | x :: r, y :: t, n, h1, h2, h3 => by
    cases n with
    | zero =>
      have hne : ¬ x = y := fun e => h3 ⟨by simp only [List.length_cons]; omega, by rw [e]; rfl⟩
      simp only [comM, if_neg hne]
    | succ n =>
      have e : x = y := by simpa using h1 0 (by omega)
      have ih := comM_end r t n (fun i hi => by simpa using h1 (i + 1) (by omega)) (by simp only [List.length_cons] at h2; omega) (fun ⟨z1, z2⟩ => h3 ⟨by simp only [List.length_cons]; omega, by simpa using z2⟩)
      simp only [comM, if_pos e, ih]
def R_common (K : PySem.W.Frag) : Rl := ⟨fun vs H r => ∃ (p q : Addr) (a b : List Str), vs = [.ref p, .ref q] ∧ Ln K H p a ∧ Ln K H q b ∧ r = .ok (is (.int (comM a b : Nat))), fun e ⟨p, q, a, b, h1, h2, h3, h4⟩ => ⟨p, q, a, b, h1, h2.mono e, h3.mono e, h4⟩⟩
theorem ok_common (B : Bt mg) (D : Df K mg "common" s_common ["one", "other"]) : Ok P w K mg base 1 "common" ["one", "other"] ((R_common K).sp mg) := by
  refine D.ok sc_common (fun vs H Q E h => ?_) (fun f cdv A outer s H vs Q E hr h => ?_)
  · obtain ⟨r, ⟨p, q, a, b, rfl, _⟩, _⟩ := h
    rfl
  · obtain ⟨r, ⟨p, q, a, b, rfl, hA, hB, rfl⟩, k⟩ := h
    refine ⟨_, (pss_cons (ps_set (i := 2) sc_common.nd rfl (.inl rfl) pe_int)
      (pss_cons (ps_while (passes_of rfl) (PW.pt (pw_and (pt_cmpR op_lt (pv 2) (pe_callB (call_min2 rfl) (by rfl) B.min boot_b_min (pa_cons (pe_callB (call_lenK K) (by rfl) B.len boot_b_len (pa_cons (pv 0) pa_nil)) (pa_cons (pe_callB (call_lenK K) (by rfl) B.len boot_b_len (pa_cons (pv 1) pa_nil)) pa_nil))) (nomark _)) (pw_and1 (pt_cmpR (op_eqK K (hu65 hr)) (pe_ix (ix_seqK K) (pv 0) (pv 2) (fun _ _ => rfl)) (pe_ix (ix_seqK K) (pv 1) (pv 2) (fun _ _ => rfl)) (nomark _)))))
        (pss_one (ps_aug (i := 2) sc_common.nd rfl (.inl rfl) pe_int ip_add)))
      (pss_one (ps_ret (pv 2))))), ?_⟩
    refine q_v (v := .int ((0 : Nat) : Int)) (Own.one H) ev_c fun H1 o => ?_
    refine q_wl (fun m σ H' => ∃ n : Nat, σ = [some (.ref p), some (.ref q), some (.int (n : Nat))] ∧ Own [H] H' ∧ (∀ i, i < n → a[i]? = b[i]?) ∧ n ≤ min a.length b.length ∧ m = min a.length b.length - n) (min a.length b.length) ⟨0, rfl, o, fun i hi => absurd hi (Nat.not_lt_zero _), Nat.zero_le _, rfl⟩ ?_
    rintro m σ H' ⟨n, rfl, o, h1, h2, hm⟩
    have em : min (((a.map V.str).length : Nat) : Int) (((b.map V.str).length : Nat) : Int) = ((min a.length b.length : Nat) : Int) := by rw [List.length_map, List.length_map]; omega
    refine ⟨decide (n < min a.length b.length) && decide (a[n]? = b[n]?), et_is (et_and (a := decide (n < min a.length b.length)) (b := decide (a[n]? = b[n]?)) (et_is (et_test (ev_op (ev_var rfl) (ev_cb (ea_cons (ev_cb (by wtm_at "ev") (rc_lenL (ex_l o.e0 hA.1))) (ea_cons (ev_cb (by wtm_at "ev") (rc_lenL (ex_l o.e0 hB.1))) ea_nil)) rc_min2) rv_I0)) ?_) fun hlt => ?_) rfl, fun hb H1 e => ?_, fun hb H1 e => ?_⟩
    · rw [em]
      by_cases h : n < min a.length b.length
      · rw [decide_eq_true h]; exact decide_eq_true (by omega)
      · rw [decide_eq_false h]; exact decide_eq_false (by omega)
    · have hlt := of_decide_eq_true hlt
      have ha : n < a.length := by omega
      have hb : n < b.length := by omega
      have e1 := List.getElem?_eq_getElem ha
      have e2 := List.getElem?_eq_getElem hb
      have a1 : atI (a.map V.str) ((n : Nat) : Int) = some (.str a[n]) := atI_nat (by rw [List.getElem?_map, e1]; rfl)
      have a2 : atI (b.map V.str) ((n : Nat) : Int) = some (.str b[n]) := atI_nat (by rw [List.getElem?_map, e2]; rfl)
      refine et_is (et_test (ev_op (ev_op (ev_var rfl) (ev_var rfl) (rv_ixLs (ex_l o.e0 hA.1) a1)) (ev_op (ev_var rfl) (ev_var rfl) (rv_ixLs (ex_l o.e0 hB.1) a2)) rv_eqT)) ?_
      rw [e1, e2]
      simp
    · simp only [Bool.and_eq_true, decide_eq_true_eq] at hb
      refine s_aug (a := (n : Int)) (b := 1) rfl ev_c fun H2 e2 => ⟨min a.length b.length - (n + 1), by omega, n + 1, rfl, (o.mono e).mono e2, fun i hi => ?_, by omega, rfl⟩
      rcases Nat.lt_succ_iff_lt_or_eq.mp hi with z | z
      · exact h1 i z
      · rw [z]; exact hb.2
    · have hb : ¬ (n < min a.length b.length ∧ a[n]? = b[n]?) := fun ⟨z1, z2⟩ => by rw [decide_eq_true z1, decide_eq_true z2] at hb; cases hb
      refine s_rv (o.mono e) (ev_var rfl) fun H2 o => o.retV k (j := 0) rfl ?_
      rw [comM_end a b n h1 h2 hb]
end
abbrev s_sizes : Stmt := topS 27
theorem sc_sizes : FnScope ["book", "unread", "verse", "line", "others", "number"] ["book", "unread", "verse"] (defScope s_sizes) := ⟨rfl, rfl, rfl, by decide +kernel, rfl, by decide +kernel, by decide +kernel⟩
section
variable {P : Program} {w : World} {K : PySem.W.Frag} {mg : Str → Option Value} {base : Heap}
def R_shared (K : PySem.W.Frag) (C : Addr) : Rl := ⟨fun vs H r => ∃ (b : Addr) (ls : List (List Str)) (i j : Int), vs = [.ref b, .int i, .int j] ∧ BookAt K C H b ls ∧ r = okR ls.length [i, j] (is (.int (comM (row1 ls i.toNat) (row1 ls j.toNat) : Nat))), fun e ⟨b, ls, i, j, h1, h2, h3⟩ => ⟨b, ls, i, j, h1, h2.mono e, h3⟩⟩
theorem okN_cons {m : Nat} {i : Int} {ns : List Int} : okN m (i :: ns) = ((decide (0 ≤ i) && decide (i < (m : Int))) && okN m ns) := rfl
theorem verseR_i {ls : List (List Str)} {i : Int} (h : (decide (0 ≤ i) && decide (i < (ls.length : Int))) = true) : verseR ls i = .ok (pLine (row1 ls i.toNat)) ∧ i.toNat < ls.length ∧ i = (i.toNat : Int) := by
  simp only [Bool.and_eq_true, decide_eq_true_eq] at h
  unfold verseR
  exact ⟨if_pos h, by omega, by omega⟩
theorem verseR_no {ls : List (List Str)} {i : Int} (h : (decide (0 ≤ i) && decide (i < (ls.length : Int))) = false) : verseR ls i = .err "NoVerse" [] := by
  unfold verseR
  refine if_neg fun z => ?_
  rw [decide_eq_true z.1, decide_eq_true z.2] at h
  cases h
abbrev eP2 (q : Nat × Nat) : List V := [.int (q.1 : Nat), .int (q.2 : Nat)]
def CN (N : Hp) (xs : List V) (acc : List (Nat × Nat)) : Prop := Paired (fun x q => ∃ t, x = V.ref t ∧ N t = some (.tup (eP2 q))) xs acc
abbrev pPrs (acc : List (Nat × Nat)) : Hp → V → Prop := fun N v => ∃ p xs, v = .ref p ∧ N p = some (.lst xs) ∧ CN N xs acc
def sizeM (ls : List (List Str)) (ns : List Int) (v : Nat) : List (Nat × Nat) := ((leftM ls.length ns).filter fun i => !decide (i = v)).map fun i => (i, comM (row1 ls v) (row1 ls i))
def R_sizes (K : PySem.W.Frag) (C : Addr) : Rl := ⟨fun vs H r => ∃ (b u : Addr) (ls : List (List Str)) (ns : List Int) (i : Int), vs = [.ref b, .ref u, .int i] ∧ BookAt K C H b ls ∧ Nl K H u ns ∧ r = okR ls.length (i :: ns) (pPrs (sizeM ls ns i.toNat)), fun e ⟨b, u, ls, ns, i, h1, h2, h3, h4⟩ => ⟨b, u, ls, ns, i, h1, h2.mono e, h3.mono e, h4⟩⟩
theorem ep_tup2 {σ : L2.St} {H : Hp} {ta tb : TE} {x y : V} (h1 : Ev ta σ H x) (h2 : Ev tb σ H y) : EvP (tTup (tCons ta (tCons tb tNil))) σ H (pTup [x, y]) := ep_tup (ea_cons h1 (ea_cons h2 ea_nil))
theorem ok_sizes (B : Bt mg) {C_Book : Addr} (O_Book_verse : OkM P w K mg base 1 C_Book "verse" ["self", "number"] ((R_Book_verse K C_Book).sp mg)) (O_need_numbers : Ok P w K mg base 2 "need_numbers" ["book", "numbers"] ((R_need_numbers K C_Book).sp mg)) (O_left : Ok P w K mg base 3 "left" ["book", "unread"] ((R_left K C_Book).sp mg)) (O_common : Ok P w K mg base 1 "common" ["one", "other"] ((R_common K).sp mg)) (D : Df K mg "sizes" s_sizes ["book", "unread", "verse"]) : Ok P w K mg base 4 "sizes" ["book", "unread", "verse"] ((R_sizes K C_Book).sp mg) := by
  refine D.ok sc_sizes (fun vs H Q E h => ?_) (fun f cdv A outer s H vs Q E hr h => ?_)
  · obtain ⟨r, ⟨b, u, ls, ns, i, rfl, _⟩, _⟩ := h
    rfl
  · obtain ⟨r, ⟨b, u, ls, ns, i, rfl, hB, hN, rfl⟩, k⟩ := h
    refine ⟨_, (pss_cons (ps_expr (pe_callO O_need_numbers (hr.mono (by omega)) (by rfl) (takes_of rfl rfl rfl rfl) (pa_cons (pv 0) (pa_cons (pe_lst (pa_cons (pv 2) pa_nil)) pa_nil))))
      (pss_cons (ps_set (i := 3) sc_sizes.nd rfl (.inr rfl) (pe_methO O_Book_verse (pv 0) (hr.mono (by omega)) (takes_of rfl rfl rfl rfl) (pa_cons (pv 2) pa_nil)))
      (pss_cons (ps_setLc (i := 4) (own := [("number", 5)]) rfl sc_sizes.nd rfl rfl (sw_true rfl rfl rfl (by decide +kernel)) (pi_listK K (pe_callO O_left (hr.mono (by omega)) (by rfl) (takes_of rfl rfl rfl rfl) (pa_cons (pv 0) (pa_cons (pv 1) pa_nil)))) (blkOk_by (N := ["book", "unread", "verse", "line", "others", "number"]) (sc := defScope s_sizes) (by decide +kernel)) (fun _ _ _ _ _ => (pg_name (i := 5) sc_sizes.nd rfl (.inl rfl))) (fun _ _ _ _ _ => pts_one (pt_cmpR (op_neK K (hu65 hr)) (pv 5) (pv 2) (nomark _))) (fun _ _ _ _ _ => (pv 5)))
      (pss_one (ps_ret (pe_lc (own := [("number", 5)]) rfl sc_sizes.nd (pi_listK K (pv 4)) (blkOk_by (N := ["book", "unread", "verse", "line", "others", "number"]) (sc := defScope s_sizes) (by decide +kernel)) (fun _ _ _ _ _ => (pg_name (i := 5) sc_sizes.nd rfl (.inl rfl))) (fun _ _ _ _ _ => pts_nil) (fun _ _ _ _ _ => (pe_tup (pa_cons (pv 5) (pa_cons (pe_callO O_common (hr.mono (by omega)) (by rfl) takes0 (pa_cons (pv 3) (pa_cons (pe_methO O_Book_verse (pv 0) (hr.mono (by omega)) takes0 (pa_cons (pv 5) pa_nil)) pa_nil))) pa_nil)))))))))), ?_⟩
    have hln := book_len hB
    have arg : EvPs (tCons (tVar 0) (tCons (tLst (tCons (tVar 2) tNil)) tNil)) [some (.ref b), some (.ref u), some (.int i), none, none, none] H [is (.ref b), pLst [.int i]] := eps_cons (ep_v (ev_var rfl)) (eps_cons (ep_lst (ea_cons (ev_var rfl) ea_nil)) eps_nil)
    have argR : ∀ vs H1, Ex H H1 → All2 H1 [is (.ref b), pLst [.int i]] vs → ∀ r, r = okR ls.length [i] (is .non) → (R_need_numbers K C_Book).R vs H1 r := fun vs H1 e ha r hr => by
      obtain ⟨x, y, rfl, ⟨_, _, h1⟩, N2, i2, c2, rfl, h2⟩ := all2_two ha
      have h1 : x = .ref b := h1
      subst h1
      exact ⟨b, c2, ls, [i], rfl, hB.mono e, ⟨sq_of (i2 _ _ h2), Nat.le_of_ble_eq_true rfl⟩, hr⟩
    cases hi : (decide (0 ≤ i) && decide (i < (ls.length : Int))) with
    | false =>
      rw [okR_no (by rw [okN_cons, hi, Bool.false_and])] at k
      exact q_der (er_callN (S := R_need_numbers K C_Book) arg fun vs H1 e ha => argR vs H1 e ha _ (okR_no (by rw [okN_cons, hi, Bool.false_and])).symm) k
    | true =>
      obtain ⟨e1, hi1, hi2⟩ := verseR_i hi
      refine q_dv (Own.one H) (ep_callN (S := R_need_numbers K C_Book) (P := is .non) arg fun vs H1 e ha => argR vs H1 e ha _ (okR_ok (by rw [okN_cons, hi]; rfl)).symm) fun H1 o => ?_
      have hB1 := hB.mono o.e0
      obtain ⟨dx, pp, hbi, hbp⟩ := id hB1.1
      refine q_n (P := pLine (row1 ls i.toNat)) o (ep_meth (S := R_Book_verse K C_Book) (ev_var rfl) hbi rfl (ea_cons (ev_var rfl) ea_nil) ⟨b, ls, i, rfl, hB1, e1.symm⟩) fun v H1 Nl o hp => ?_
      obtain ⟨c, rfl, hc⟩ := hp
      cases hok : okN ls.length ns with
      | false =>
        rw [okR_no (by rw [okN_cons, hi, hok]; rfl)] at k
        exact q_er (er_lc (er_call (S := R_left K C_Book) (vs := [.ref b, .ref u]) (by wtm_at "ev") ⟨b, u, ls, ns, rfl, hB.mono o.e1, hN.mono o.e1, (okR_no hok).symm⟩)) (k.fwd o.e1)
      | true =>
        rw [okR_ok (by rw [okN_cons, hi, hok]; rfl)] at k
        have hll := leftM_len ls.length ns
        refine q_l (xs := nsV ((leftM ls.length ns).filter fun j => !decide (j = i.toNat))) o (el_is (el_lcOf (ej_list (xs := nsV (leftM ls.length ns)) (el_p (ep_call (S := R_left K C_Book) (vs := [.ref b, .ref u]) (by wtm_at "ev") ⟨b, u, ls, ns, rfl, hB.mono o.e1, hN.mono o.e1, (okR_ok hok).symm⟩))) fun J H2 N e2 i2 dr => el_lcX (fun x => [some (.ref b), some (.ref u), some (.int i), some (.ref c), none, some x]) (onN fun j => !decide (j = i.toNat)) (fun x => x) (ei_at dr) i2 (by rw [List.length_map]; omega) (fun _ _ _ _ q => q) (fun _ => rfl) ?_ (fun x H3 e3 hx _ => ev_var rfl)) ?_) fun po H1 o => ?_
        · intro x H3 e3 hx
          obtain ⟨j, hj, rfl⟩ := List.mem_map.mp hx
          refine et_is (et_test (ev_op (ev_var rfl) (ev_var rfl) rv_neI)) ?_
          show (!decide (((j : Nat) : Int) = i)) = !decide (j = i.toNat)
          by_cases h : j = i.toNat
          · rw [decide_eq_true h, decide_eq_true (by omega)]
          · rw [decide_eq_false h, decide_eq_false (by omega)]
        · rw [List.map_id']
          exact filter_nsV _ _
        · have hol : ((leftM ls.length ns).filter fun j => !decide (j = i.toNat)).length ≤ ls.length := Nat.le_trans (List.length_filter_le _ _) hll
          have hom : ∀ j ∈ (leftM ls.length ns).filter fun j => !decide (j = i.toNat), j < ls.length := fun j hj => leftM_lt (List.mem_filter.mp hj).1
          have esz : sizeM ls ns i.toNat = ((leftM ls.length ns).filter fun j => !decide (j = i.toNat)).map fun j => (j, comM (row1 ls i.toNat) (row1 ls j)) := rfl
          rw [esz] at k
          generalize ((leftM ls.length ns).filter fun j => !decide (j = i.toNat)) = os at hol hom k o
          have hBo := hB.mono o.e2
          obtain ⟨dx, pp, hbi, hbp⟩ := id hBo.1
          refine s_rn o (ep_imp (ep_lc (n := (nsV os).length) (fun j => [some (.ref b), some (.ref u), some (.int i), some (.ref c), some (.ref po), some ((nsV os).getD j .non)]) (fun _ => true) (fun j N v => ∃ t, v = .ref t ∧ N t = some (.tup (eP2 (os.getD j 0, comM (row1 ls i.toNat) (row1 ls (os.getD j 0)))))) (fun j N N' v e ⟨t, h1, h2⟩ => ⟨t, h1, e _ _ h2⟩) (ei_list (ev_var rfl) (sq_of (o.e0 _ _ sing_at)) (Ex.refl _)) (Ex.refl _) (by rw [List.length_map]; omega) (fun j x H' _ hx Q q => by rw [getD_of hx] at q; exact q) (fun _ _ => rfl) (fun _ _ _ _ => et_yes) (fun j H2 e2 hj _ => ?_)) ?_) fun v H1 N o p => o.ret k (i := 0) (j := 3) rfl rfl p
          · rw [List.length_map] at hj
            have g1 : os[j]? = some os[j] := List.getElem?_eq_getElem hj
            have g2 : os.getD j 0 = os[j] := by rw [List.getD_eq_getElem?_getD, g1]; rfl
            have g3 : (nsV os).getD j .non = .int ((os[j] : Nat) : Int) := by rw [List.getD_eq_getElem?_getD, List.getElem?_map, g1]; rfl
            rw [g2, g3]
            have hj2 := hom _ (List.getElem_mem hj)
            refine ep_tup2 (ev_var rfl) (ev_callN (S := R_common K) (eps_cons (ep_v (ev_var rfl)) (eps_cons (P := pLine (row1 ls os[j])) (ep_meth (S := R_Book_verse K C_Book) (ev_var rfl) (e2 _ _ hbi) rfl (ea_cons (ev_var rfl) ea_nil) ⟨b, ls, ((os[j] : Nat) : Int), rfl, hBo.mono e2, (verseR_ok hj2).symm⟩) eps_nil)) fun vs H4 e4 ha => ?_)
            obtain ⟨x, y, rfl, ⟨_, _, h1⟩, N2, i2, c2, rfl, h2⟩ := all2_two ha
            have h1 : x = .ref c := h1
            subst h1
            exact ⟨c, c2, _, _, rfl, ⟨sq_of (e4 _ _ (e2 _ _ (o.e1 _ _ hc))), hbp.2.2 _ (row1_mem hi1)⟩, ⟨sq_of (i2 _ _ h2), hbp.2.2 _ (row1_mem hj2)⟩, rfl⟩
          · rintro N v ⟨p, xs, rfl, hp, hpr⟩
            refine ⟨p, xs, rfl, hp, ?_⟩
            rw [picks_all] at hpr
            have hlx := Paired.length hpr
            rw [List.length_range, List.length_map] at hlx
            refine paired_of (by rw [List.length_map]; omega) fun j x q h1 h2 => ?_
            rw [List.getElem?_map] at h2
            have hj : j < os.length := by
              have := (List.getElem?_eq_some_iff.mp h1).1
              omega
            have g1 : os[j]? = some os[j] := List.getElem?_eq_getElem hj
            have g2 : os.getD j 0 = os[j] := by rw [List.getD_eq_getElem?_getD, g1]; rfl
            obtain ⟨x', h3, t, h4, h5⟩ := paired_get hpr (i := j) (x := j) (List.getElem?_range (by rw [List.length_map]; exact hj))
            rw [h1] at h3
            cases h3
            rw [g1] at h2
            obtain rfl := Option.some.inj h2
            rw [g2] at h5
            exact ⟨t, h4, h5⟩
end
section
variable {P : Program} {w : World} {K : PySem.W.Frag} {mg : Str → Option Value} {base : Heap}
def rivM (ls : List (List Str)) (ns : List Int) (v : Nat) (sz : Int) : List Nat := ((sizeM ls ns v).filter fun q => decide ((q.2 : Int) ≥ sz)).map (·.1)
def decM (ls : List (List Str)) (ns : List Int) (v : Nat) : Nat := maxD 0 ((sizeM ls ns v).map fun q => q.2 + 1)
theorem sizeM_len (ls : List (List Str)) (ns : List Int) (v : Nat) : (sizeM ls ns v).length ≤ ls.length := by
  unfold sizeM
  rw [List.length_map]
  exact Nat.le_trans (List.length_filter_le _ _) (leftM_len _ _)
/-- a comprehension over new pairs of numbers -/
theorem el_prs {σ : L2.St} {H : Hp} {tl te : TE} {g : TG} {tt : TT} {vs : List Nat} {acc : List (Nat × Nat)} (S : Nat × Nat → L2.St) (f : Nat × Nat → Bool) (v : Nat × Nat → V) (h : EvP tl σ H (pPrs acc)) (hl : acc.length ≤ 1000)
    (hg : ∀ q T H' (Q : L2.St → Hp → Prop), SqT K H' T (eP2 q) → Q (S q) H' → g (.ref T) (wipe σ vs) H' Q) (hw : ∀ q, wipe (S q) vs = wipe σ vs) (ht : ∀ q H1, q ∈ acc → EvT tt (S q) H1 (f q)) (he : ∀ q H1, q ∈ acc → f q = true → Ev te (S q) H1 (v q)) : EvL (tLc (iList K tl) g tt te vs) σ H ((acc.filter f).map v) := by
  rw [← picks_getD acc (0, 0) f v]
  refine el_lcP (X := fun xs N => CN N xs acc) h fun J H2 N xs e2 i2 hX dr => ?_
  have hlen := Paired.length hX
  have mem : ∀ {j : Nat}, j < acc.length → acc.getD j (0, 0) ∈ acc := fun hj => by
    rw [List.getD_eq_getElem?_getD, List.getElem?_eq_getElem hj]
    exact List.getElem_mem hj
  rw [hlen] at dr
  refine el_lc (n := acc.length) (fun j => S (acc.getD j (0, 0))) (fun j => f (acc.getD j (0, 0))) (fun j => v (acc.getD j (0, 0))) (ei_at (drw_ex dr)) i2 (by omega) ?_ (fun j _ => hw _) (fun j H3 e3 hj => ht _ H3 (mem hj)) (fun j H3 e3 hj hf => he _ H3 (mem hj) hf)
  rintro j x H' hj ⟨hx, eN⟩ Q q
  obtain ⟨p, hp, t, rfl, hT⟩ := paired_get hX hx
  have e1 : acc.getD j (0, 0) = p := by rw [List.getD_eq_getElem?_getD, hp]; rfl
  rw [e1] at q
  exact hg p t H' Q (st_of (eN _ _ hT)) q
def R_rivals (K : PySem.W.Frag) (C : Addr) : Rl := ⟨fun vs H r => ∃ (b u : Addr) (ls : List (List Str)) (ns : List Int) (i sz : Int), vs = [.ref b, .ref u, .int i, .int sz] ∧ BookAt K C H b ls ∧ Nl K H u ns ∧ r = okR ls.length (i :: ns) (pNs (rivM ls ns i.toNat sz)), fun e ⟨b, u, ls, ns, i, sz, h1, h2, h3, h4⟩ => ⟨b, u, ls, ns, i, sz, h1, h2.mono e, h3.mono e, h4⟩⟩
def R_deciding_size (K : PySem.W.Frag) (C : Addr) : Rl := ⟨fun vs H r => ∃ (b u : Addr) (ls : List (List Str)) (ns : List Int) (i : Int), vs = [.ref b, .ref u, .int i] ∧ BookAt K C H b ls ∧ Nl K H u ns ∧ r = okR ls.length (i :: ns) (is (.int (decM ls ns i.toNat : Nat))), fun e ⟨b, u, ls, ns, i, h1, h2, h3, h4⟩ => ⟨b, u, ls, ns, i, h1, h2.mono e, h3.mono e, h4⟩⟩
theorem er_cKw {mg : Str → Option Value} {W : WX} {xn : Str} {fs : List (Str × V)} {σ : L2.St} {H : Hp} {te : TE} {tk : TA} {r : List V → List V → Hp → VK → Prop} (h : EvErr mg W xn fs te σ H) : EvErr mg W xn fs (tCKw r (tCons te tNil) tk) σ H := fun H1 e q Q => h H1 e q _
end
abbrev s__law_share : Stmt := topS 46
theorem sc__law_share : FnScope ["_law_verses", "_law_one", "_law_other", "_law_size", "_law_pairs"] ["_law_verses", "_law_one", "_law_other"] (defScope s__law_share) := ⟨rfl, rfl, rfl, by decide +kernel, rfl, by decide +kernel, by decide +kernel⟩
section
variable {P : Program} {w : World} {K : PySem.W.Frag} {mg : Str → Option Value} {base : Heap}
def R__law_share (K : PySem.W.Frag) : Rl := ⟨fun vs H r => ∃ (v : Addr) (ls : List (List Str)) (i j : Nat), vs = [.ref v, .int (i : Nat), .int (j : Nat)] ∧ Bk K H v ls ∧ i < ls.length ∧ j < ls.length ∧ r = .ok (is (.int (comM (row1 ls i) (row1 ls j) : Nat))), fun e ⟨v, ls, i, j, h1, h2, h3⟩ => ⟨v, ls, i, j, h1, h2.mono e, h3⟩⟩
theorem ok__law_share (B : Bt mg) (D : Df K mg "_law_share" s__law_share ["_law_verses", "_law_one", "_law_other"]) : Ok P w K mg base 1 "_law_share" ["_law_verses", "_law_one", "_law_other"] ((R__law_share K).sp mg) := by
  refine D.ok sc__law_share (fun vs H Q E h => ?_) (fun f cdv A outer s H vs Q E hr h => ?_)
  · obtain ⟨r, ⟨v, ls, i, j, rfl, _⟩, _⟩ := h
    rfl
  · obtain ⟨r, ⟨v, ls, i, j, rfl, hB, hi, hj, rfl⟩, k⟩ := h
    refine ⟨_, (pss_cons (ps_set (i := 3) sc__law_share.nd rfl (.inl rfl) pe_int)
      (pss_cons (ps_set (i := 4) sc__law_share.nd rfl (.inl rfl) (pe_listZip K rfl (by rfl) B.list (by rfl) B.zip (pa_cons (pe_ix (ix_seqK K) (pv 0) (pv 1) (fun _ _ => rfl)) (pa_cons (pe_ix (ix_seqK K) (pv 0) (pv 2) (fun _ _ => rfl)) pa_nil))))
      (pss_cons (ps_while (passes_of rfl) (PW.pt (pw_and (pt_cmpR op_lt (pv 3) (pe_callB (call_lenK K) (by rfl) B.len boot_b_len (pa_cons (pv 4) pa_nil)) (nomark _)) (pw_and1 (pt_cmpR (op_eqK K (hu65 hr)) (pe_ix (ix_seqK K) (pe_ix (ix_seqK K) (pv 4) (pv 3) (fun _ _ => rfl)) pe_int (fun _ _ => rfl)) (pe_ix (ix_seqK K) (pe_ix (ix_seqK K) (pv 4) (pv 3) (fun _ _ => rfl)) pe_int (fun _ _ => rfl)) (nomark _)))))
        (pss_one (ps_aug (i := 3) sc__law_share.nd rfl (.inl rfl) pe_int ip_add)))
      (pss_one (ps_ret (pv 3)))))), ?_⟩
    obtain ⟨xs, hS, hR⟩ := hB.rows
    obtain ⟨c1, hc1, hL1⟩ := hB.row hR hi
    obtain ⟨c2, hc2, hL2⟩ := hB.row hR hj
    have hla := hL1.2.1
    have hlb := hL2.2.1
    generalize row1 ls i = a at hL1 hla k
    generalize row1 ls j = b at hL2 hlb k
    refine q_v (v := .int ((0 : Nat) : Int)) (Own.one H) ev_c fun H1 o => ?_
    refine q_n (P := pZip (a.map V.str) (b.map V.str)) o (ep_listZip (K := K) (ea_cons (ev_op (ev_var rfl) (ev_var rfl) (rv_ixLs (ex_l o.e0 hS) (atI_nat hc1))) (ea_cons (ev_op (ev_var rfl) (ev_var rfl) (rv_ixLs (ex_l o.e0 hS) (atI_nat hc2))) ea_nil)) (ex_l o.e0 hL1.1) (ex_l o.e0 hL2.1)) fun vp H2 N4 o hp => ?_
    obtain ⟨p, ts, rfl, hp, hpr⟩ := hp
    have htl : ts.length = min a.length b.length := by rw [Paired.length hpr, List.length_zip, List.length_map, List.length_map]
    have o : Own [N4, H] H2 := o
    refine q_wl (fun m σ H' => ∃ n : Nat, σ = [some (.ref v), some (.int (i : Nat)), some (.int (j : Nat)), some (.int (n : Nat)), some (.ref p)] ∧ Own [N4, H] H' ∧ (∀ i, i < n → a[i]? = b[i]?) ∧ n ≤ min a.length b.length ∧ m = min a.length b.length - n) (min a.length b.length) ⟨0, rfl, o, fun i hi => absurd hi (Nat.not_lt_zero _), Nat.zero_le _, rfl⟩ ?_
    rintro m σ H' ⟨n, rfl, o, h1, h2, hm⟩
    refine ⟨decide (n < min a.length b.length) && decide (a[n]? = b[n]?), et_is (et_and (a := decide (n < min a.length b.length)) (b := decide (a[n]? = b[n]?)) (et_is (et_test (ev_op (ev_var rfl) (ev_cb (by wtm_at "ev") (rc_lenL (sq_of (o.e0 _ _ hp)))) rv_I0)) ?_) fun hlt => ?_) rfl, fun hb H1 e => ?_, fun hb H1 e => ?_⟩
    · rw [List.length_map, htl]
      by_cases h : n < min a.length b.length
      · rw [decide_eq_true h]; exact decide_eq_true (by omega)
      · rw [decide_eq_false h]; exact decide_eq_false (by omega)
    · have hlt := of_decide_eq_true hlt
      have e1 := List.getElem?_eq_getElem (show n < a.length by omega)
      have e2 := List.getElem?_eq_getElem (show n < b.length by omega)
      have hz : ((a.map V.str).zip (b.map V.str))[n]? = some (V.str a[n], V.str b[n]) := List.getElem?_zip_eq_some.mpr ⟨by rw [List.getElem?_map, e1]; rfl, by rw [List.getElem?_map, e2]; rfl⟩
      have ht : ts[n]? = some ts[n] := List.getElem?_eq_getElem (by omega)
      obtain ⟨q, hq, hT⟩ := LiI.paired_get hpr ht
      rw [hz] at hq
      cases hq
      have at0 : atI (ts.map V.ref) ((n : Nat) : Int) = some (.ref ts[n]) := atI_nat (by rw [List.getElem?_map, ht]; rfl)
      have hT1 : SqT K H' ts[n] [V.str a[n], V.str b[n]] := st_of (o.e0 _ _ hT)
      refine et_is (et_test (ev_op (ev_op (ev_op (ev_var rfl) (ev_var rfl) (rv_ixLs (sq_of (o.e0 _ _ hp)) at0)) ev_c (rv_ixTs hT1 rfl)) (ev_op (ev_op (ev_var rfl) (ev_var rfl) (rv_ixLs (sq_of (o.e0 _ _ hp)) at0)) ev_c (rv_ixTs hT1 rfl)) rv_eqT)) ?_
      rw [e1, e2]
      simp
    · simp only [Bool.and_eq_true, decide_eq_true_eq] at hb
      refine s_aug (a := (n : Int)) (b := 1) rfl ev_c fun H2 e2 => ⟨min a.length b.length - (n + 1), by omega, n + 1, rfl, (o.mono e).mono e2, fun i hi => ?_, by omega, rfl⟩
      rcases Nat.lt_succ_iff_lt_or_eq.mp hi with z | z
      · exact h1 i z
      · rw [z]; exact hb.2
    · have hb : ¬ (n < min a.length b.length ∧ a[n]? = b[n]?) := fun ⟨z1, z2⟩ => by rw [decide_eq_true z1, decide_eq_true z2] at hb; cases hb
      refine s_rv (o.mono e) (ev_var rfl) fun H2 o => o.retV k (j := 1) rfl ?_
      rw [comM_end a b n h1 h2 hb]
theorem comM_comm : ∀ a b : List Str, comM a b = comM b a
  | [], [] => rfl
  | [], _ :: _ => rfl
  | _ :: _, [] => rfl
  | x :: r, y :: t => by
    simp only [comM]
    by_cases h : x = y
    · rw [if_pos h, if_pos h.symm, comM_comm r t]
    · rw [if_neg h, if_neg (fun e => h e.symm)]
end
section
variable {P : Program} {w : World} {K : PySem.W.Frag} {mg : Str → Option Value} {base : Heap}
theorem rivM_eq (ls : List (List Str)) (ns : List Int) (v : Nat) (sz : Int) : rivM ls ns v sz = ((List.range ls.length).filter fun (i : Nat) => decide ((i : Int) ∈ ns) && !decide (i = v)).filter fun i => decide (((comM (row1 ls v) (row1 ls i) : Nat) : Int) ≥ sz) := by
  unfold rivM sizeM leftM
  rw [List.filter_map, List.map_map, List.filter_filter (l := List.range ls.length)]
  have e : (List.range ls.length).filter (fun a => (!decide (a = v)) && decide ((a : Int) ∈ ns)) = (List.range ls.length).filter fun (i : Nat) => decide ((i : Int) ∈ ns) && !decide (i = v) := List.filter_congr fun i _ => Bool.and_comm _ _
  rw [e]
  show ((((List.range ls.length).filter fun (i : Nat) => decide ((i : Int) ∈ ns) && !decide (i = v)).filter fun i => decide (((comM (row1 ls v) (row1 ls i) : Nat) : Int) ≥ sz)).map fun i => i) = _
  rw [List.map_id']
def R__law_rivals (K : PySem.W.Frag) : Rl := ⟨fun vs H r => ∃ (v u : Addr) (ls : List (List Str)) (ns : List Int) (i : Nat) (sz : Int), vs = [.ref v, .ref u, .int (i : Nat), .int sz] ∧ Bk K H v ls ∧ SqL K H u (ns.map V.int) ∧ i < ls.length ∧ r = .ok (pNs (rivM ls ns i sz)), fun e ⟨v, u, ls, ns, i, sz, h1, h2, h3, h4⟩ => ⟨v, u, ls, ns, i, sz, h1, h2.mono e, ex_l e h3, h4⟩⟩
def R__law_some_verse (K : PySem.W.Frag) : Rl := ⟨fun vs H r => ∃ (v u : Addr) (ls : List (List Str)) (us : List Nat) (n : Int), vs = [.ref v, .ref u, .int n] ∧ Bk K H v ls ∧ 1 ≤ ls.length ∧ SqL K H u (nsV us) ∧ (∀ i ∈ us, i < ls.length) ∧ us.length ≤ 1000 ∧ r = .ok (fun _ x => ∃ i : Nat, x = .int (i : Nat) ∧ i < ls.length), fun e ⟨v, u, ls, us, n, h1, h2, h3, h4, h5⟩ => ⟨v, u, ls, us, n, h1, h2.mono e, h3, ex_l e h4, h5⟩⟩
end
abbrev s_measure : Stmt := topS 22
theorem sc_measure : FnScope ["one", "other"] ["one", "other"] (defScope s_measure) := ⟨rfl, rfl, rfl, by decide +kernel, rfl, by decide +kernel, by decide +kernel⟩
abbrev s_part : Stmt := topS 23
theorem sc_part : FnScope ["top", "bottom", "by"] ["top", "bottom"] (defScope s_part) := ⟨rfl, rfl, rfl, by decide +kernel, rfl, by decide +kernel, by decide +kernel⟩
section
variable {P : Program} {w : World} {K : PySem.W.Frag} {mg : Str → Option Value} {base : Heap}
def R_measure : Rl := ⟨fun vs _ r => ∃ a b : Int, vs = [.int a, .int b] ∧ r = .ok (is (.int (Int.gcd a b : Int))), fun _ h => h⟩
theorem gcd_turn (x y : Nat) : Nat.gcd y (x % y) = Nat.gcd x y := by rw [Nat.gcd_comm x y, Nat.gcd_rec y x, Nat.gcd_comm]
theorem ok_measure (B : Bt mg) (D : Df K mg "measure" s_measure ["one", "other"]) : Ok P w K mg base 1 "measure" ["one", "other"] (R_measure.sp mg) := by
  refine D.ok sc_measure (fun vs H Q E h => ?_) (fun f cdv A outer s H vs Q E hr h => ?_)
  · obtain ⟨r, ⟨a, b, rfl, _⟩, _⟩ := h
    rfl
  · obtain ⟨r, ⟨a, b, rfl, rfl⟩, k⟩ := h
    refine ⟨_, (pss_cons (ps_set (i := 0) sc_measure.nd rfl (.inl rfl) (pe_callB call_abs (by rfl) B.abs boot_b_abs (pa_cons (pv 0) pa_nil)))
      (pss_cons (ps_set (i := 1) sc_measure.nd rfl (.inl rfl) (pe_callB call_abs (by rfl) B.abs boot_b_abs (pa_cons (pv 1) pa_nil)))
      (pss_cons (ps_while (passes_of rfl) (pt_cmpR (op_neK K (hu65 hr)) (pv 1) pe_int (nomark _))
        (pss_one (ps_par (i := 0) (j := 1) rfl sc_measure.nd rfl rfl (by decide) rfl rfl (pa_cons (pv 1) (pa_cons (pe_op op_mod (pv 0) (pv 1)) pa_nil)) (by rfl))))
      (pss_one (ps_ret (pv 0)))))), ?_⟩
    refine q_v (Own.one H) (ev_cb (ea_cons (ev_var rfl) ea_nil) rc_abs) fun H1 o => ?_
    refine q_v o (ev_cb (ea_cons (ev_var rfl) ea_nil) rc_abs) fun H1 o => ?_
    refine q_wl (fun m σ H' => ∃ x y : Nat, σ = [some (.int x), some (.int y)] ∧ Own [H] H' ∧ Nat.gcd x y = Int.gcd a b ∧ m = y) b.natAbs ⟨_, _, rfl, o, rfl, rfl⟩ ?_
    rintro m σ H' ⟨x, y, rfl, o, hg, hm⟩
    refine ⟨_, et_test (ev_op (ev_var rfl) ev_c rv_neI), fun hb H1 e => ?_, fun hb H1 e => ?_⟩
    · have hy : ¬ (y : Int) = 0 := by simpa using hb
      refine s_par (ea_cons (ev_var rfl) (ea_cons (ev_op (ev_var rfl) (ev_var rfl) (rv_I (show (0 : Int) < (y : Int) by omega))) ea_nil)) fun H2 e2 => ?_
      exact ⟨x % y, by rw [hm]; exact Nat.mod_lt _ (by omega), y, x % y, rfl, (o.mono e).mono e2, by rw [gcd_turn]; exact hg, rfl⟩
    · have hy : (y : Int) = 0 := by simpa using hb
      have hy : y = 0 := by omega
      subst hy
      refine s_rv (o.mono e) (ev_var rfl) fun H2 o => o.retV k (j := 0) rfl ?_
      rw [← hg, Nat.gcd_zero_right]
/-- a part: lowest terms, the bottom above nought -/
def byOf (t b : Int) : Int := if b < 0 then -(Int.gcd t b : Int) else (Int.gcd t b : Int)
def partM (t b : Int) : Int × Int := (t.fdiv (byOf t b), b.fdiv (byOf t b))
abbrev pPart (p : Int × Int) : Hp → V → Prop := pTup [.int p.1, .int p.2]
def partR (t b : Int) : Res := if b = 0 then .err "NoPart" [] else .ok (pPart (partM t b))
theorem byOf_ne {t b : Int} (hb : b ≠ 0) : byOf t b ≠ 0 := by
  have h := Int.gcd_pos_of_ne_zero_right t hb
  unfold byOf
  split <;> omega
theorem byOf_le {t b : Int} (hb : b ≠ 0) : (byOf t b).natAbs ≤ b.natAbs := by
  have h : Int.gcd t b ≤ b.natAbs := Nat.le_of_dvd (by omega) (Nat.gcd_dvd_right _ _)
  unfold byOf
  split <;> omega
def Bd (n : Nat) (i : Int) : Prop := i.natAbs < 2 ^ n
theorem Bd.div {t b : Int} {n : Nat} (hb : b ≠ 0) (h : Bd n b) (hn : 0 < n ∧ n ≤ 9000) (i : Int) : CDivZ i (byOf t b) :=
  ⟨byOf_ne hb, Nat.lt_of_lt_of_le (PySem.Flt.log2_lt_of hn.1 (Nat.lt_of_le_of_lt (byOf_le hb) h)) hn.2⟩
def R_part : Rl := ⟨fun vs _ r => ∃ t b : Int, vs = [.int t, .int b] ∧ Bd 9000 b ∧ r = partR t b, fun _ h => h⟩
theorem ok_part (B : Bt mg) {C_NoPart : Addr} (X_NoPart : Xc K mg "NoPart" C_NoPart) (O_measure : Ok P w K mg base 1 "measure" ["one", "other"] (R_measure.sp mg)) (D : Df K mg "part" s_part ["top", "bottom"]) : Ok P w K mg base 2 "part" ["top", "bottom"] (R_part.sp mg) := by
  refine D.ok sc_part (fun vs H Q E h => ?_) (fun f cdv A outer s H vs Q E hr h => ?_)
  · obtain ⟨r, ⟨a, b, rfl, _⟩, _⟩ := h
    rfl
  · obtain ⟨r, ⟨t, b, rfl, hB, rfl⟩, k⟩ := h
    refine ⟨_, (pss_cons (ps_if (pt_cmpR (op_eqK K (hu65 hr)) (pv 1) pe_int (nomark _))
        (pss_one (ps_raise rfl (takes_of rfl rfl rfl rfl) (pmk_ex X_NoPart (by rfl))))
        pss_nil)
      (pss_cons (ps_set (i := 2) sc_part.nd rfl (.inl rfl) (pe_callO O_measure (hr.mono (by omega)) (by rfl) (takes_of rfl rfl rfl rfl) (pa_cons (pv 0) (pa_cons (pv 1) pa_nil))))
      (pss_cons (ps_if (pt_cmpR op_lt (pv 1) pe_int (nomark _))
        (pss_one (ps_set (i := 2) sc_part.nd rfl (.inl rfl) (pe_un un_neg (pv 2))))
        pss_nil)
      (pss_one (ps_ret (pe_tup (pa_cons (pe_op op_fdivZ (pv 0) (pv 2)) (pa_cons (pe_op op_fdivZ (pv 1) (pv 2)) pa_nil)))))))), ?_⟩
    refine q_wh (Own.one H) (et_test (ev_op (ev_var rfl) ev_c rv_eqI)) (fun hb H1 o => ?_) (fun hb H1 o => ?_)
    · have hb : b = 0 := by simpa using hb
      unfold partR at k
      rw [if_pos hb] at k
      exact k H1 C_NoPart none (o.ix (i := 0) rfl) X_NoPart.g (.inl ⟨rfl, rfl⟩)
    · have hb : b ≠ 0 := by simpa using hb
      unfold partR at k
      rw [if_neg hb] at k
      refine q_v o (ev_callO (ea_cons (ev_var rfl) (ea_cons (ev_var rfl) ea_nil)) ⟨t, b, rfl, rfl⟩) fun H1 o => ?_
      refine q_wh o (et_test (ev_op (ev_var rfl) ev_c rv_I0)) (fun h0 H1 o => ?_) (fun h0 H1 o => ?_)
      · have e : byOf t b = -(Int.gcd t b : Int) := if_pos (of_decide_eq_true h0)
        refine s_v o (ev_un (ev_var rfl) ru_neg) fun H1 o => ?_
        refine s_rn o (ep_tup (ea_cons (ev_op (ev_var rfl) (ev_var rfl) (rv_I ?_)) (ea_cons (ev_op (ev_var rfl) (ev_var rfl) (rv_I ?_)) ea_nil))) fun v H1 N o p => o.ret k (i := 0) (j := 1) rfl rfl ?_
        · rw [← e]; exact hB.div hb (by decide) _
        · rw [← e]; exact hB.div hb (by decide) _
        · unfold partM; rw [e]; exact p
      · have e : byOf t b = (Int.gcd t b : Int) := if_neg (of_decide_eq_false h0)
        refine s_rn o (ep_tup (ea_cons (ev_op (ev_var rfl) (ev_var rfl) (rv_I ?_)) (ea_cons (ev_op (ev_var rfl) (ev_var rfl) (rv_I ?_)) ea_nil))) fun v H1 N o p => o.ret k (i := 0) (j := 1) rfl rfl ?_
        · rw [← e]; exact hB.div hb (by decide) _
        · rw [← e]; exact hB.div hb (by decide) _
        · unfold partM; rw [e]; exact p
/-- two pairs of ints as arguments -/
def Pr2 (K : PySem.W.Frag) (vs : List V) (H : Hp) (a b c d : Int) : Prop := ∃ p q, vs = [.ref p, .ref q] ∧ SqT K H p [.int a, .int b] ∧ SqT K H q [.int c, .int d]
theorem Pr2.mono {vs : List V} {H H' : Hp} {a b c d : Int} (e : Ex H H') (h : Pr2 K vs H a b c d) : Pr2 K vs H' a b c d := by
  obtain ⟨p, q, h1, h2, h3⟩ := h
  exact ⟨p, q, h1, ex_t e h2, ex_t e h3⟩
def Small4 (a b c d : Int) : Prop := Bd 2000 a ∧ Bd 2000 b ∧ Bd 2000 c ∧ Bd 2000 d
theorem Bd.mul {i j : Int} (hi : Bd 2000 i) (hj : Bd 2000 j) : CMulW i j := wide_mul hi hj (by decide) (by decide) (by decide)
theorem Bd.mul9 {i j : Int} (hi : Bd 2000 i) (hj : Bd 2000 j) : Bd 9000 (i * j) := Nat.lt_of_lt_of_le (wide_lt hi hj) (Nat.pow_le_pow_right (by decide) (by decide))
def plusR (a b c d : Int) : Res := partR (a * d + c * b) (b * d)
def minusR (a b c d : Int) : Res := partR (a * d - c * b) (b * d)
def R_plus (K : PySem.W.Frag) : Rl := ⟨fun vs H r => ∃ a b c d, Pr2 K vs H a b c d ∧ Small4 a b c d ∧ r = plusR a b c d, fun e ⟨a, b, c, d, h, h2⟩ => ⟨a, b, c, d, h.mono e, h2⟩⟩
def R_minus (K : PySem.W.Frag) : Rl := ⟨fun vs H r => ∃ a b c d, Pr2 K vs H a b c d ∧ Small4 a b c d ∧ r = minusR a b c d, fun e ⟨a, b, c, d, h, h2⟩ => ⟨a, b, c, d, h.mono e, h2⟩⟩
theorem Out.call {S : Rl} {W : WX} {σ : L2.St} {tr : TA} {G H : Hp} {Ns : List Hp} {vs : List V} {r : Res} {Q : VK} {E : XK} {D : Ends} {j : Nat} (o : Own Ns H) (hj : Ns[j]? = some G) (k : Out mg r G Q E) (ha : EvA tr σ H vs) (hR : S.R vs H r) (hQ : ∀ v H, Q v H → D.rt v H) (hE : ∀ c d H, E c d H → W c d σ H) : tRet (tCallS (S.sp mg) (WE W) tr) D σ H := by
  cases r with
  | ok P => exact ha H (Ex.refl H) _ fun H1 e => ⟨.ok P, S.mono e hR, fun v H' N e1 e2 f p => hQ _ _ (k v H' N ((o.ix hj).trans (e.trans e1)) e2 (f.back ((o.ix hj).trans e)) p)⟩
  | err x fs => exact ha H (Ex.refl H) _ fun H1 e => ⟨.err x fs, S.mono e hR, fun H' C d e1 g c => hE _ _ _ ((k.fwd ((o.ix hj).trans e)) H' C d e1 g c)⟩
abbrev s_plus : Stmt := topS 24
theorem sc_plus : FnScope ["one", "other"] ["one", "other"] (defScope s_plus) := ⟨rfl, rfl, rfl, by decide +kernel, rfl, by decide +kernel, by decide +kernel⟩
theorem ok_plus (B : Bt mg) (O_part : Ok P w K mg base 2 "part" ["top", "bottom"] (R_part.sp mg)) (D : Df K mg "plus" s_plus ["one", "other"]) : Ok P w K mg base 3 "plus" ["one", "other"] ((R_plus K).sp mg) := by
  refine D.ok sc_plus (fun vs H Q E h => ?_) (fun f cdv A outer s H vs Q E hr h => ?_)
  · obtain ⟨r, ⟨a, b, c, d, ⟨p, q, rfl, _⟩, _⟩, _⟩ := h
    rfl
  · obtain ⟨r, ⟨a, b, c, d, ⟨p, q, rfl, h1, h2⟩, ⟨ba, bb, bc, bd⟩, rfl⟩, k⟩ := h
    refine ⟨_, (pss_one (ps_ret (pe_callO O_part (hr.mono (by omega)) (by rfl) (takes_of rfl rfl rfl rfl) (pa_cons (pe_op (op_addK K) (pe_op op_mulU (pe_ix (ix_seqK K) (pv 0) pe_int (fun _ _ => rfl)) (pe_ix (ix_seqK K) (pv 1) pe_int (fun _ _ => rfl))) (pe_op op_mulU (pe_ix (ix_seqK K) (pv 1) pe_int (fun _ _ => rfl)) (pe_ix (ix_seqK K) (pv 0) pe_int (fun _ _ => rfl)))) (pa_cons (pe_op op_mulU (pe_ix (ix_seqK K) (pv 0) pe_int (fun _ _ => rfl)) (pe_ix (ix_seqK K) (pv 1) pe_int (fun _ _ => rfl))) pa_nil))))), ?_⟩
    exact Out.call (j := 0) (Own.one H) rfl k (ea_cons (ev_op (ev_op (ev_op (ev_var rfl) ev_c (rv_ixTs h1 rfl)) (ev_op (ev_var rfl) ev_c (rv_ixTs h2 rfl)) (rv_mulI (ba.mul bd))) (ev_op (ev_op (ev_var rfl) ev_c (rv_ixTs h2 rfl)) (ev_op (ev_var rfl) ev_c (rv_ixTs h1 rfl)) (rv_mulI (bc.mul bb))) rv_addI)
      (ea_cons (ev_op (ev_op (ev_var rfl) ev_c (rv_ixTs h1 rfl)) (ev_op (ev_var rfl) ev_c (rv_ixTs h2 rfl)) (rv_mulI (bb.mul bd))) ea_nil)) ⟨_, _, rfl, bb.mul9 bd, rfl⟩ (fun _ _ h => h) (fun _ _ _ h => h)
def lessR (a b c d : Int) : Res := if b * d = 0 then .err "NoPart" [] else .ok (is (.bl (decide ((partM (a * d - c * b) (b * d)).1 < 0))))
def R_less (K : PySem.W.Frag) : Rl := ⟨fun vs H r => ∃ a b c d, Pr2 K vs H a b c d ∧ Small4 a b c d ∧ r = lessR a b c d, fun e ⟨a, b, c, d, h, h2⟩ => ⟨a, b, c, d, h.mono e, h2⟩⟩
end
section
theorem byOf_abs (x y : Int) : (byOf x y).natAbs = Int.gcd x y := by
  unfold byOf
  split <;> omega
theorem byOf_dvd1 (x y : Int) : byOf x y ∣ x := by
  rw [← Int.natAbs_dvd_natAbs, byOf_abs]
  exact Nat.gcd_dvd_left _ _
theorem byOf_dvd2 (x y : Int) : byOf x y ∣ y := by
  rw [← Int.natAbs_dvd_natAbs, byOf_abs]
  exact Nat.gcd_dvd_right _ _
theorem partM_1 (x y : Int) : byOf x y * (partM x y).1 = x := by
  show byOf x y * x.fdiv (byOf x y) = x
  rw [Int.fdiv_eq_ediv_of_dvd (byOf_dvd1 x y)]
  exact Int.mul_ediv_cancel' (byOf_dvd1 x y)
theorem partM_2 (x y : Int) : byOf x y * (partM x y).2 = y := by
  show byOf x y * y.fdiv (byOf x y) = y
  rw [Int.fdiv_eq_ediv_of_dvd (byOf_dvd2 x y)]
  exact Int.mul_ediv_cancel' (byOf_dvd2 x y)
theorem partM_pos {x y : Int} (hy : y ≠ 0) : 0 < (partM x y).2 := by
  have h := partM_2 x y
  have hg := byOf_ne (t := x) hy
  rcases Int.lt_or_gt_of_ne hy with h0 | h0
  · have g0 : byOf x y < 0 := by
      have e : byOf x y = -(Int.gcd x y : Int) := if_pos h0
      rw [e] at hg ⊢
      omega
    rw [← h] at h0
    exact Int.pos_of_mul_neg_right h0 g0
  · have g0 : 0 < byOf x y := by
      have e : byOf x y = (Int.gcd x y : Int) := if_neg (by omega)
      rw [e] at hg ⊢
      omega
    have h0 : 0 < y := h0
    rw [← h, Int.mul_comm] at h0
    exact Int.pos_of_mul_pos_left h0 g0
theorem partM_cross (x y : Int) : (partM x y).1 * y = x * (partM x y).2 := by
  have h1 := partM_1 x y
  have h2 := partM_2 x y
  generalize (partM x y).1 = t at *
  generalize (partM x y).2 = b at *
  generalize byOf x y = g at *
  rw [← h1, ← h2]
  simp only [Int.mul_assoc, Int.mul_comm, Int.mul_left_comm]
theorem partM_gcd {x y : Int} (hy : y ≠ 0) : Int.gcd (partM x y).1 (partM x y).2 = 1 := by
  have h1 := partM_1 x y
  have h2 := partM_2 x y
  have hp := Int.gcd_pos_of_ne_zero_right x hy
  have e1 : (partM x y).1.natAbs = x.natAbs / Int.gcd x y := by
    have z : x.natAbs = Int.gcd x y * (partM x y).1.natAbs := by
      conv => lhs; rw [← h1]
      rw [Int.natAbs_mul, byOf_abs]
    rw [z, Nat.mul_div_cancel_left _ hp]
  have e2 : (partM x y).2.natAbs = y.natAbs / Int.gcd x y := by
    have z : y.natAbs = Int.gcd x y * (partM x y).2.natAbs := by
      conv => lhs; rw [← h2]
      rw [Int.natAbs_mul, byOf_abs]
    rw [z, Nat.mul_div_cancel_left _ hp]
  show Nat.gcd _ _ = 1
  rw [e1, e2]
  exact Nat.coprime_div_gcd_div_gcd hp
theorem mul_bd {g t x : Int} (h : g * t = x) (hg : g ≠ 0) : t.natAbs ≤ x.natAbs := by
  rw [← h, Int.natAbs_mul]
  exact Nat.le_mul_of_pos_left _ (by omega)
theorem partM_bd1 {x y : Int} (hy : y ≠ 0) : (partM x y).1.natAbs ≤ x.natAbs := mul_bd (partM_1 x y) (byOf_ne hy)
theorem partM_bd2 {x y : Int} (hy : y ≠ 0) : (partM x y).2.natAbs ≤ y.natAbs := mul_bd (partM_2 x y) (byOf_ne hy)
theorem partM_zero {y : Int} (hy : y ≠ 0) : partM 0 y = (0, 1) := by
  have h1 := partM_1 0 y
  have h2 := partM_gcd (x := 0) hy
  have h3 := partM_pos (x := 0) hy
  have hg := byOf_ne (t := 0) hy
  have e1 : (partM 0 y).1 = 0 := (Int.mul_eq_zero.mp h1).resolve_left hg
  have e2 : (partM 0 y).2 = 1 := by
    rw [e1] at h2
    have z : (partM 0 y).2.natAbs = 1 := by simpa [Int.gcd] using h2
    omega
  exact Prod.ext e1 e2
theorem partM_sign {x y : Int} (hy : y ≠ 0) : decide ((partM x y).1 < 0) = decide (x * y < 0) := by
  have hc := partM_cross x y
  have hp := partM_pos (x := x) hy
  have h1 := partM_1 x y
  have h2 := partM_2 x y
  have e : x * y = (byOf x y * byOf x y) * ((partM x y).2 * (partM x y).1) := by
    rw [show x * y = (byOf x y * (partM x y).1) * (byOf x y * (partM x y).2) by rw [h1, h2]]
    simp only [Int.mul_assoc, Int.mul_comm, Int.mul_left_comm]
  have hgg : 0 < byOf x y * byOf x y := by
    have hg := byOf_ne (t := x) hy
    rcases Int.lt_or_gt_of_ne hg with h0 | h0
    · exact Int.mul_pos_of_neg_of_neg h0 h0
    · exact Int.mul_pos h0 h0
  rw [e]
  generalize (partM x y).1 = t at *
  generalize (partM x y).2 = b at *
  generalize byOf x y * byOf x y = g at *
  by_cases ht : t < 0
  · rw [decide_eq_true ht, decide_eq_true]
    exact Int.mul_neg_of_pos_of_neg hgg (Int.mul_neg_of_pos_of_neg hp ht)
  · rw [decide_eq_false ht, decide_eq_false]
    intro z
    have z2 := Int.mul_nonneg (Int.le_of_lt hgg) (Int.mul_nonneg (Int.le_of_lt hp) (show 0 ≤ t by omega))
    omega
end
abbrev s__law_measure : Stmt := topS 47
theorem sc__law_measure : FnScope ["_law_one", "_law_other"] ["_law_one", "_law_other"] (defScope s__law_measure) := ⟨rfl, rfl, rfl, by decide +kernel, rfl, by decide +kernel, by decide +kernel⟩
abbrev s__law_part : Stmt := topS 48
theorem sc__law_part : FnScope ["_law_top", "_law_bottom", "_law_by"] ["_law_top", "_law_bottom"] (defScope s__law_part) := ⟨rfl, rfl, rfl, by decide +kernel, rfl, by decide +kernel, by decide +kernel⟩
abbrev s__law_sum : Stmt := topS 49
theorem sc__law_sum : FnScope ["_law_one", "_law_other"] ["_law_one", "_law_other"] (defScope s__law_sum) := ⟨rfl, rfl, rfl, by decide +kernel, rfl, by decide +kernel, by decide +kernel⟩
section
variable {P : Program} {w : World} {K : PySem.W.Frag} {mg : Str → Option Value} {base : Heap}
theorem ok__law_measure (B : Bt mg) (D : Df K mg "_law_measure" s__law_measure ["_law_one", "_law_other"]) : Ok P w K mg base 1 "_law_measure" ["_law_one", "_law_other"] (R_measure.sp mg) := by
  refine D.ok sc__law_measure (fun vs H Q E h => ?_) (fun f cdv A outer s H vs Q E hr h => ?_)
  · obtain ⟨r, ⟨a, b, rfl, _⟩, _⟩ := h
    rfl
  · obtain ⟨r, ⟨a, b, rfl, rfl⟩, k⟩ := h
    refine ⟨_, (pss_cons (ps_set (i := 0) sc__law_measure.nd rfl (.inl rfl) (pe_callB call_abs (by rfl) B.abs boot_b_abs (pa_cons (pv 0) pa_nil)))
      (pss_cons (ps_set (i := 1) sc__law_measure.nd rfl (.inl rfl) (pe_callB call_abs (by rfl) B.abs boot_b_abs (pa_cons (pv 1) pa_nil)))
      (pss_cons (ps_while (passes_of rfl) (pt_cmpR (op_neK K (hu65 hr)) (pv 1) pe_int (nomark _))
        (pss_one (ps_par (i := 0) (j := 1) rfl sc__law_measure.nd rfl rfl (by decide) rfl rfl (pa_cons (pv 1) (pa_cons (pe_op op_mod (pv 0) (pv 1)) pa_nil)) (by rfl))))
      (pss_one (ps_ret (pv 0)))))), ?_⟩
    refine q_v (Own.one H) (ev_cb (ea_cons (ev_var rfl) ea_nil) rc_abs) fun H1 o => ?_
    refine q_v o (ev_cb (ea_cons (ev_var rfl) ea_nil) rc_abs) fun H1 o => ?_
    refine q_wl (fun m σ H' => ∃ x y : Nat, σ = [some (.int x), some (.int y)] ∧ Own [H] H' ∧ Nat.gcd x y = Int.gcd a b ∧ m = y) b.natAbs ⟨_, _, rfl, o, rfl, rfl⟩ ?_
    rintro m σ H' ⟨x, y, rfl, o, hg, hm⟩
    refine ⟨_, et_test (ev_op (ev_var rfl) ev_c rv_neI), fun hb H1 e => ?_, fun hb H1 e => ?_⟩
    · have hy : ¬ (y : Int) = 0 := by simpa using hb
      refine s_par (ea_cons (ev_var rfl) (ea_cons (ev_op (ev_var rfl) (ev_var rfl) (rv_I (show (0 : Int) < (y : Int) by omega))) ea_nil)) fun H2 e2 => ?_
      exact ⟨x % y, by rw [hm]; exact Nat.mod_lt _ (by omega), y, x % y, rfl, (o.mono e).mono e2, by rw [gcd_turn]; exact hg, rfl⟩
    · have hy : (y : Int) = 0 := by simpa using hb
      have hy : y = 0 := by omega
      subst hy
      refine s_rv (o.mono e) (ev_var rfl) fun H2 o => o.retV k (j := 0) rfl ?_
      rw [← hg, Nat.gcd_zero_right]
def R__law_part : Rl := ⟨fun vs _ r => ∃ t b : Int, vs = [.int t, .int b] ∧ Bd 9000 b ∧ b ≠ 0 ∧ r = .ok (pPart (partM t b)), fun _ h => h⟩
theorem ok__law_part (B : Bt mg) (O__law_measure : Ok P w K mg base 1 "_law_measure" ["_law_one", "_law_other"] (R_measure.sp mg)) (D : Df K mg "_law_part" s__law_part ["_law_top", "_law_bottom"]) : Ok P w K mg base 2 "_law_part" ["_law_top", "_law_bottom"] (R__law_part.sp mg) := by
  refine D.ok sc__law_part (fun vs H Q E h => ?_) (fun f cdv A outer s H vs Q E hr h => ?_)
  · obtain ⟨r, ⟨a, b, rfl, _⟩, _⟩ := h
    rfl
  · obtain ⟨r, ⟨t, b, rfl, hB, hb, rfl⟩, k⟩ := h
    refine ⟨_, (pss_cons (ps_set (i := 2) sc__law_part.nd rfl (.inl rfl) (pe_callO O__law_measure (hr.mono (by omega)) (by rfl) (takes_of rfl rfl rfl rfl) (pa_cons (pv 0) (pa_cons (pv 1) pa_nil))))
      (pss_cons (ps_if (pt_cmpR op_lt (pv 1) pe_int (nomark _))
        (pss_one (ps_set (i := 2) sc__law_part.nd rfl (.inl rfl) (pe_un un_neg (pv 2))))
        pss_nil)
      (pss_one (ps_ret (pe_tup (pa_cons (pe_op op_fdivZ (pv 0) (pv 2)) (pa_cons (pe_op op_fdivZ (pv 1) (pv 2)) pa_nil))))))), ?_⟩
    refine q_v (Own.one H) (ev_callO (ea_cons (ev_var rfl) (ea_cons (ev_var rfl) ea_nil)) ⟨t, b, rfl, rfl⟩) fun H1 o => ?_
    refine q_wh o (et_test (ev_op (ev_var rfl) ev_c rv_I0)) (fun h0 H1 o => ?_) (fun h0 H1 o => ?_)
    · have e : byOf t b = -(Int.gcd t b : Int) := if_pos (of_decide_eq_true h0)
      refine s_v o (ev_un (ev_var rfl) ru_neg) fun H1 o => ?_
      refine s_rn o (ep_tup (ea_cons (ev_op (ev_var rfl) (ev_var rfl) (rv_I ?_)) (ea_cons (ev_op (ev_var rfl) (ev_var rfl) (rv_I ?_)) ea_nil))) fun v H1 N o p => o.ret k (i := 0) (j := 1) rfl rfl ?_
      · rw [← e]; exact hB.div hb (by decide) _
      · rw [← e]; exact hB.div hb (by decide) _
      · unfold partM; rw [e]; exact p
    · have e : byOf t b = (Int.gcd t b : Int) := if_neg (of_decide_eq_false h0)
      refine s_rn o (ep_tup (ea_cons (ev_op (ev_var rfl) (ev_var rfl) (rv_I ?_)) (ea_cons (ev_op (ev_var rfl) (ev_var rfl) (rv_I ?_)) ea_nil))) fun v H1 N o p => o.ret k (i := 0) (j := 1) rfl rfl ?_
      · rw [← e]; exact hB.div hb (by decide) _
      · rw [← e]; exact hB.div hb (by decide) _
      · unfold partM; rw [e]; exact p
def R__law_sum (K : PySem.W.Frag) : Rl := ⟨fun vs H r => ∃ a b c d, Pr2 K vs H a b c d ∧ Small4 a b c d ∧ b * d ≠ 0 ∧ r = .ok (pPart (partM (a * d + c * b) (b * d))), fun e ⟨a, b, c, d, h, h2⟩ => ⟨a, b, c, d, h.mono e, h2⟩⟩
theorem ok__law_sum (B : Bt mg) (O__law_part : Ok P w K mg base 2 "_law_part" ["_law_top", "_law_bottom"] (R__law_part.sp mg)) (D : Df K mg "_law_sum" s__law_sum ["_law_one", "_law_other"]) : Ok P w K mg base 3 "_law_sum" ["_law_one", "_law_other"] ((R__law_sum K).sp mg) := by
  refine D.ok sc__law_sum (fun vs H Q E h => ?_) (fun f cdv A outer s H vs Q E hr h => ?_)
  · obtain ⟨r, ⟨a, b, c, d, ⟨p, q, rfl, _⟩, _⟩, _⟩ := h
    rfl
  · obtain ⟨r, ⟨a, b, c, d, ⟨p, q, rfl, h1, h2⟩, ⟨ba, bb, bc, bd⟩, h0, rfl⟩, k⟩ := h
    refine ⟨_, (pss_one (ps_ret (pe_callO O__law_part (hr.mono (by omega)) (by rfl) (takes_of rfl rfl rfl rfl) (pa_cons (pe_op (op_addK K) (pe_op op_mulU (pe_ix (ix_seqK K) (pv 0) pe_int (fun _ _ => rfl)) (pe_ix (ix_seqK K) (pv 1) pe_int (fun _ _ => rfl))) (pe_op op_mulU (pe_ix (ix_seqK K) (pv 1) pe_int (fun _ _ => rfl)) (pe_ix (ix_seqK K) (pv 0) pe_int (fun _ _ => rfl)))) (pa_cons (pe_op op_mulU (pe_ix (ix_seqK K) (pv 0) pe_int (fun _ _ => rfl)) (pe_ix (ix_seqK K) (pv 1) pe_int (fun _ _ => rfl))) pa_nil))))), ?_⟩
    exact Out.call (j := 0) (Own.one H) rfl k (ea_cons (ev_op (ev_op (ev_op (ev_var rfl) ev_c (rv_ixTs h1 rfl)) (ev_op (ev_var rfl) ev_c (rv_ixTs h2 rfl)) (rv_mulI (ba.mul bd))) (ev_op (ev_op (ev_var rfl) ev_c (rv_ixTs h2 rfl)) (ev_op (ev_var rfl) ev_c (rv_ixTs h1 rfl)) (rv_mulI (bc.mul bb))) rv_addI)
      (ea_cons (ev_op (ev_op (ev_var rfl) ev_c (rv_ixTs h1 rfl)) (ev_op (ev_var rfl) ev_c (rv_ixTs h2 rfl)) (rv_mulI (bb.mul bd))) ea_nil)) ⟨_, _, rfl, bb.mul9 bd, h0, rfl⟩ (fun _ _ h => h) (fun _ _ _ h => h)
end
/-! deciding beginnings: plain laws -/
theorem apart_row {n : Nat} {ls : List (List Str)} (h : GB n ls) {i j : Nat} (hi : i < ls.length) (hj : j < ls.length) (hij : i ≠ j) : alikeM (row1 ls i) (row1 ls j) = false := by
  have e : ∀ {k : Nat} (hk : k < ls.length), row1 ls k = ls[k] := fun hk => by
    unfold row1
    rw [List.getD_eq_getElem?_getD, List.getElem?_eq_getElem hk]
    rfl
  have P := List.pairwise_iff_getElem.mp h.apart
  rw [e hi, e hj]
  rcases Nat.lt_or_gt_of_ne hij with z | z
  · exact P i j hi hj z
  · rw [alikeM_comm]
    exact P j i hj hi z
theorem com_take {a b : List Str} {s : Nat} (h : s ≤ comM a b) : a.take s = b.take s := by
  refine List.ext_getElem? fun i => ?_
  rw [List.getElem?_take, List.getElem?_take]
  by_cases hi : i < s
  · rw [if_pos hi, if_pos hi]
    exact comM_same a b i (by omega)
  · rw [if_neg hi, if_neg hi]
theorem com_of_take : ∀ {a b : List Str} {s : Nat}, s ≤ a.length → s ≤ b.length → a.take s = b.take s → s ≤ comM a b
  | _, _, 0, _, _, _ => Nat.zero_le _
  | [], _, s + 1, h, _, _ => by simp at h
  | _ :: _, [], s + 1, _, h, _ => by simp at h
  | x :: r, y :: t, s + 1, h1, h2, h3 => by
    simp only [List.take_succ_cons, List.cons.injEq] at h3
    have := com_of_take (a := r) (b := t) (s := s) (by simpa using h1) (by simpa using h2) h3.2
    simp only [comM, if_pos h3.1]
    omega
theorem com_lt {a b : List Str} (h : alikeM a b = false) : comM a b < a.length ∧ comM a b < b.length := by
  have hle := comM_le a b
  unfold alikeM begM at h
  rw [Bool.or_eq_false_iff] at h
  have h1 := of_decide_eq_false h.1
  have h2 := of_decide_eq_false h.2
  constructor
  · rcases Nat.lt_or_ge (comM a b) a.length with z | z
    · exact z
    · exact absurd (by rw [← com_take z, List.take_length]) h1
  · rcases Nat.lt_or_ge (comM a b) b.length with z | z
    · exact z
    · exact absurd (by rw [com_take z, List.take_length]) h2
theorem decM_ge {ls : List (List Str)} {ns : List Int} {v i : Nat} (hi : i ∈ leftM ls.length ns) (hv : i ≠ v) : comM (row1 ls v) (row1 ls i) + 1 ≤ decM ls ns v := by
  unfold decM
  refine (maxD_ge (d := 0)).1 (List.mem_map.mpr ⟨(i, comM (row1 ls v) (row1 ls i)), ?_, rfl⟩)
  unfold sizeM
  exact List.mem_map.mpr ⟨i, List.mem_filter.mpr ⟨hi, by rw [decide_eq_false hv]; rfl⟩, rfl⟩
theorem decM_at {ls : List (List Str)} {ns : List Int} {v : Nat} (h : 0 < decM ls ns v) : ∃ i, i ∈ leftM ls.length ns ∧ i ≠ v ∧ comM (row1 ls v) (row1 ls i) + 1 = decM ls ns v := by
  have hm := maxD_mem ((sizeM ls ns v).map fun q => q.2 + 1) 0
  rcases hm with z | z
  · unfold decM at h
    omega
  · obtain ⟨q, hq, e⟩ := List.mem_map.mp z
    unfold sizeM at hq
    obtain ⟨i, hi, rfl⟩ := List.mem_map.mp hq
    obtain ⟨h1, h2⟩ := List.mem_filter.mp hi
    exact ⟨i, h1, (fun e => by rw [decide_eq_true e] at h2; cases h2), e⟩
theorem decM_len {n : Nat} {ls : List (List Str)} {ns : List Int} {v : Nat} (h : GB n ls) (hv : v < ls.length) : decM ls ns v ≤ (row1 ls v).length := by
  rcases Nat.eq_zero_or_pos (decM ls ns v) with z | z
  · omega
  · obtain ⟨i, h1, h2, h3⟩ := decM_at z
    have := (com_lt (apart_row h hv (leftM_lt h1) (fun e => h2 e.symm))).1
    omega
theorem filter_one {l : List Nat} {p : Nat → Bool} {v : Nat} (nd : l.Nodup) (hv : v ∈ l) (hp : ∀ i ∈ l, p i = true ↔ i = v) : l.filter p = [v] := by
  induction l with
  | nil => cases hv
  | cons x r ih =>
    obtain ⟨n1, n2⟩ := List.nodup_cons.mp nd
    by_cases hx : x = v
    · subst hx
      rw [List.filter_cons, if_pos ((hp x List.mem_cons_self).mpr rfl)]
      have : r.filter p = [] := List.filter_eq_nil_iff.mpr fun i hi z => n1 (by rw [← (hp i (List.mem_cons_of_mem _ hi)).mp z]; exact hi)
      rw [this]
    · have hx2 : ¬ p x = true := fun z => hx ((hp x List.mem_cons_self).mp z)
      rw [List.filter_cons, if_neg hx2]
      rcases List.mem_cons.mp hv with z | z
      · exact absurd z.symm hx
      · exact ih n2 z fun i hi => hp i (List.mem_cons_of_mem _ hi)
theorem len_two {l : List Nat} {a b : Nat} (ha : a ∈ l) (hb : b ∈ l) (h : a ≠ b) : 2 ≤ l.length := by
  match l, ha, hb with
  | [x], ha, hb => exact absurd ((List.mem_singleton.mp ha).trans (List.mem_singleton.mp hb).symm) h
  | _ :: _ :: r, _, _ => simp
theorem leftM_nodup (m : Nat) (ns : List Int) : (leftM m ns).Nodup := by
  unfold leftM
  exact List.Pairwise.filter _ List.nodup_range
theorem leftM_mem {m : Nat} {ns : List Int} {i : Nat} : i ∈ leftM m ns ↔ i < m ∧ (i : Int) ∈ ns := by
  unfold leftM
  rw [List.mem_filter, List.mem_range, decide_eq_true_iff]
theorem meet_dec {n : Nat} {ls : List (List Str)} {ns : List Int} {v : Nat} (h : GB n ls) (hv : v ∈ leftM ls.length ns) : meetM ls ns ((row1 ls v).take (decM ls ns v)) = [v] := by
  have hv1 := leftM_lt hv
  have hd := decM_len (ns := ns) h hv1
  unfold meetM
  refine filter_one (leftM_nodup _ _) hv fun i hi => ?_
  unfold begM
  rw [decide_eq_true_iff, List.length_take, Nat.min_eq_left hd]
  constructor
  · intro e
    rcases Nat.decEq i v with z | z
    · have h1 := decM_ge (ls := ls) (ns := ns) (v := v) hi z
      have hl : decM ls ns v ≤ (row1 ls i).length := by
        have := congrArg List.length e
        rw [List.length_take, List.length_take, Nat.min_eq_left hd] at this
        omega
      have := com_of_take hd hl e.symm
      omega
    · exact z
  · intro e
    rw [e]
theorem meet_short {n : Nat} {ls : List (List Str)} {ns : List Int} {v s : Nat} (h : GB n ls) (hv : v ∈ leftM ls.length ns) (hs : s < decM ls ns v) : v ∈ meetM ls ns ((row1 ls v).take s) ∧ 2 ≤ (meetM ls ns ((row1 ls v).take s)).length := by
  have hv1 := leftM_lt hv
  have hd := decM_len (ns := ns) h hv1
  have e : ((row1 ls v).take s).length = s := by rw [List.length_take]; omega
  have h1 : v ∈ meetM ls ns ((row1 ls v).take s) := by
    unfold meetM begM
    exact List.mem_filter.mpr ⟨hv, by rw [decide_eq_true_iff, e]⟩
  obtain ⟨i, hi, hiv, hc⟩ := decM_at (Nat.lt_of_le_of_lt (Nat.zero_le s) hs)
  have h2 : i ∈ meetM ls ns ((row1 ls v).take s) := by
    unfold meetM begM
    exact List.mem_filter.mpr ⟨hi, by rw [decide_eq_true_iff, e]; exact (com_take (by omega)).symm⟩
  exact ⟨h1, len_two h1 h2 (fun z => hiv z.symm)⟩
section
variable {P : Program} {w : World} {K : PySem.W.Frag} {mg : Str → Option Value} {base : Heap}
/-! ### kinds, and the promises of earlier texts told by kinds -/
theorem paired_ints {H : Hp} : ∀ {xs : List V} {l : List Int}, Paired (tI.R H) xs l → xs = l.map V.int
  | _, _, .nil => rfl
  | _, _, .cons h r => by
    obtain rfl := h
    rw [paired_ints r]
    rfl
theorem paired_txts {H : Hp} : ∀ {xs : List V} {l : List Str}, Paired (tX.R H) xs l → xs = l.map V.str ∧ ∀ s ∈ l, TxtOk s
  | _, _, .nil => ⟨rfl, fun _ h => nomatch h⟩
  | _, _, .cons h r => by
    obtain ⟨rfl, h2⟩ := h
    obtain ⟨h3, h4⟩ := paired_txts r
    refine ⟨by rw [h3]; rfl, fun s hs => ?_⟩
    rcases List.mem_cons.mp hs with z | z
    · rw [z]; exact h2
    · exact h4 s z
theorem txts_paired {H : Hp} : ∀ {l : List Str}, (∀ s ∈ l, TxtOk s) → Paired (tX.R H) (l.map V.str) l
  | [], _ => .nil
  | s :: l, h => .cons ⟨rfl, h s List.mem_cons_self⟩ (txts_paired fun t ht => h t (List.mem_cons_of_mem _ ht))
theorem ints_of {H : Hp} {v : V} {l : List Int} (h : (tL K tI).R H v l) : ∃ p, v = .ref p ∧ SqL K H p (l.map V.int) := by
  obtain ⟨p, xs, h1, h2, h3, _⟩ := h
  rw [paired_ints h3] at h2
  exact ⟨p, h1, h2⟩
theorem ln_of {H : Hp} {v : V} {l : List Str} (h : (tL K tX).R H v l) (hl : l.length ≤ 1000) : ∃ p, v = .ref p ∧ Ln K H p l := by
  obtain ⟨p, xs, h1, h2, h3, _⟩ := h
  obtain ⟨h4, h5⟩ := paired_txts h3
  rw [h4] at h2
  exact ⟨p, h1, h2, hl, h5⟩
theorem nm_of {H : Hp} {v : V} {l : List Int} (h : (tL K tI).R H v l) (hb : ∀ n ∈ l, 0 ≤ n ∧ n < 9967) : ∃ p, v = .ref p ∧ Nm K H p l := by
  obtain ⟨p, h1, h2⟩ := ints_of h
  exact ⟨p, h1, h2, hb⟩
theorem bk_of {H : Hp} {v : V} {ls : List (List Str)} (h : (tL K (tL K tX)).R H v ls) (h1 : ls.length ≤ 1000) (h2 : ∀ l ∈ ls, l.length ≤ 1000) : ∃ p, v = .ref p ∧ Bk K H p ls := by
  have hd := Pla.dp (K := K) (T := tL K (tL K tX)) h
  obtain ⟨p, xs, rfl, h4, h5, h6⟩ := h
  refine ⟨p, rfl, hd, h1, fun l hl => ⟨h2 l hl, ?_⟩⟩
  obtain ⟨i, hi, rfl⟩ := List.mem_iff_getElem.mp hl
  obtain ⟨v, _, q, ys, _, _, g3, _⟩ := paired_at h5 (List.getElem?_eq_getElem hi)
  exact (paired_txts g3).2
theorem rw_of {H : Hp} {v : V} {rs : List (List Int)} (h : (tL K (tL K tI)).R H v rs) (h1 : rs.length ≤ 1000) (h2 : ∀ l ∈ rs, l.length ≤ 1000) : ∃ p, v = .ref p ∧ Rw K H p rs := by
  have hd := Pla.dp (K := K) (T := tL K (tL K tI)) h
  obtain ⟨p, xs, rfl, h4, h5, h6⟩ := h
  exact ⟨p, rfl, hd, h1, h2⟩
theorem w_ints {N : Hp} {p : Addr} {l : List Int} (h : N p = some (.lst (l.map V.int))) (hl : l.length ≤ 40000) : (tW tI).R N (.ref p) l := ⟨p, _, rfl, h, paired_mapI l, hl⟩
theorem w_rws {N : Hp} {p : Addr} {xs : List V} {rs : List (List Int)} (h : N p = some (.lst xs)) (c : CIi N xs rs) (h1 : rs.length ≤ 40000) (h2 : ∀ l ∈ rs, l.length ≤ 40000) : (tW (tW tI)).R N (.ref p) rs := by
  refine ⟨p, xs, rfl, h, ?_, h1⟩
  clear h h1
  induction c with
  | nil => exact .nil
  | cons a r ih =>
    obtain ⟨t, rfl, h4⟩ := a
    exact .cons (w_ints h4 (h2 _ List.mem_cons_self)) (ih fun l hl => h2 l (List.mem_cons_of_mem _ hl))
theorem w_cells {N : Hp} {p : Addr} {ls : List (List Str)} (c : Cells N p ls) (h1 : ls.length ≤ 1000) (h2 : ∀ l ∈ ls, l.length ≤ 1000 ∧ ∀ s ∈ l, TxtOk s) : (tW (tW tX)).R N (.ref p) ls := by
  obtain ⟨xs, hp, c⟩ := c
  refine ⟨p, xs, rfl, hp, ?_, by omega⟩
  clear hp h1
  induction c with
  | nil => exact .nil
  | cons a r ih =>
    obtain ⟨t, rfl, h4⟩ := a
    obtain ⟨h5, h6⟩ := h2 _ List.mem_cons_self
    exact .cons ⟨t, _, rfl, h4, txts_paired h6, by omega⟩ (ih fun l hl => h2 l (List.mem_cons_of_mem _ hl))
theorem w_lines {N : Hp} {p : Addr} {l : List Str} (h : N p = some (.lst (l.map V.str))) (hl : l.length ≤ 40000) (ht : ∀ s ∈ l, TxtOk s) : (tW tX).R N (.ref p) l := ⟨p, _, rfl, h, txts_paired ht, hl⟩
/-- a book | a deal, with its book -/
def tBook (K : PySem.W.Frag) (C : Addr) : Tp (List (List Str)) := ⟨fun H v ls => ∃ b, v = .ref b ∧ BookAt K C H b ls, fun e ⟨b, h1, h2⟩ => ⟨b, h1, h2.mono e⟩⟩
structure DealM where
  ls : List (List Str)
  F0 : List (List Int)
  F1 : List (List Int)
deriving Inhabited
def tDeal (K : PySem.W.Frag) (CB C : Addr) : Tp DealM := ⟨fun H v d => ∃ a b kvs, v = .ref a ∧ DealK K C H a b d.F0 d.F1 kvs ∧ BookAt K CB H b d.ls ∧ dealM d.ls.length d.F0 d.F1 = true, fun e ⟨a, b, kvs, h1, h2, h3, h4⟩ => ⟨a, b, kvs, h1, h2.mono e, h3.mono e, h4⟩⟩
instance {C : Addr} : NN (tBook K C) := ⟨fun ⟨_, h, _⟩ z => by cases h; cases z⟩
instance {CB C : Addr} : NN (tDeal K CB C) := ⟨fun ⟨_, _, _, h, _⟩ z => by cases h; cases z⟩
theorem book_ins {C : Addr} {G : Hp} {v : V} {ls : List (List Str)} {m : Str} (hm : ("lines" == m) = false) (h : (tBook K C).R G v ls) : ∃ a dx gs, v = .ref a ∧ G a = some (.ins C dx gs) ∧ gs.lookup m = none := by
  obtain ⟨b, rfl, ⟨dx, p, h1, _⟩, _⟩ := h
  refine ⟨b, dx, _, rfl, h1, ?_⟩
  have : (m == "lines") = false := by rw [BEq.comm]; exact hm
  simp [List.lookup, this]
theorem deal_ins {CB C : Addr} {G : Hp} {v : V} {d : DealM} {m : Str} (hm : (m == "bound") = false ∧ (m == "fields") = false ∧ (m == "homes") = false) (h : (tDeal K CB C).R G v d) : ∃ a dx gs, v = .ref a ∧ G a = some (.ins C dx gs) ∧ gs.lookup m = none := by
  obtain ⟨a, b, kvs, rfl, ⟨dx, pf, ph, a0, a1, h1, _⟩, _⟩ := h
  exact ⟨a, dx, _, rfl, h1, by simp [List.lookup, hm.1, hm.2.1, hm.2.2]⟩
/-! ### earlier promises -/
theorem ad__law_numbers {G : Hp} {vs : List V} {ns : List Int} {m : Int} (ha : ArgsR G vs [⟨tL K tI, ns⟩, ⟨tI, m⟩]) (h : 0 ≤ m ∧ m ≤ 5000) : (R__law_numbers K).R vs G (.ok (pNums m.toNat)) := by
  obtain ⟨v, w, rfl, h1, rfl⟩ := args2 ha
  obtain ⟨p, rfl, h2⟩ := ints_of h1
  exact ⟨p, ns, m, rfl, h2, h.1, h.2, rfl⟩
theorem cv_nums {m : Int} (hm : m ≤ 5000) : ∀ N v, pNums m.toNat N v → ∃ y, (tW tI).R N v y ∧ Nums m.toNat y := fun N v ⟨p, ns, h1, h2, h3⟩ => by
  subst h1
  exact ⟨ns, w_ints h2 (by have := h3.1; omega), h3⟩
theorem ad__law_book {G : Hp} {vs : List V} {ns : List Int} {n : Int} (ha : ArgsR G vs [⟨tL K tI, ns⟩, ⟨tI, n⟩]) (h : (∀ x ∈ ns, 0 ≤ x ∧ x < 9967) ∧ 9 + 6 * n ≤ ns.length ∧ 1 ≤ n ∧ n ≤ 40) : (R__law_book K).R vs G (.ok (pGood K n.toNat)) := by
  obtain ⟨v, w, rfl, h1, rfl⟩ := args2 ha
  obtain ⟨p, rfl, h2⟩ := nm_of h1 h.1
  exact ⟨p, ns, n, rfl, h2, h.2.1, h.2.2.1, h.2.2.2, rfl⟩
theorem cv_good {n : Nat} : ∀ N v, pGood K n N v → ∃ y, (tW (tW tX)).R N v y ∧ GB n y ∧ ∀ l ∈ y, l.length ≤ 1000 := fun N v ⟨p, ls, h1, h2, h3, h4⟩ => by
  subst h1
  exact ⟨ls, w_cells h4 h2.1.2.1 h2.1.2.2, h3, fun l hl => (h2.1.2.2 l hl).1⟩
theorem ad__law_copyT {G : Hp} {vs : List V} {ls : List (List Str)} (ha : ArgsR G vs [⟨tL K (tL K tX), ls⟩]) (h : ls.length ≤ 1000 ∧ ∀ l ∈ ls, l.length ≤ 1000) : (R__law_copy2 K).R vs G (.ok (pRows K ls)) := by
  obtain ⟨v, rfl, h1⟩ := args1 ha
  obtain ⟨p, rfl, h2⟩ := bk_of h1 h.1 h.2
  exact .inl ⟨p, ls, rfl, h2, rfl⟩
theorem cv_rows {ls : List (List Str)} : ∀ N v, pRows K ls N v → (tW (tW tX)).R N v ls := fun N v ⟨p, h1, h2, h3⟩ => by
  subst h1
  exact w_cells h3 h2.2.1 h2.2.2
theorem ad__law_copyI {G : Hp} {vs : List V} {rs : List (List Int)} (ha : ArgsR G vs [⟨tL K (tL K tI), rs⟩]) (h : rs.length ≤ 1000 ∧ ∀ l ∈ rs, l.length ≤ 1000) : (R__law_copy2 K).R vs G (.ok (pRw rs)) := by
  obtain ⟨v, rfl, h1⟩ := args1 ha
  obtain ⟨p, rfl, h2⟩ := rw_of h1 h.1 h.2
  exact .inr ⟨p, rs, rfl, h2, rfl⟩
theorem cv_rws {rs : List (List Int)} (h1 : rs.length ≤ 1000) (h2 : ∀ l ∈ rs, l.length ≤ 1000) : ∀ N v, pRw rs N v → (tW (tW tI)).R N v rs := fun N v ⟨p, xs, h3, h4, h5⟩ => by
  subst h3
  exact w_rws h4 h5 (by omega) fun l hl => by have := h2 l hl; omega
theorem ad_Book {C : Addr} {G : Hp} {vs : List V} {ls : List (List Str)} (ha : ArgsR G vs [⟨tL K (tL K tX), ls⟩]) (h : needM ls = none ∧ ls.length ≤ 1000 ∧ ∀ l ∈ ls, l.length ≤ 1000) : (R_Book K C).R vs G (.ok (pBook K C ls)) := by
  obtain ⟨v, rfl, h1⟩ := args1 ha
  obtain ⟨p, rfl, h2⟩ := bk_of h1 h.2.1 h.2.2
  exact ⟨p, ls, rfl, h2, (needR_ok h.1).symm⟩
theorem dealM_rows {n : Nat} {F0 F1 : List (List Int)} (h : dealM n F0 F1 = true) : fldM n F0 = true ∧ fldM n F1 = true ∧ goodP [F0, F1] = true := by
  unfold dealM at h
  simp only [Bool.and_eq_true] at h
  exact h
theorem fld_le {n : Nat} {F : List (List Int)} (h : fldM n F = true) : F.length ≤ 1000 ∧ ∀ l ∈ F, l.length ≤ 1000 := by
  obtain ⟨h1, h2⟩ := fld_rows h
  exact ⟨by omega, fun l hl => by have := (h2 l hl).1; omega⟩
theorem list2 {α : Type} {l : List α} (h : l.length = 2) : ∃ a b, l = [a, b] := by
  match l, h with
  | [a, b], _ => exact ⟨a, b, rfl⟩
theorem get2a {α : Type} [Inhabited α] {a b : α} : getI [a, b] 0 = a := rfl
theorem get2b {α : Type} [Inhabited α] {a b : α} : getI [a, b] 1 = b := rfl
theorem ad__law_made {CB C : Addr} {G : Hp} {vs : List V} {ls : List (List Str)} {rows : List (List (List Int))} (ha : ArgsR G vs [⟨tBook K CB, ls⟩, ⟨tL K (tL K (tL K tI)), rows⟩]) (h : rows.length = 2 ∧ dealM ls.length (getI rows 0) (getI rows 1) = true) :
    ∃ P, (R__law_made K CB C).R vs G (.ok P) ∧ ∀ N v G', Ex G G' → Ex N G' → P N v → (tDeal K CB C).R G' v ⟨ls, getI rows 0, getI rows 1⟩ := by
  obtain ⟨hl, hd⟩ := h
  obtain ⟨F0, F1, rfl⟩ := list2 hl
  rw [get2a, get2b] at hd ⊢
  obtain ⟨v, w, rfl, ⟨b, rfl, h1⟩, p, xs, rfl, h2, h3, h4⟩ := args2 ha
  cases h3 with
  | cons a h3 =>
    cases h3 with
    | cons b' h3 =>
      cases h3
      obtain ⟨d0, d1, d2⟩ := dealM_rows hd
      obtain ⟨p0, rfl, g0⟩ := rw_of a (fld_le d0).1 (fld_le d0).2
      obtain ⟨p1, rfl, g1⟩ := rw_of b' (fld_le d1).1 (fld_le d1).2
      refine ⟨pDeal K C b F0 F1, ⟨b, p, ls, F0, F1, rfl, h1, ⟨p0, p1, h2, g0, g1⟩, by unfold dealR; rw [if_pos hd]⟩, fun N v G' e1 e2 ⟨d, kvs, ev, hk⟩ => ?_⟩
      subst ev
      exact ⟨d, b, kvs, rfl, hk.mono e2, h1.mono e1, hd⟩
/-- fields as they were drawn -/
def FldsOk (n : Nat) (rows : List (List (List Int))) : Prop := ∃ n0 C, FOk n n0 C ∧ rows = [C.take n0, C.drop n0]
theorem ad__law_fields {G : Hp} {vs : List V} {ns : List Int} {n : Int} (ha : ArgsR G vs [⟨tI, n⟩, ⟨tL K tI, ns⟩]) (h : (∀ x ∈ ns, 0 ≤ x ∧ x < 9967) ∧ 0 ≤ n ∧ 3 + n ≤ ns.length ∧ n ≤ 1000) : (R__law_fields K).R vs G (.ok (pFds n.toNat)) := by
  obtain ⟨v, w, rfl, rfl, h1⟩ := args2 ha
  obtain ⟨p, rfl, h2⟩ := nm_of h1 h.1
  have e : n = ((n.toNat : Nat) : Int) := by omega
  exact ⟨n.toNat, p, ns, by rw [← e], h2, by omega, by omega, rfl⟩
theorem CA.wts {M : Hp} {ts : List Addr} {C : List (List Int)} (h : CA M ts (C.map fun l => l.map V.int)) (hl : ∀ l ∈ C, l.length ≤ 12) : Paired ((tW tI).R M) (ts.map V.ref) C := by
  induction C generalizing ts with
  | nil => cases h; exact .nil
  | cons l r ih =>
    cases h with
    | cons h1 h2 => exact .cons (w_ints h1 (by have := hl l List.mem_cons_self; omega)) (ih h2 fun x hx => hl x (List.mem_cons_of_mem _ hx))
theorem cv_flds {n : Nat} : ∀ N v, pFds n N v → ∃ y, (tW (tW (tW tI))).R N v y ∧ FldsOk n y := fun N v ⟨p, n0, C, h1, ⟨a, b, L, g1, g2, g3, g4, _⟩, h3⟩ => by
  subst h1
  have hp := CA.wts g4 h3.len
  have hi := h3.hi
  have lo := h3.lo
  have e1 : (L.take n0).map V.ref = (L.map V.ref).take n0 := by rw [List.map_take]
  have e2 : (L.drop n0).map V.ref = (L.map V.ref).drop n0 := by rw [List.map_drop]
  rw [e1] at g2
  rw [e2] at g3
  exact ⟨[C.take n0, C.drop n0], ⟨p, _, rfl, g1, .cons ⟨a, _, rfl, g2, paired_take' n0 hp, by rw [List.length_take]; omega⟩ (.cons ⟨b, _, rfl, g3, paired_drop' n0 hp, by rw [List.length_drop]; omega⟩ .nil), Nat.le_of_ble_eq_true rfl⟩, n0, C, h3, rfl⟩
theorem FldsOk.deal {n : Nat} {rows : List (List (List Int))} (h : FldsOk n rows) : rows.length = 2 ∧ dealM n (getI rows 0) (getI rows 1) = true := by
  obtain ⟨n0, C, h1, rfl⟩ := h
  rw [get2a, get2b]
  exact ⟨rfl, h1.deal⟩
/-- what a sweep touches, or the class of the refusal -/
def swErr (d : DealM) (s : T4 Int Int Int Int) : Option Str := if rowOk d.F0 d.F1 s.a s.b = true then (if cardOk d.F0 d.F1 s.a s.b s.c s.d = true then none else some "NoCard") else some "NoField"
def swTo (d : DealM) (s : T4 Int Int Int Int) : List Int := swM d.F0 d.F1 s.a s.b s.c s.d
theorem ad_Deal_swept {CB C : Addr} {G : Hp} {vs : List V} {d : DealM} {s : T4 Int Int Int Int} {r : Res} (ha : ArgsR G vs [⟨tDeal K CB C, d⟩, ⟨tT4 K tI tI tI tI, s⟩]) (hr : r = resE (swErr d s) (pLst ((swTo d s).map V.int))) : (R_Deal_swept K C).R vs G r := by
  obtain ⟨v, w, rfl, ⟨a, b, kvs, rfl, h1, h2, h3⟩, p, i, j, k, l, rfl, h5, rfl, rfl, rfl, rfl⟩ := args2 ha
  refine ⟨a, b, p, d.F0, d.F1, kvs, s.a, s.b, s.c, s.d, rfl, h1, h5, ?_⟩
  subst hr
  unfold swErr sweptR swTo
  by_cases h1 : rowOk d.F0 d.F1 s.a s.b = true
  · rw [if_pos h1, if_pos h1]
    by_cases h2 : cardOk d.F0 d.F1 s.a s.b s.c s.d = true
    · rw [if_pos h2, if_pos h2]; rfl
    · rw [if_neg h2, if_neg h2]; rfl
  · rw [if_neg h1, if_neg h1]; rfl
theorem sw_len {d : DealM} {s : T4 Int Int Int Int} (h : swErr d s = none) (hd : dealM d.ls.length d.F0 d.F1 = true) : (swTo d s).length ≤ 12 := by
  unfold swErr at h
  split at h
  · rename_i h1
    obtain ⟨_, _, hl, hrow⟩ := row_ok h1
    obtain ⟨d0, d1, _⟩ := dealM_rows hd
    have hm := List.mem_of_getElem? hrow
    have : (rowAt d.F0 d.F1 s.a s.b).length ≤ 12 := by
      unfold fieldM at hm
      split at hm
      · exact ((fld_rows d0).2 _ hm).1
      · exact ((fld_rows d1).2 _ hm).1
    unfold swTo swM
    rw [List.length_drop, List.length_take]
    omega
  · cases h
theorem cv_lst {l : List Int} (h : l.length ≤ 40000) : ∀ N v, pLst (l.map V.int) N v → (tW tI).R N v l := fun N v ⟨p, h1, h2⟩ => by
  subst h1
  exact w_ints h2 h
theorem ad__law_same {α : Type} {T S : Tp α} [Z : Pla K T] [Y : Pla K S] {G : Hp} {vs : List V} {x y : α} {n : Nat} (hxy : Z.enc = Y.enc) (hn : Z.dep < n) (ha : ArgsR G vs [⟨T, x⟩, ⟨S, y⟩]) (h : x = y) : (R__law_same K n).R vs G (.ok (is (.bl true))) := by
  obtain ⟨v, w, rfl, h1, h2⟩ := args2 ha
  subst h
  have h3 := Y.dp h2
  rw [← hxy] at h3
  exact ⟨v, w, Z.enc x, rfl, Z.dp h1, h3, Z.sm h1, Nat.lt_of_le_of_lt (Z.depth x) hn, rfl⟩
end
local macro_rules | `(tactic| wtm_at "vc") => `(tactic| first
  | assumption
  | omega
  | trivial
  | (simp only [rngI_get, rngI2_get, enumI_get, rngI_mem, rngI2_mem, rngI_len, rngI2_len, enumI_len, List.length_nil, List.length_cons, List.length_append, List.length_map, List.length_set, Bool.and_eq_true, Bool.or_eq_true, Bool.or_eq_false_iff, Bool.and_eq_false_iff, Bool.not_eq_true', Bool.not_eq_false', decide_eq_true_eq, decide_eq_false_iff_not, Int.reduceToNat, Nums] at *; omega)
  | (subst_vars; simp only [rngI_get, rngI2_get, enumI_get, rngI_mem, rngI2_mem, rngI_len, rngI2_len, enumI_len, List.length_nil, List.length_cons, List.length_append, List.length_map, List.length_set, Bool.and_eq_true, Bool.or_eq_true, Bool.or_eq_false_iff, Bool.and_eq_false_iff, Bool.not_eq_true', Bool.not_eq_false', decide_eq_true_eq, decide_eq_false_iff_not, Int.reduceToNat, Nums] at *; omega)
  | rfl
  | decide)
local macro_rules | `(tactic| wtm_at "asm") => `(tactic| assumption)
section
variable {P : Program} {w : World} {K : PySem.W.Frag} {mg : Str → Option Value} {base : Heap}
theorem deal_ok {CB C : Addr} {H : Hp} {v : V} {d : DealM} (h : (tDeal K CB C).R H v d) : dealM d.ls.length d.F0 d.F1 = true ∧ needM d.ls = none := by
  obtain ⟨_, _, _, _, _, h1, h2⟩ := h
  exact ⟨h2, h1.2⟩
theorem book_ok {C : Addr} {H : Hp} {v : V} {ls : List (List Str)} (h : (tBook K C).R H v ls) : needM ls = none := by
  obtain ⟨_, _, h⟩ := h
  exact h.2
/-- rows of two fields -/
structure RowsOk (rows : List (List (List Int))) : Prop where
  two : rows.length = 2
  row : ∀ r ∈ rows, (1 ≤ r.length ∧ r.length ≤ 3) ∧ ∀ c ∈ r, c.length ≤ 12
theorem getI_mem {α : Type} [Inhabited α] {l : List α} {i : Int} (h : -(l.length : Int) ≤ i ∧ i < l.length) : getI l i ∈ l := by
  have := atI_get h
  have e : atI l i = some (getI l i) := this
  unfold atI at e
  cases q : ixN l.length i with
  | none => rw [q] at e; cases e
  | some j =>
    rw [q] at e
    exact List.mem_of_getElem? e
theorem rows_fld {rows : List (List (List Int))} (h : RowsOk rows) {i : Nat} {y : Int} (h1 : (rngI 2)[i]? = some y) : (y = 0 ∨ y = 1) ∧ (getI rows y).length ≤ 3 ∧ ∀ c ∈ getI rows y, c.length ≤ 12 := by
  obtain ⟨h2, h3⟩ := rngI_get.mp h1
  have := h.row _ (getI_mem (l := rows) (i := y) (by have := h.two; omega))
  exact ⟨by omega, this.1.2, this.2⟩
theorem take_succ_of {α : Type} {l : List α} {i : Nat} {y : α} (h : l[i]? = some y) : l.take (i + 1) = l.take i ++ [y] := by
  obtain ⟨hi, rfl⟩ := List.getElem?_eq_some_iff.mp h
  exact (List.take_append_getElem hi).symm
theorem fm_succ {α β : Type} {l : List α} {i : Nat} {y : α} {f : α → List β} (h : l[i]? = some y) : (l.take (i + 1)).flatMap f = (l.take i).flatMap f ++ f y := by
  rw [take_succ_of h, List.flatMap_append, List.flatMap_cons, List.flatMap_nil, List.append_nil]
theorem rows_get {rows : List (List (List Int))} (h : RowsOk rows) {i : Int} (h0 : 0 ≤ i) (h1 : i < 2) : (1 ≤ (getI rows i).length ∧ (getI rows i).length ≤ 3) ∧ ∀ c ∈ getI rows i, c.length ≤ 12 := h.row _ (getI_mem (by have := h.two; omega))
theorem get3 {x a b c : Int} : getI [a, b, c] (x % 3) = a ∨ getI [a, b, c] (x % 3) = b ∨ getI [a, b, c] (x % 3) = c := by
  have h : x % 3 = 0 ∨ x % 3 = 1 ∨ x % 3 = 2 := by omega
  rcases h with h | h | h <;> rw [h]
  · exact .inl rfl
  · exact .inr (.inl rfl)
  · exact .inr (.inr rfl)
theorem cutI_from {α : Type} (l : List α) {a : Int} (ha : 0 ≤ a) : cutI l (some a) none = l.drop a.toNat := by
  obtain ⟨n, rfl⟩ : ∃ n : Nat, a = n := ⟨a.toNat, by omega⟩
  unfold cutI
  rw [HT.sIx_nat, HT.sIx_none, Int.toNat_natCast]
  by_cases h : n ≤ l.length
  · rw [Nat.min_eq_left h, List.take_of_length_le (by rw [List.length_drop]; omega)]
  · rw [Nat.min_eq_right (by omega), List.drop_length, List.drop_of_length_le (by omega), List.take_nil]
theorem Nums.cut {n : Nat} {l : List Int} (h : Nums n l) {a : Int} (ha : 0 ≤ a) : (∀ x ∈ cutI l (some a) none, 0 ≤ x ∧ x < 9967) ∧ (cutI l (some a) none).length = n - a.toNat := by
  rw [cutI_from l ha]
  exact ⟨fun x hx => h.2 x (List.mem_of_mem_drop hx), by rw [List.length_drop, h.1]⟩
theorem FldsOk.rows {n : Nat} {rows : List (List (List Int))} (h : FldsOk n rows) : RowsOk rows := by
  obtain ⟨n0, C, h1, rfl⟩ := h
  have lo := h1.lo
  have hi := h1.hi
  refine ⟨rfl, fun r hr => ?_⟩
  rcases List.mem_cons.mp hr with z | z
  · subst z
    exact ⟨by rw [List.length_take]; omega, fun c hc => h1.len c (List.mem_of_mem_take hc)⟩
  · rcases List.mem_cons.mp z with z | z
    · subst z
      exact ⟨by rw [List.length_drop]; omega, fun c hc => h1.len c (List.mem_of_mem_drop hc)⟩
    · cases z
theorem rows_len {n : Nat} {F0 F1 : List (List Int)} (h : dealM n F0 F1 = true) (f r : Int) : (rowAt F0 F1 f r).length ≤ 12 := by
  obtain ⟨d0, d1, _⟩ := dealM_rows h
  unfold rowAt
  rw [List.getD_eq_getElem?_getD]
  cases q : (fieldM F0 F1 f)[r.toNat]? with
  | none => exact Nat.zero_le _
  | some l =>
    have hm := List.mem_of_getElem? q
    unfold fieldM at hm
    split at hm
    · exact ((fld_rows d0).2 _ hm).1
    · exact ((fld_rows d1).2 _ hm).1
theorem sw_le {n : Nat} {d : DealM} (h : dealM n d.F0 d.F1 = true) (s : T4 Int Int Int Int) : (swTo d s).length ≤ 12 := by
  unfold swTo swM
  rw [List.length_drop, List.length_take]
  have := rows_len h s.a s.b
  omega
theorem sw_which {d : DealM} {s : T4 Int Int Int Int} {x : Str} (h : swErr d s = some x) : x = "NoField" ∨ x = "NoCard" := by
  unfold swErr at h
  split at h
  · split at h
    · cases h
    · cases h; exact .inr rfl
  · cases h; exact .inl rfl
theorem get3_le {x a b c : Int} {M : Nat} (ha : a.toNat ≤ M) (hb : b.toNat ≤ M) (hc : c.toNat ≤ M) : (getI [a, b, c] (x % 3)).toNat ≤ M := by
  rcases get3 (x := x) (a := a) (b := b) (c := c) with h | h | h <;> rw [h] <;> assumption
theorem get3_rng {x a b c : Int} {M : Int} (ha : 1 ≤ a ∧ a ≤ M) (hb : 1 ≤ b ∧ b ≤ M) (hc : 1 ≤ c ∧ c ≤ M) : 1 ≤ getI [a, b, c] (x % 3) ∧ getI [a, b, c] (x % 3) ≤ M := by
  rcases get3 (x := x) (a := a) (b := b) (c := c) with h | h | h <;> rw [h] <;> assumption
theorem book_pre {n : Nat} {l : List Int} {k m : Int} (M : Int) (h : Nums n l) (hm : 1 ≤ m ∧ m ≤ M) (hk : 0 ≤ k) (hn : 9 + 6 * M + k ≤ n) (hM : M ≤ 40) : (∀ x ∈ cutI l (some k) none, 0 ≤ x ∧ x < 9967) ∧ 9 + 6 * m ≤ (cutI l (some k) none).length ∧ 1 ≤ m ∧ m ≤ 40 := by
  obtain ⟨h1, h2⟩ := h.cut hk
  exact ⟨h1, by omega, hm.1, by omega⟩
theorem flds_pre {n m : Nat} {l : List Int} {k : Int} {vs : List (List Str)} (M : Nat) (h : Nums n l) (hb : GB m vs ∧ ∀ l ∈ vs, l.length ≤ 1000) (hm : m ≤ M) (hk : 0 ≤ k) (hn : 3 + (M : Int) + k ≤ n) (hM : M ≤ 40) : (∀ x ∈ cutI l (some k) none, 0 ≤ x ∧ x < 9967) ∧ 0 ≤ (vs.length : Int) ∧ 3 + (vs.length : Int) ≤ (cutI l (some k) none).length ∧ (vs.length : Int) ≤ 1000 := by
  obtain ⟨h1, h2⟩ := h.cut hk
  have := hb.1.len
  exact ⟨h1, by omega, by omega, by omega⟩
theorem unrd_pre {n m : Nat} {l : List Int} {k : Int} {vs : List (List Str)} (M : Nat) (h : Nums n l) (hb : GB m vs ∧ ∀ l ∈ vs, l.length ≤ 1000) (hm : m ≤ M) (hk : 0 ≤ k) (hn : 1 + (M : Int) + k ≤ n) (hM : M ≤ 40) : (∀ x ∈ cutI l (some k) none, 0 ≤ x ∧ x < 9967) ∧ 0 ≤ (vs.length : Int) ∧ 1 + (vs.length : Int) ≤ (cutI l (some k) none).length ∧ (vs.length : Int) ≤ 1000 := by
  obtain ⟨h1, h2⟩ := h.cut hk
  have := hb.1.len
  exact ⟨h1, by omega, by omega, by omega⟩
theorem book_lens {m : Nat} {vs : List (List Str)} (hb : GB m vs ∧ ∀ l ∈ vs, l.length ≤ 1000) (hm : m ≤ 40) : needM vs = none ∧ vs.length ≤ 1000 ∧ ∀ l ∈ vs, l.length ≤ 1000 := by
  have := hb.1.len
  exact ⟨hb.1.need hm, by omega, hb.2⟩
/-- all sweeps of a row, of rows, of fields -/
def swRow (f r : Int) (cards : List Int) : List (T4 Int Int Int Int) := (rngI cards.length).flatMap fun a => (rngI2 a cards.length).map fun b => ⟨f, r, a, b⟩
def swFld (f : Int) (rows : List (List Int)) : List (T4 Int Int Int Int) := (enumI rows).flatMap fun p => swRow f p.1 p.2
def sweepsM (rows : List (List (List Int))) : List (T4 Int Int Int Int) := (rngI 2).flatMap fun f => swFld f (getI rows f)
end
section
variable {P : Program} {w : World} {K : PySem.W.Frag} {mg : Str → Option Value} {base : Heap}
/-! ### fields of a deal; where a verse lies -/
section
variable {σ : L2.St} {H B : Hp} {te : TE} {CB C : Addr} {d : DealM}
theorem ed_fields (T : TDeal K mg C) (h : Ed (tDeal K CB C) te σ H B d) (eB : Ex B H) : Ed (tL K (tL K (tL K tI))) (tFld K te "fields") σ H B [d.F0, d.F1] := fun H1 e Q q => h H1 e _ fun v H2 N e2 e3 f ⟨a, b, kvs, ev, ⟨dx, pf, ph, a0, a1, h1, h2, h3, h4, _⟩, _, hd⟩ => by
  subst ev
  have eU : Ex (uni B N) H2 := uni_ex ((eB.trans e).trans e2) e3
  obtain ⟨d0, d1, _⟩ := dealM_rows hd
  have row : ∀ {p : Addr} {F : List (List Int)} {n : Nat}, Rw K (uni B N) p F → fldM n F = true → (tL K (tL K tI)).R (uni B N) (.ref p) F := fun {p F n} hr hf => by
    obtain ⟨xs, g1, g2⟩ := hr.rows
    obtain ⟨g3, g4⟩ := fld_le hf
    refine ⟨p, xs, rfl, g1, paired_of (Paired.length g2) fun i x l hx hl => ?_, by omega⟩
    obtain ⟨q, g5, g6⟩ := g2.get hl
    rw [hx] at g5
    cases g5
    exact ⟨q, _, rfl, g6, paired_mapI l, by have := g4 l (List.mem_of_getElem? hl); omega⟩
  exact ⟨a, C, dx, _, .ref pf, rfl, eU _ _ h1, T.cl, T.n_fields, rfl, q _ H2 N e2 e3 f ⟨pf, _, rfl, sq_of h2, .cons (row h3 d0) (.cons (row h4 d1) .nil), Nat.le_of_ble_eq_true rfl⟩⟩
theorem ed_bound (T : TDeal K mg C) (h : Ed (tDeal K CB C) te σ H B d) (eB : Ex B H) : Ed (tBook K CB) (tFld K te "bound") σ H B d.ls := fun H1 e Q q => h H1 e _ fun v H2 N e2 e3 f ⟨a, b, kvs, ev, ⟨dx, pf, ph, a0, a1, h1, _⟩, hb, hd⟩ => by
  subst ev
  have eU : Ex (uni B N) H2 := uni_ex ((eB.trans e).trans e2) e3
  exact ⟨a, C, dx, _, .ref b, rfl, eU _ _ h1, T.cl, T.n_bound, rfl, q _ H2 N e2 e3 f ⟨b, rfl, hb⟩⟩
end
/-- the field, row and place of a verse -/
def whereM (F0 F1 : List (List Int)) (v : Int) : Option (T3 Int Int Int) := ((plM [F0, F1]).find? fun q => decide (q.1 = v)).map fun q => ⟨(q.2.1 : Nat), (q.2.2.1 : Nat), (q.2.2.2 : Nat)⟩
def numErr (n : Nat) (ns : List Int) : Option Str := if okN n ns = true then none else some "NoVerse"
theorem num_ok {n : Nat} {ns : List Int} {P : Hp → V → Prop} : okR n ns P = resE (numErr n ns) P := by
  unfold okR numErr
  split <;> rfl
theorem nl_of {H : Hp} {v : V} {l : List Int} (h : (tL K tI).R H v l) (hl : l.length ≤ 1000) : ∃ p, v = .ref p ∧ Nl K H p l := by
  obtain ⟨p, h1, h2⟩ := ints_of h
  exact ⟨p, h1, h2, hl⟩
theorem ad_need_numbers {C : Addr} {G : Hp} {vs : List V} {ls : List (List Str)} {ns : List Int} {r : Res} (ha : ArgsR G vs [⟨tBook K C, ls⟩, ⟨tL K tI, ns⟩]) (hl : ns.length ≤ 1000) (hr : r = resE (numErr ls.length ns) (is .non)) : (R_need_numbers K C).R vs G r := by
  obtain ⟨v, w, rfl, ⟨b, rfl, h1⟩, h2⟩ := args2 ha
  obtain ⟨p, rfl, h3⟩ := nl_of h2 hl
  exact ⟨b, p, ls, ns, rfl, h1, h3, by rw [hr, num_ok]⟩
theorem val_kp {G : Hp} {kvs : List (Key × V)} {ps : List Pl} (h : KP G kvs ps) (v : Int) : (tO (tT3 K tI tI tI)).R G ((valV kvs (.inl v)).getD .non) ((ps.find? fun q => decide (q.1 = v)).map fun q => ⟨(q.2.1 : Nat), (q.2.2.1 : Nat), (q.2.2.2 : Nat)⟩) := by
  induction h with
  | nil => rfl
  | cons a r ih =>
    rename_i kv q kvs' ps'
    obtain ⟨k1, t, k2, k3⟩ := a
    by_cases e : q.1 = v
    · have z1 : valV (kv :: kvs') (.inl v) = some kv.2 := valV_pos (by rw [k1, e])
      rw [z1, List.find?_cons, decide_eq_true e, k2]
      exact ⟨⟨t, _, _, _, rfl, st_of k3, rfl, rfl, rfl⟩, fun z => nomatch z⟩
    · have z1 : valV (kv :: kvs') (.inl v) = valV kvs' (.inl v) := valV_neg (fun z => e (by rw [k1] at z; exact Sum.inl.inj z))
      rw [z1, List.find?_cons, decide_eq_false e]
      exact ih
theorem ad_Deal_where {CB C : Addr} {G : Hp} {vs : List V} {d : DealM} {v : Int} {e : Option Str} (ha : ArgsR G vs [⟨tDeal K CB C, d⟩, ⟨tI, v⟩]) (he : numErr d.ls.length [v] = none) :
    ∃ P, (R_Deal_where K CB C).R vs G (.ok P) ∧ ∀ N x G', Ex G G' → Ex N G' → P N x → (tO (tT3 K tI tI tI)).R G' x (whereM d.F0 d.F1 v) := by
  obtain ⟨x, y, rfl, ⟨a, b, kvs, rfl, h1, h2, h3⟩, rfl⟩ := args2 ha
  refine ⟨is ((valV kvs (.inl v)).getD .non), ⟨a, b, d.ls, d.F0, d.F1, kvs, v, rfl, h1, h2, by rw [num_ok, he]; rfl⟩, fun N x G' e1 _ hx => ?_⟩
  have hx : x = _ := hx
  subst hx
  obtain ⟨dx, pf, ph, a0, a1, _, _, _, _, _, hk⟩ := h1
  exact Tp.up _ e1 (val_kp hk v)
theorem ad_Deal_whereE {CB C : Addr} {G : Hp} {vs : List V} {d : DealM} {v : Int} {x : Str} (ha : ArgsR G vs [⟨tDeal K CB C, d⟩, ⟨tI, v⟩]) (he : numErr d.ls.length [v] = some x) : (R_Deal_where K CB C).R vs G (.err x []) := by
  obtain ⟨z, y, rfl, ⟨a, b, kvs, rfl, h1, h2, h3⟩, rfl⟩ := args2 ha
  exact ⟨a, b, d.ls, d.F0, d.F1, kvs, v, rfl, h1, h2, by rw [num_ok, he]; rfl⟩
theorem find_nd {ps : List Pl} {q : Pl} (hn : (ps.map (·.1)).Nodup) (hm : q ∈ ps) : ps.find? (fun z => decide (z.1 = q.1)) = some q := by
  induction ps with
  | nil => cases hm
  | cons a r ih =>
    rw [List.map_cons, List.nodup_cons] at hn
    rcases List.mem_cons.mp hm with z | z
    · subst z
      rw [List.find?_cons, decide_eq_true rfl]
    · have : a.1 ≠ q.1 := fun e => hn.1 (e ▸ List.mem_map.mpr ⟨q, z, rfl⟩)
      rw [List.find?_cons, decide_eq_false this]
      exact ih hn.2 z
theorem find_no {ps : List Pl} {v : Int} (hn : v ∉ ps.map (·.1)) : ps.find? (fun z => decide (z.1 = v)) = none := by
  rw [List.find?_eq_none]
  intro q hq z
  exact hn (of_decide_eq_true z ▸ List.mem_map.mpr ⟨q, hq, rfl⟩)
theorem ad__law_where {G : Hp} {vs : List V} {rows : List (List (List Int))} {v : Int} (ha : ArgsR G vs [⟨tL K (tL K (tL K tI)), rows⟩, ⟨tI, v⟩]) (h : rows.length = 2 ∧ ∃ n, dealM n (getI rows 0) (getI rows 1) = true) : (R__law_where K).R vs G (.ok (pWh (getI rows 0) (getI rows 1) v)) := by
  obtain ⟨hl, n, hd⟩ := h
  obtain ⟨F0, F1, rfl⟩ := list2 hl
  rw [get2a, get2b] at hd ⊢
  obtain ⟨x, y, rfl, ⟨p, xs, rfl, h2, h3, h4⟩, rfl⟩ := args2 ha
  cases h3 with
  | cons a h3 =>
    cases h3 with
    | cons b' h3 =>
      cases h3
      obtain ⟨d0, d1, d2⟩ := dealM_rows hd
      obtain ⟨p0, rfl, g0⟩ := rw_of a (fld_le d0).1 (fld_le d0).2
      obtain ⟨p1, rfl, g1⟩ := rw_of b' (fld_le d1).1 (fld_le d1).2
      exact ⟨p, F0, F1, v, rfl, ⟨p0, p1, h2, g0, g1⟩, rfl⟩
theorem cv_where {F0 F1 : List (List Int)} {v : Int} {n : Nat} (hd : dealM n F0 F1 = true) : ∀ N x, pWh F0 F1 v N x → (tO (tT3 K tI tI tI)).R N x (whereM F0 F1 v) := fun N x h => by
  obtain ⟨_, _, d2⟩ := dealM_rows hd
  have nd := of_decide_eq_true d2
  rcases h with ⟨t, f, r, k, rfl, h1, h2⟩ | ⟨rfl, h1⟩
  · have e : whereM F0 F1 v = some ⟨(f : Nat), (r : Nat), (k : Nat)⟩ := by unfold whereM; rw [find_nd nd h2]; rfl
    rw [e]
    exact ⟨⟨t, _, _, _, rfl, st_of h1, rfl, rfl, rfl⟩, fun z => nomatch z⟩
  · have e : whereM F0 F1 v = none := by unfold whereM; rw [find_no h1]; rfl
    rw [e]
    rfl
/-- unread verses as they were drawn -/
def UnI (n : Nat) (us : List Int) : Prop := ∃ ns, Un n ns ∧ us = ns.map fun i => ((i : Nat) : Int)
theorem ad__law_unread {G : Hp} {vs : List V} {ns : List Int} {n : Int} (ha : ArgsR G vs [⟨tI, n⟩, ⟨tL K tI, ns⟩]) (h : (∀ x ∈ ns, 0 ≤ x ∧ x < 9967) ∧ 0 ≤ n ∧ 1 + n ≤ ns.length ∧ n ≤ 1000) : (R__law_unread K).R vs G (.ok (pUn n.toNat)) := by
  obtain ⟨v, w, rfl, rfl, h1⟩ := args2 ha
  obtain ⟨p, rfl, h2⟩ := nm_of h1 h.1
  have e : n = ((n.toNat : Nat) : Int) := by omega
  exact ⟨n.toNat, p, ns, by rw [← e], h2, by omega, by omega, rfl⟩
theorem cv_un {n : Nat} (hn : n ≤ 1000) : ∀ N v, pUn n N v → ∃ y, (tW tI).R N v y ∧ UnI n y := fun N v ⟨p, us, h1, h2, h3⟩ => by
  subst h1
  have e : nsV us = (us.map fun i => ((i : Nat) : Int)).map V.int := by unfold nsV; rw [List.map_map]; rfl
  rw [e] at h2
  exact ⟨_, w_ints h2 (by rw [List.length_map]; have := h3.2; omega), us, h3, rfl⟩
end
section
variable {P : Program} {w : World} {K : PySem.W.Frag} {mg : Str → Option Value} {base : Heap}
/-! ### meeting, the law's own meeting, what is heard -/
def nI (l : List Nat) : List Int := l.map fun i => ((i : Nat) : Int)
theorem nsV_nI (l : List Nat) : nsV l = (nI l).map V.int := by unfold nsV nI; rw [List.map_map]; rfl
theorem left_len (m : Nat) (ns : List Int) : (leftM m ns).length ≤ m := by
  unfold leftM
  have := List.length_filter_le (fun i => decide (((i : Nat) : Int) ∈ ns)) (List.range m)
  rwa [List.length_range] at this
def meetI (ls : List (List Str)) (ns : List Int) (h : List Str) : List Int := nI (meetM ls ns h)
theorem meet_len (ls : List (List Str)) (ns : List Int) (h : List Str) : (meetI ls ns h).length ≤ ls.length := by
  unfold meetI nI meetM
  rw [List.length_map]
  exact Nat.le_trans (List.length_filter_le _ _) (left_len _ _)
theorem cv_ns {l : List Nat} (h : l.length ≤ 40000) : ∀ N v, pNs l N v → (tW tI).R N v (nI l) := fun N v ⟨p, h1, h2⟩ => by
  subst h1
  rw [nsV_nI] at h2
  exact w_ints h2 (by unfold nI; rw [List.length_map]; exact h)
theorem ad_meeting {C : Addr} {G : Hp} {vs : List V} {ls : List (List Str)} {ns : List Int} {h : List Str} {r : Res} (ha : ArgsR G vs [⟨tBook K C, ls⟩, ⟨tL K tI, ns⟩, ⟨tL K tX, h⟩]) (hl : ns.length ≤ 1000 ∧ h.length ≤ 1000) (hr : r = resE (numErr ls.length ns) (pNs (meetM ls ns h))) : (R_meeting K C).R vs G r := by
  obtain ⟨v, w, u, rfl, ⟨b, rfl, h1⟩, h2, h3⟩ := args3 ha
  obtain ⟨p, rfl, h4⟩ := nl_of h2 hl.1
  obtain ⟨q, rfl, h5⟩ := ln_of h3 hl.2
  exact ⟨b, p, q, ls, ns, h, rfl, h1, h4, h5, by rw [hr, num_ok]⟩
theorem cv_meet {ls : List (List Str)} {ns : List Int} {h : List Str} (hl : ls.length ≤ 40000) : ∀ N v, pNs (meetM ls ns h) N v → (tW tI).R N v (meetI ls ns h) := cv_ns (by have := meet_len ls ns h; unfold meetI nI at this; rw [List.length_map] at this; omega)
theorem ad__law_meet {G : Hp} {vs : List V} {ls : List (List Str)} {ns : List Int} {h : List Str} (ha : ArgsR G vs [⟨tL K (tL K tX), ls⟩, ⟨tL K tI, ns⟩, ⟨tL K tX, h⟩]) (hl : (ls.length ≤ 1000 ∧ ∀ l ∈ ls, l.length ≤ 1000) ∧ ns.length ≤ 1000 ∧ h.length ≤ 1000) : (R__law_meet K).R vs G (.ok (pNs (meetM ls ns h))) := by
  obtain ⟨v, w, u, rfl, h1, h2, h3⟩ := args3 ha
  obtain ⟨b, rfl, h6⟩ := bk_of h1 hl.1.1 hl.1.2
  obtain ⟨p, rfl, h4⟩ := nl_of h2 hl.2.1
  obtain ⟨q, rfl, h5⟩ := ln_of h3 hl.2.2
  exact ⟨b, p, q, ls, ns, h, rfl, h6, h4, h5, rfl⟩
theorem ad_Deal_book {CB C : Addr} {G : Hp} {vs : List V} {d : DealM} (ha : ArgsR G vs [⟨tDeal K CB C, d⟩]) : ∃ P, (R_Deal_book K C).R vs G (.ok P) ∧ ∀ N x G', Ex G G' → Ex N G' → P N x → (tBook K CB).R G' x d.ls := by
  obtain ⟨x, rfl, a, b, kvs, rfl, h1, h2, h3⟩ := args1 ha
  refine ⟨is (.ref b), ⟨a, b, d.F0, d.F1, kvs, rfl, h1, rfl⟩, fun N x G' e1 _ hx => ?_⟩
  have hx : x = _ := hx
  subst hx
  exact ⟨b, rfl, h2.mono e1⟩
end
section
theorem getI_at {α : Type} [Inhabited α] {l : List α} {i : Nat} {x : α} (h : l[i]? = some x) : getI l (i : Int) = x := by
  have hl := get_lt h
  unfold getI atI
  rw [ixN_nat hl]
  show (l[i]?).getD default = x
  rw [h]
  rfl
theorem getI_last {α : Type} [Inhabited α] {l : List α} {x : α} (h : l[l.length - 1]? = some x) : getI l (-1) = x := by
  have hl := get_lt h
  unfold getI atI ixN
  rw [if_neg (by decide), if_pos (by omega)]
  have e : ((-1 : Int) + l.length).toNat = l.length - 1 := by omega
  show (l[((-1 : Int) + l.length).toNat]?).getD default = x
  rw [e, h]
  rfl
theorem pl_lies {F0 F1 : List (List Int)} {q : Pl} (h : q ∈ plM [F0, F1]) : ∃ l, q.2.1 < 2 ∧ (fieldM F0 F1 (q.2.1 : Int))[q.2.2.1]? = some l ∧ l[q.2.2.2]? = some q.1 := by
  have hc : ∀ {f : Nat} {rs : List (List Int)}, q ∈ rowsP f rs → q.2.1 = f ∧ ∃ l, rs[q.2.2.1]? = some l ∧ l[q.2.2.2]? = some q.1 := fun {f rs} h => by
    unfold rowsP at h
    obtain ⟨p, hp, h⟩ := List.mem_flatMap.mp h
    unfold cardsP at h
    obtain ⟨c, hc, rfl⟩ := List.mem_map.mp h
    have h1 := List.mem_zipIdx_iff_getElem?.mp hp
    have h2 := List.mem_zipIdx_iff_getElem?.mp hc
    exact ⟨rfl, p.1, h1, h2⟩
  have e : plM [F0, F1] = rowsP 0 F0 ++ rowsP 1 F1 := by simp [plM]
  rw [e] at h
  rcases List.mem_append.mp h with h | h
  · obtain ⟨h1, l, h2, h3⟩ := hc h
    exact ⟨l, by omega, by rw [h1]; exact h2, h3⟩
  · obtain ⟨h1, l, h2, h3⟩ := hc h
    exact ⟨l, by omega, by rw [h1]; exact h2, h3⟩
theorem getI_head {α : Type} [Inhabited α] {a : α} {l : List α} : getI (a :: l) 0 = a := getI_at (i := 0) rfl
end
section
variable {P : Program} {w : World} {K : PySem.W.Frag} {mg : Str → Option Value} {base : Heap}
theorem okN_err {n : Nat} {ns : List Int} (h : okN n ns = true) : numErr n ns = none := if_pos h
theorem okN_mem {n : Nat} {ns : List Int} : okN n ns = true ↔ ∀ x ∈ ns, 0 ≤ x ∧ x < (n : Int) := by
  unfold okN
  simp only [List.all_eq_true, Bool.and_eq_true, decide_eq_true_eq]
theorem numErr_no {n : Nat} {ns : List Int} (h : numErr n ns = none) : okN n ns = true := by
  unfold numErr at h
  split at h
  · assumption
  · cases h
theorem needM_len {ls : List (List Str)} (h : needM ls = none) : 1 ≤ ls.length ∧ ls.length ≤ 40 := by
  unfold needM at h
  split at h
  · assumption
  · cases h
theorem left_mem {m : Nat} {ns : List Int} {i : Nat} : i ∈ leftM m ns ↔ i < m ∧ (i : Int) ∈ ns := by
  unfold leftM
  rw [List.mem_filter, List.mem_range, decide_eq_true_eq]
theorem meet_ok (ls : List (List Str)) (ns : List Int) (h : List Str) : okN ls.length (meetI ls ns h) = true := okN_mem.mpr fun x hx => by
  unfold meetI nI at hx
  obtain ⟨i, hi, rfl⟩ := List.mem_map.mp hx
  unfold meetM at hi
  have := (left_mem.mp (List.mem_filter.mp hi).1).1
  omega
/-- whether a verse lies on a field -/
def liesM (F0 F1 : List (List Int)) (v f : Int) : Bool := (whereM F0 F1 v).isSome && decide (((whereM F0 F1 v).getD default).a = f)
def onAll (F0 F1 : List (List Int)) (vs : List Int) (f : Int) : Bool := vs.all fun v => liesM F0 F1 v f
def freeM (F0 F1 : List (List Int)) (ls : List (List Str)) (ns : List Int) (h : List Str) : List Int := (rngI 2).filter fun f => onAll F0 F1 (meetI ls ns h) f
end
section
variable {P : Program} {w : World} {K : PySem.W.Frag} {mg : Str → Option Value} {base : Heap}
/-- the field on which a verse lies, or -1 -/
def homeM (rows : List (List (List Int))) (v : Int) : Int := getI (((rngI 2).filter fun f => (getI rows f).any fun r => decide (v ∈ r)) ++ [-1]) 0
/-- a scene: verses, rows, unread verses -/
structure SceneOk (m : Nat) (y : T3 (List (List Str)) (List (List (List Int))) (List Int)) : Prop where
  gb : GB m y.a ∧ ∀ l ∈ y.a, l.length ≤ 1000
  flds : FldsOk y.a.length y.b
  un : UnI y.a.length y.c
theorem rng2 : rngI 2 = [0, 1] := rfl
theorem where_iff {n : Nat} {rows : List (List (List Int))} (hd : dealM n (getI rows 0) (getI rows 1) = true) {v f : Int} (hf : 0 ≤ f ∧ f ≤ 1) : ((getI rows f).any fun r => decide (v ∈ r)) = true ↔ ∃ p, whereM (getI rows 0) (getI rows 1) v = some p ∧ p.a = f := by
  have e : getI rows f = fieldM (getI rows 0) (getI rows 1) f := by
    unfold fieldM
    by_cases z : f = 0
    · rw [if_pos z, z]
    · have : f = 1 := by omega
      rw [if_neg z, this]
  rw [e, List.any_eq_true]
  have nd := of_decide_eq_true (dealM_rows hd).2.2
  constructor
  · rintro ⟨l, hl, hv⟩
    obtain ⟨r, hr⟩ := List.mem_iff_getElem?.mp hl
    obtain ⟨k, hk⟩ := List.mem_iff_getElem?.mp (of_decide_eq_true hv)
    have ef : f = ((f.toNat : Nat) : Int) := by omega
    rw [ef] at hr
    have hm := pl_mem (f := f.toNat) (by omega) hr hk
    refine ⟨⟨(f.toNat : Nat), (r : Nat), (k : Nat)⟩, ?_, ef.symm⟩
    unfold whereM
    rw [find_nd nd hm]
    rfl
  · rintro ⟨p, hp, rfl⟩
    unfold whereM at hp
    obtain ⟨q, hq, rfl⟩ := Option.map_eq_some_iff.mp hp
    obtain ⟨l, h1, h2, h3⟩ := pl_lies (List.mem_of_find?_eq_some hq)
    have ez : q.1 = v := by simpa using List.find?_some hq
    exact ⟨l, List.mem_of_getElem? h2, decide_eq_true (ez ▸ List.mem_of_getElem? h3)⟩
theorem home_where {n : Nat} {rows : List (List (List Int))} (hd : dealM n (getI rows 0) (getI rows 1) = true) (v : Int) : homeM rows v = ((whereM (getI rows 0) (getI rows 1) v).map fun p => p.a).getD (-1) ∧ ∀ p, whereM (getI rows 0) (getI rows 1) v = some p → p.a = 0 ∨ p.a = 1 := by
  have h0 := where_iff hd (v := v) (f := 0) (by decide)
  have h1 := where_iff hd (v := v) (f := 1) (by decide)
  have hp : ∀ p, whereM (getI rows 0) (getI rows 1) v = some p → p.a = 0 ∨ p.a = 1 := fun p hp => by
    unfold whereM at hp
    obtain ⟨q, hq, rfl⟩ := Option.map_eq_some_iff.mp hp
    obtain ⟨l, h1, _⟩ := pl_lies (List.mem_of_find?_eq_some hq)
    show ((q.2.1 : Nat) : Int) = 0 ∨ ((q.2.1 : Nat) : Int) = 1
    omega
  refine ⟨?_, hp⟩
  unfold homeM
  rw [rng2]
  cases hw : whereM (getI rows 0) (getI rows 1) v with
  | none =>
    rw [hw] at h0 h1
    have z0 : ((getI rows 0).any fun r => decide (v ∈ r)) = false := Bool.eq_false_iff.mpr fun z => by obtain ⟨_, z, _⟩ := h0.mp z; cases z
    have z1 : ((getI rows 1).any fun r => decide (v ∈ r)) = false := Bool.eq_false_iff.mpr fun z => by obtain ⟨_, z, _⟩ := h1.mp z; cases z
    simp only [List.filter_cons, z0, z1, List.filter_nil, Bool.false_eq_true, if_false]
    rfl
  | some p =>
    rw [hw] at h0 h1
    rcases hp p hw with e | e
    · have z0 : ((getI rows 0).any fun r => decide (v ∈ r)) = true := h0.mpr ⟨p, rfl, e⟩
      simp only [List.filter_cons, z0, if_true]
      rw [List.cons_append, getI_head]
      exact e.symm
    · have z0 : ((getI rows 0).any fun r => decide (v ∈ r)) = false := Bool.eq_false_iff.mpr fun z => by
        obtain ⟨q, z, z2⟩ := h0.mp z
        cases z
        omega
      have z1 : ((getI rows 1).any fun r => decide (v ∈ r)) = true := h1.mpr ⟨p, rfl, e⟩
      simp only [List.filter_cons, z0, z1, List.filter_nil, Bool.false_eq_true, if_false, if_true]
      rw [List.cons_append, getI_head]
      exact e.symm
theorem lies_home {n : Nat} {rows : List (List (List Int))} (hd : dealM n (getI rows 0) (getI rows 1) = true) {v f : Int} (hf : 0 ≤ f) : liesM (getI rows 0) (getI rows 1) v f = decide (homeM rows v = f) := by
  rw [(home_where hd v).1]
  unfold liesM
  cases hw : whereM (getI rows 0) (getI rows 1) v with
  | none =>
    show false = decide ((-1 : Int) = f)
    rw [decide_eq_false (by omega)]
  | some p => rfl
theorem Nums.own {n : Nat} {l : List Int} (h : Nums n l) {a : Int} (ha : 0 ≤ a) : Nums (cutI l (some a) none).length (cutI l (some a) none) := ⟨rfl, (h.cut ha).1⟩
theorem scene_pre {n : Nat} {l : List Int} {a m : Int} (M : Int) (h : Nums n l) (hm : 1 ≤ m ∧ m ≤ M) (ha : 0 ≤ a) (hn : a + 31 + 8 * M ≤ n) (hM : M ≤ 40) : Nums (cutI l (some a) none).length (cutI l (some a) none) ∧ 1 ≤ m ∧ m ≤ 40 ∧ 31 + 8 * m ≤ (cutI l (some a) none).length := by
  have h2 := (h.cut ha).2
  exact ⟨h.own ha, hm.1, by omega, by omega⟩
theorem UnI.ok {n : Nat} {us : List Int} (h : UnI n us) : okN n us = true ∧ us.length ≤ n + 2 := by
  obtain ⟨ns, ⟨h1, h2⟩, rfl⟩ := h
  refine ⟨okN_mem.mpr fun x hx => ?_, by rw [List.length_map]; exact h2⟩
  obtain ⟨i, hi, rfl⟩ := List.mem_map.mp hx
  have := h1 i hi
  omega
theorem cut_mem {α : Type} {l : List α} {lo hi : Option Int} {x : α} (h : x ∈ cutI l lo hi) : x ∈ l := by
  unfold cutI at h
  exact List.mem_of_mem_drop (List.mem_of_mem_take h)
end
local macro_rules | `(tactic| wtm_at "asm") => `(tactic| first
  | assumption
  | exact SceneOk.gb (by assumption)
  | exact SceneOk.flds (by assumption)
  | exact SceneOk.un (by assumption))
section
variable {P : Program} {w : World} {K : PySem.W.Frag} {mg : Str → Option Value} {base : Heap}
/-! ### parts, told by kinds -/
abbrev Pt := Int × Int
def plusM (p q : Pt) : Pt := partM (p.1 * q.2 + q.1 * p.2) (p.2 * q.2)
def minusM (p q : Pt) : Pt := partM (p.1 * q.2 - q.1 * p.2) (p.2 * q.2)
/-- a part that is small enough to be reckoned with -/
def PB (p : Pt) : Prop := Bd 2000 p.1 ∧ Bd 2000 p.2 ∧ p.2 ≠ 0
theorem cv_part {p : Pt} : ∀ N v, pPart p N v → (tP K tI tI).R N v p := fun N v ⟨t, h1, h2⟩ => ⟨t, _, _, h1, st_of h2, rfl, rfl⟩
theorem ad_part {G : Hp} {vs : List V} {t b : Int} (ha : ArgsR G vs [⟨tI, t⟩, ⟨tI, b⟩]) (h : b ≠ 0 ∧ Bd 9000 b) : R_part.R vs G (.ok (pPart (partM t b))) := by
  obtain ⟨v, w, rfl, rfl, rfl⟩ := args2 ha
  exact ⟨t, b, rfl, h.2, (if_neg h.1).symm⟩
theorem ad__law_part {G : Hp} {vs : List V} {t b : Int} (ha : ArgsR G vs [⟨tI, t⟩, ⟨tI, b⟩]) (h : b ≠ 0 ∧ Bd 9000 b) : R__law_part.R vs G (.ok (pPart (partM t b))) := by
  obtain ⟨v, w, rfl, rfl, rfl⟩ := args2 ha
  exact ⟨t, b, rfl, h.2, h.1, rfl⟩
theorem pr2_of {G : Hp} {vs : List V} {p q : Pt} (ha : ArgsR G vs [⟨tP K tI tI, p⟩, ⟨tP K tI tI, q⟩]) : Pr2 K vs G p.1 p.2 q.1 q.2 := by
  obtain ⟨v, w, rfl, ⟨x, a, b, rfl, h1, rfl, rfl⟩, ⟨y, c, d, rfl, h2, rfl, rfl⟩⟩ := args2 ha
  exact ⟨x, y, rfl, h1, h2⟩
theorem ad_plus {G : Hp} {vs : List V} {p q : Pt} (ha : ArgsR G vs [⟨tP K tI tI, p⟩, ⟨tP K tI tI, q⟩]) (h : PB p ∧ PB q) : (R_plus K).R vs G (.ok (pPart (plusM p q))) :=
  ⟨_, _, _, _, pr2_of ha, ⟨h.1.1, h.1.2.1, h.2.1, h.2.2.1⟩, (if_neg (Int.mul_ne_zero h.1.2.2 h.2.2.2)).symm⟩
theorem ad__law_sum {G : Hp} {vs : List V} {p q : Pt} (ha : ArgsR G vs [⟨tP K tI tI, p⟩, ⟨tP K tI tI, q⟩]) (h : PB p ∧ PB q) : (R__law_sum K).R vs G (.ok (pPart (plusM p q))) :=
  ⟨_, _, _, _, pr2_of ha, ⟨h.1.1, h.1.2.1, h.2.1, h.2.2.1⟩, Int.mul_ne_zero h.1.2.2 h.2.2.2, rfl⟩
theorem ad_less {G : Hp} {vs : List V} {p q : Pt} (ha : ArgsR G vs [⟨tP K tI tI, p⟩, ⟨tP K tI tI, q⟩]) (h : PB p ∧ PB q) : (R_less K).R vs G (.ok (is (.bl (decide ((minusM p q).1 < 0))))) :=
  ⟨_, _, _, _, pr2_of ha, ⟨h.1.1, h.1.2.1, h.2.1, h.2.2.1⟩, (if_neg (Int.mul_ne_zero h.1.2.2 h.2.2.2)).symm⟩
/-! ### sizes, what two verses share -/
def shI (ls : List (List Str)) (i j : Int) : Int := (comM (row1 ls i.toNat) (row1 ls j.toNat) : Nat)
def lefI (ls : List (List Str)) (ns : List Int) : List Int := (rngI (ls.length : Int)).filter fun i => decide (i ∈ ns)
def sizI (ls : List (List Str)) (ns : List Int) (v : Int) : List (Int × Int) := (sizeM ls ns v.toNat).map fun q => ((q.1 : Int), (q.2 : Int))
theorem siz_eq {ls : List (List Str)} {ns : List Int} {v : Int} (hv : 0 ≤ v) : sizI ls ns v = ((lefI ls ns).filter fun i => !decide (i = v)).map fun i => (i, shI ls v i) := by
  unfold sizI sizeM lefI rngI leftM
  rw [List.map_map]
  have e : ∀ l : List Nat, ((l.filter fun (i : Nat) => decide ((i : Int) ∈ ns)).filter fun i => !decide (i = v.toNat)).map ((fun q : Nat × Nat => ((q.1 : Int), (q.2 : Int))) ∘ fun i => (i, comM (row1 ls v.toNat) (row1 ls i))) = ((((l.map fun i : Nat => (i : Int)).filter fun i => decide (i ∈ ns))).filter fun i => !decide (i = v)).map fun i => (i, shI ls v i) := by
    intro l
    induction l with
    | nil => rfl
    | cons a r ih =>
      simp only [List.map_cons, List.filter_cons]
      by_cases h1 : (a : Int) ∈ ns
      · simp only [h1, decide_true, if_true, List.filter_cons]
        by_cases h2 : a = v.toNat
        · have h3 : (a : Int) = v := by omega
          simp only [h2, h3, decide_true, Bool.not_true, Bool.false_eq_true, if_false]
          have h4 : ((v.toNat : Nat) : Int) = v := by omega
          simp only [h4, decide_true, Bool.not_true, Bool.false_eq_true, if_false]
          exact ih
        · have h3 : ¬ (a : Int) = v := by omega
          simp only [h2, h3, decide_false, Bool.not_false, if_true, List.map_cons]
          rw [ih]
          rfl
      · simp only [h1, decide_false, Bool.false_eq_true, if_false]
        exact ih
  exact e _
theorem siz_len (ls : List (List Str)) (ns : List Int) (v : Int) : (sizI ls ns v).length ≤ ls.length := by
  unfold sizI
  rw [List.length_map]
  exact sizeM_len ls ns _
theorem cv_siz {ls : List (List Str)} {ns : List Int} {v : Int} (hl : ls.length ≤ 40000) : ∀ N x, pPrs (sizeM ls ns v.toNat) N x → (tW (tP K tI tI)).R N x (sizI ls ns v) := fun N x ⟨p, xs, h1, h2, h3⟩ => by
  refine ⟨p, xs, h1, h2, ?_, Nat.le_trans (siz_len ls ns v) hl⟩
  unfold sizI
  generalize sizeM ls ns v.toNat = acc at h3 ⊢
  clear h2
  induction h3 with
  | nil => exact .nil
  | cons a r ih =>
    obtain ⟨t, rfl, h4⟩ := a
    exact .cons ⟨t, _, _, rfl, st_of h4, rfl, rfl⟩ ih
theorem ad_sizes {C : Addr} {G : Hp} {vs : List V} {ls : List (List Str)} {ns : List Int} {v : Int} {r : Res} (ha : ArgsR G vs [⟨tBook K C, ls⟩, ⟨tL K tI, ns⟩, ⟨tI, v⟩]) (hl : ns.length ≤ 1000) (hr : r = resE (numErr ls.length (v :: ns)) (pPrs (sizeM ls ns v.toNat))) : (R_sizes K C).R vs G r := by
  obtain ⟨x, y, z, rfl, ⟨b, rfl, h1⟩, h2, rfl⟩ := args3 ha
  obtain ⟨p, rfl, h4⟩ := nl_of h2 hl
  exact ⟨b, p, ls, ns, v, rfl, h1, h4, by rw [hr, num_ok]⟩
theorem ad__law_share {G : Hp} {vs : List V} {ls : List (List Str)} {i j : Int} (ha : ArgsR G vs [⟨tL K (tL K tX), ls⟩, ⟨tI, i⟩, ⟨tI, j⟩]) (hl : (ls.length ≤ 1000 ∧ ∀ l ∈ ls, l.length ≤ 1000) ∧ (0 ≤ i ∧ i < ls.length) ∧ 0 ≤ j ∧ j < ls.length) : (R__law_share K).R vs G (.ok (is (.int (shI ls i j)))) := by
  obtain ⟨x, y, z, rfl, h1, rfl, rfl⟩ := args3 ha
  obtain ⟨b, rfl, h6⟩ := bk_of h1 hl.1.1 hl.1.2
  have e1 : i = ((i.toNat : Nat) : Int) := by omega
  have e2 : j = ((j.toNat : Nat) : Int) := by omega
  exact ⟨b, ls, i.toNat, j.toNat, by rw [← e1, ← e2], h6, by omega, by omega, rfl⟩
/-! ### books -/
theorem ad_Book_many {C : Addr} {G : Hp} {vs : List V} {ls : List (List Str)} (ha : ArgsR G vs [⟨tBook K C, ls⟩]) : (R_Book_many K C).R vs G (.ok (is (.int (ls.length : Int)))) := by
  obtain ⟨v, rfl, ⟨b, rfl, h1⟩⟩ := args1 ha
  exact ⟨b, ls, rfl, h1, rfl⟩
theorem ad_Book_verse {C : Addr} {G : Hp} {vs : List V} {ls : List (List Str)} {i : Int} {r : Res} (ha : ArgsR G vs [⟨tBook K C, ls⟩, ⟨tI, i⟩]) (hr : r = resE (numErr ls.length [i]) (pLine (row1 ls i.toNat))) : (R_Book_verse K C).R vs G r := by
  obtain ⟨v, w, rfl, ⟨b, rfl, h1⟩, rfl⟩ := args2 ha
  refine ⟨b, ls, i, rfl, h1, ?_⟩
  rw [hr]
  unfold verseR numErr
  by_cases h : 0 ≤ i ∧ i < (ls.length : Int)
  · rw [if_pos h, if_pos (okN_mem.mpr fun x hx => by rw [List.mem_singleton.mp hx]; exact h)]
    rfl
  · rw [if_neg h, if_neg (fun z => h (okN_mem.mp z i List.mem_cons_self))]
    rfl
theorem cv_line {l : List Str} (h : ∀ s ∈ l, TxtOk s) (hl : l.length ≤ 40000) : ∀ N v, pLine l N v → (tW tX).R N v l := fun N v ⟨p, h1, h2⟩ => ⟨p, _, h1, h2, txts_paired h, hl⟩
theorem row_txt {ls : List (List Str)} (h : ∀ l ∈ ls, isVer l = true) (i : Nat) : (∀ s ∈ row1 ls i, TxtOk s) ∧ (row1 ls i).length ≤ 40000 := by
  unfold row1
  rw [List.getD_eq_getElem?_getD]
  cases q : ls[i]? with
  | none => exact ⟨fun s hs => (by cases hs), Nat.zero_le _⟩
  | some l =>
    have hv := isVer_iff.mp (h l (List.mem_of_getElem? q))
    exact ⟨fun s hs => syl_ok (hv.2.2 s hs), by show l.length ≤ 40000; omega⟩
theorem ad_left {C : Addr} {G : Hp} {vs : List V} {ls : List (List Str)} {ns : List Int} {r : Res} (ha : ArgsR G vs [⟨tBook K C, ls⟩, ⟨tL K tI, ns⟩]) (hl : ns.length ≤ 1000) (hr : r = resE (numErr ls.length ns) (pNs (leftM ls.length ns))) : (R_left K C).R vs G r := by
  obtain ⟨v, w, rfl, ⟨b, rfl, h1⟩, h2⟩ := args2 ha
  obtain ⟨p, rfl, h4⟩ := nl_of h2 hl
  exact ⟨b, p, ls, ns, rfl, h1, h4, by rw [hr, num_ok]⟩
theorem left_I (ls : List (List Str)) (ns : List Int) : nI (leftM ls.length ns) = lefI ls ns := by
  unfold nI leftM lefI rngI
  rw [List.filter_map]
  rfl
theorem cv_left {ls : List (List Str)} {ns : List Int} (hl : ls.length ≤ 40000) : ∀ N x, pNs (leftM ls.length ns) N x → (tW tI).R N x (lefI ls ns) := by
  rw [← left_I]
  exact cv_ns (by have := leftM_len ls.length ns; omega)
/-! ### what parts are -/
theorem partM_low {t b : Int} (hb : 0 < b) (h : Int.gcd t b = 1) : partM t b = (t, b) := by
  have e : byOf t b = 1 := by
    unfold byOf
    rw [if_neg (by omega), h]
    rfl
  unfold partM
  rw [e]
  simp [Int.fdiv_one]
/-- a pair in lowest terms with a bottom above nought -/
def Low (p : Pt) : Prop := 0 < p.2 ∧ Int.gcd p.1 p.2 = 1
theorem low_part {t b : Int} (hb : b ≠ 0) : Low (partM t b) := ⟨partM_pos hb, partM_gcd hb⟩
theorem low_is {p : Pt} (h : Low p) : partM p.1 p.2 = p := partM_low h.1 h.2
theorem plus_zero {p : Pt} (h : Low p) : plusM p (0, 1) = p := by
  unfold plusM
  show partM (p.1 * 1 + 0 * p.2) (p.2 * 1) = p
  rw [Int.mul_one, Int.mul_one, Int.zero_mul, Int.add_zero]
  exact low_is h
theorem gcd_suc (n : Int) : Int.gcd n (1 + n) = 1 := by
  rw [Int.gcd_comm, show (1 : Int) + n = n * 1 + 1 by omega]
  rw [Int.gcd_comm]
  simp
theorem Bd.up {n m : Nat} {i : Int} (h : Bd n i) (l : n ≤ m) : Bd m i := Nat.lt_of_lt_of_le h (Nat.pow_le_pow_right (by decide) l)
theorem Bd.of {n : Nat} {i j : Int} (h : Bd n j) (l : i.natAbs ≤ j.natAbs) : Bd n i := Nat.lt_of_le_of_lt l h
theorem Bd.add {n : Nat} {i j : Int} (h1 : Bd n i) (h2 : Bd n j) : Bd (n + 1) (i + j) := by
  unfold Bd at *
  rw [Nat.pow_succ]
  omega
theorem Bd.times {n m : Nat} {i j : Int} (h1 : Bd n i) (h2 : Bd m j) : Bd (n + m) (i * j) := wide_lt h1 h2
/-- a part of n bits -/
def PN (n : Nat) (p : Pt) : Prop := Bd n p.1 ∧ Bd n p.2 ∧ Low p
theorem PN.pb {n : Nat} {p : Pt} (h : PN n p) (hn : n ≤ 2000) : PB p := ⟨h.1.up hn, h.2.1.up hn, by have := h.2.2.1; omega⟩
theorem PN.up {n m : Nat} {p : Pt} (h : PN n p) (hn : n ≤ m) : PN m p := ⟨h.1.up hn, h.2.1.up hn, h.2.2⟩
theorem PN.plus {n m : Nat} {p q : Pt} (h1 : PN n p) (h2 : PN m q) : PN (n + m + 1) (plusM p q) := by
  have hb : p.2 * q.2 ≠ 0 := Int.mul_ne_zero (by have := h1.2.2.1; omega) (by have := h2.2.2.1; omega)
  have b1 : Bd (n + m + 1) (p.1 * q.2 + q.1 * p.2) := (h1.1.times h2.2.1).add (by rw [Nat.add_comm n m]; exact h2.1.times h1.2.1)
  have b2 : Bd (n + m + 1) (p.2 * q.2) := (h1.2.1.times h2.2.1).up (by omega)
  exact ⟨b1.of (partM_bd1 hb), b2.of (partM_bd2 hb), low_part hb⟩
/-- how many share at least s -/
def agI (most : List Int) (s : Int) : Int := ((most.filter fun x => decide (x ≥ s)).length : Nat)
def chI (most : List Int) (s : Int) : Pt := (1, 1 + agI most s)
def stI (most : List Int) (f : Pt) (s : Int) : Pt := plusM f (agI most s, 1 + agI most s)
def meanI (most : List Int) (n : Int) : Pt := (rngI n).foldl (stI most) (0, 1)
theorem ag_le (most : List Int) (s : Int) : 0 ≤ agI most s ∧ agI most s ≤ most.length := by
  unfold agI
  have := List.length_filter_le (fun x => decide (x ≥ s)) most
  omega
theorem ag_low (most : List Int) (s : Int) : Low (agI most s, 1 + agI most s) := ⟨by have := ag_le most s; show (0 : Int) < 1 + agI most s; omega, gcd_suc _⟩
theorem ag_pn {most : List Int} {b : Nat} (s : Int) (h : most.length + 1 < 2 ^ b) : PN b (agI most s, 1 + agI most s) := by
  have := ag_le most s
  refine ⟨?_, ?_, ag_low most s⟩
  · show (agI most s).natAbs < 2 ^ b
    omega
  · show (1 + agI most s).natAbs < 2 ^ b
    omega
theorem pn_01 : PN 1 (0, 1) := ⟨by unfold Bd; decide, by unfold Bd; decide, by decide, by decide⟩
theorem fold_pn {most : List Int} {b : Nat} (h : most.length + 1 < 2 ^ b) : ∀ (l : List Int) (f : Pt) (n : Nat), PN n f → PN (n + l.length * (b + 1)) (l.foldl (stI most) f)
  | [], f, n, hf => by simpa using hf
  | s :: l, f, n, hf => by
    rw [List.foldl_cons, List.length_cons, show n + (l.length + 1) * (b + 1) = n + b + 1 + l.length * (b + 1) by rw [Nat.add_mul]; omega]
    exact fold_pn h l _ _ (hf.plus (ag_pn s h))
theorem mean_pn {most : List Int} {b : Nat} (h : most.length + 1 < 2 ^ b) {n : Int} (hn : n ≤ 8) : PN (1 + 8 * (b + 1)) (meanI most n) := by
  have := fold_pn h (rngI n) (0, 1) 1 pn_01
  refine this.up ?_
  have hl : (rngI n).length ≤ 8 := by rw [rngI_len]; omega
  have := Nat.mul_le_mul_right (b + 1) hl
  omega
theorem rngI_suc {n : Int} (h : 0 ≤ n) : rngI (n + 1) = rngI n ++ [n] := by
  unfold rngI
  rw [show (n + 1).toNat = n.toNat + 1 by omega, List.range_succ, List.map_append]
  simp [show ((n.toNat : Nat) : Int) = n by omega]
theorem mean_suc {most : List Int} {n : Int} (h : 0 ≤ n) : meanI most (n + 1) = stI most (meanI most n) n := by
  unfold meanI
  rw [rngI_suc h, List.foldl_append]
  rfl
theorem mean_low {most : List Int} (n : Int) : Low (meanI most n) := by
  have h := fold_pn (most := most) (b := most.length + 2) (Nat.lt_of_lt_of_le (Nat.lt_succ_self _) (Nat.le_of_lt Nat.lt_two_pow_self)) (rngI n) (0, 1) 1 pn_01
  exact h.2.2
/-- sizes that none shares say nothing -/
theorem mean_more {most : List Int} {n m : Int} (h0 : 0 ≤ n) (hnm : n ≤ m) (h : ∀ x ∈ most, x < n) : meanI most m = meanI most n := by
  obtain ⟨k, rfl⟩ : ∃ k : Nat, m = n + (k : Int) := ⟨(m - n).toNat, by omega⟩
  clear hnm
  induction k with
  | zero => rw [Int.ofNat_zero, Int.add_zero]
  | succ k ih =>
    rw [show n + ((k + 1 : Nat) : Int) = (n + (k : Int)) + 1 by omega, mean_suc (by omega), ih]
    have e : agI most (n + (k : Int)) = 0 := by
      unfold agI
      rw [List.filter_eq_nil_iff.mpr fun x hx => by have := h x hx; simp only [decide_eq_true_eq]; omega]
      rfl
    unfold stI
    rw [e]
    exact plus_zero (mean_low n)
end
section
variable {P : Program} {w : World} {K : PySem.W.Frag} {mg : Str → Option Value} {base : Heap}
theorem need8 {ls : List (List Str)} (h : needM ls = none) : ∀ l ∈ ls, l.length ≤ 8 := by
  unfold needM at h
  split at h
  · split at h
    · cases h
    · rename_i hb
      intro l hl
      unfold badRow at hb
      rw [List.find?_range_eq_none] at hb
      obtain ⟨i, hi, rfl⟩ := List.mem_iff_getElem.mp hl
      have := hb i hi
      have e : row1 ls i = ls[i] := by
        unfold row1
        rw [List.getD_eq_getElem?_getD, List.getElem?_eq_getElem hi]
        rfl
      rw [e] at this
      exact (isVer_iff.mp (by simpa using this)).2.1
  · cases h
theorem row8 {ls : List (List Str)} (h : ∀ l ∈ ls, l.length ≤ 8) (i : Nat) : (row1 ls i).length ≤ 8 := by
  unfold row1
  rw [List.getD_eq_getElem?_getD]
  cases q : ls[i]? with
  | none => exact Nat.zero_le _
  | some l => exact h l (List.mem_of_getElem? q)
theorem sh_le (ls : List (List Str)) (i j : Int) : 0 ≤ shI ls i j ∧ shI ls i j ≤ (row1 ls i.toNat).length := by
  have := comM_le (row1 ls i.toNat) (row1 ls j.toNat)
  unfold shI
  omega
/-- what all others share with a verse -/
def mostI (ls : List (List Str)) (ns : List Int) (v : Int) : List Int := (sizI ls ns v).map fun q => q.2
theorem most_len (ls : List (List Str)) (ns : List Int) (v : Int) : (mostI ls ns v).length ≤ ls.length := by
  unfold mostI
  rw [List.length_map]
  exact siz_len ls ns v
theorem siz_mem {ls : List (List Str)} {ns : List Int} {v : Int} {q : Int × Int} (h : q ∈ sizI ls ns v) : (0 ≤ q.1 ∧ q.1 < (ls.length : Int)) ∧ 0 ≤ q.2 ∧ q.2 ≤ ((row1 ls v.toNat).length : Int) := by
  unfold sizI sizeM at h
  obtain ⟨p, hp, rfl⟩ := List.mem_map.mp h
  obtain ⟨i, hi, rfl⟩ := List.mem_map.mp hp
  have h1 := leftM_lt (List.mem_filter.mp hi).1
  have h2 := comM_le (row1 ls v.toNat) (row1 ls i)
  show (0 ≤ ((i : Nat) : Int) ∧ ((i : Nat) : Int) < _) ∧ 0 ≤ ((comM (row1 ls v.toNat) (row1 ls i) : Nat) : Int) ∧ ((comM (row1 ls v.toNat) (row1 ls i) : Nat) : Int) ≤ _
  omega
theorem most_mem {ls : List (List Str)} {ns : List Int} {v x : Int} (h : x ∈ mostI ls ns v) : 0 ≤ x ∧ x ≤ ((row1 ls v.toNat).length : Int) := by
  unfold mostI at h
  obtain ⟨q, hq, rfl⟩ := List.mem_map.mp h
  exact (siz_mem hq).2
/-- refused: a number that is none, a verse that is not unread -/
def unErr (n : Nat) (ns : List Int) (v : Int) : Option Str := match numErr n (ns ++ [v]) with
  | some x => some x
  | none => if v ∈ ns then none else some "ReadAlready"
theorem un_1 {n : Nat} {ns : List Int} {v : Int} {x : Str} (h : numErr n (ns ++ [v]) = some x) : unErr n ns v = some x := by unfold unErr; rw [h]
theorem un_2 {n : Nat} {ns : List Int} {v : Int} (h : numErr n (ns ++ [v]) = none) (hv : ¬ v ∈ ns) : unErr n ns v = some "ReadAlready" := by unfold unErr; rw [h]; exact if_neg hv
theorem un_0 {n : Nat} {ns : List Int} {v : Int} (h : numErr n (ns ++ [v]) = none) (hv : v ∈ ns) : unErr n ns v = none := by unfold unErr; rw [h]; exact if_pos hv
theorem un_ok {n : Nat} {ns : List Int} {v : Int} (h : unErr n ns v = none) : numErr n (ns ++ [v]) = none ∧ v ∈ ns := by
  unfold unErr at h
  split at h
  · cases h
  · rename_i q
    refine ⟨q, ?_⟩
    by_cases z : v ∈ ns
    · exact z
    · rw [if_neg z] at h; cases h
theorem err_okN {n : Nat} {ns : List Int} (h : numErr n ns = none) : okN n ns = true := by
  unfold numErr at h
  split at h
  · assumption
  · cases h
theorem un_num {n : Nat} {ns : List Int} {v : Int} (h : unErr n ns v = none) : numErr n (v :: ns) = none := okN_err (okN_mem.mpr fun x hx => by
  refine okN_mem.mp (err_okN (un_ok h).1) x ?_
  rcases List.mem_cons.mp hx with z | z
  · exact List.mem_append.mpr (.inr (List.mem_singleton.mpr z))
  · exact List.mem_append.mpr (.inl z))
theorem un_v {n : Nat} {ns : List Int} {v : Int} (h : unErr n ns v = none) : 0 ≤ v ∧ v < (n : Int) := okN_mem.mp (err_okN (un_ok h).1) v (List.mem_append.mpr (.inr List.mem_cons_self))
theorem bd_small {i : Int} (h : 0 < i ∧ i ≤ 100000) : i ≠ 0 ∧ Bd 9000 i := ⟨by omega, Bd.up (n := 20) (show i.natAbs < 2 ^ 20 by omega) (by decide)⟩
theorem fold_mean {most : List Int} {n : Int} {f : Pt} {k : Nat} (h : f = ((rngI n).take k).foldl (stI most) (0, 1)) (hk : (k : Int) ≤ n) : f = meanI most (k : Int) := by
  rw [h]
  unfold meanI
  congr 1
  unfold rngI
  rw [← List.map_take, List.take_range]
  rw [show min k n.toNat = ((k : Nat) : Int).toNat by omega]
/-- the mean goes to the greatest shared size -/
def topI (most : List Int) : Int := maxI 0 (most.map fun x => x + 1)
theorem top_le {most : List Int} {b : Int} (hb : 0 ≤ b) (h : ∀ x ∈ most, x < b) : topI most ≤ b := maxI_le hb fun y hy => by
  obtain ⟨x, hx, rfl⟩ := List.mem_map.mp hy
  have := h x hx
  show x + 1 ≤ b
  omega
theorem top_ge {most : List Int} {x : Int} (hx : x ∈ most) : x < topI most := by
  have := maxI_ge (d := 0) (List.mem_map.mpr ⟨x, hx, rfl⟩ : x + 1 ∈ most.map fun x => x + 1)
  show x < maxI 0 _
  omega
theorem top_0 {most : List Int} (h : ∀ x ∈ most, 0 ≤ x) : 0 ≤ topI most := maxI_lo (Int.le_refl _) fun y hy => by
  obtain ⟨x, hx, rfl⟩ := List.mem_map.mp hy
  have := h x hx
  show 0 ≤ x + 1
  omega
theorem mean_pb {most : List Int} (h : most.length ≤ 1000) {n : Int} (hn : n ≤ 9) : PB (meanI most n) := by
  have h := fold_pn (b := 10) (most := most) (by omega) (rngI n) (0, 1) 1 pn_01
  refine h.pb ?_
  have hl : (rngI n).length ≤ 9 := by rw [rngI_len]; omega
  have := Nat.mul_le_mul_right (10 + 1) hl
  omega
theorem ag_pb {most : List Int} (h : most.length ≤ 1000) (s : Int) : PB (agI most s, 1 + agI most s) := (ag_pn (b := 10) s (by omega)).pb (by decide)
theorem map_id_fl {most : List Int} {s : Int} : ((most.filter fun e => decide (e ≥ s)).map fun e => e) = most.filter fun e => decide (e ≥ s) := List.map_id'' (fun _ => rfl) _
abbrev s_need_unread : Stmt := topS 29
theorem sc_need_unread : FnScope ["book", "unread", "verse"] ["book", "unread", "verse"] (defScope s_need_unread) := ⟨rfl, rfl, rfl, by decide +kernel, rfl, by decide +kernel, by decide +kernel⟩
theorem vc_need_unread_cat1 (book : (List (List Str))) (unread : (List Int)) (verse : Int) (xn1 : Str) (hp1 : unread.length ≤ 900) (ho_book : needM book = none) (hl_unread : unread.length ≤ 40000) (hE1 : (numErr book.length (unread ++ (([verse] : List Int)))) = some xn1) : (unread).length + (([verse] : List Int)).length ≤ 40000 := by
  simp only [List.length_singleton]
  omega
theorem vc_need_unread_pre_need_numbers1 (book : (List (List Str))) (unread : (List Int)) (verse : Int) (xn1 : Str) (hp1 : unread.length ≤ 900) (ho_book : needM book = none) (hl_unread : unread.length ≤ 40000) (hE1 : (numErr book.length (unread ++ (([verse] : List Int)))) = some xn1) : (unread ++ (([verse] : List Int))).length ≤ 1000 := by
  rw [List.length_append]
  simp only [List.length_singleton]
  omega
theorem vc_need_unread_raise1 (book : (List (List Str))) (unread : (List Int)) (verse : Int) (xn1 : Str) (hp1 : unread.length ≤ 900) (ho_book : needM book = none) (hl_unread : unread.length ≤ 40000) (hE1 : (numErr book.length (unread ++ (([verse] : List Int)))) = some xn1) : unErr book.length unread verse = some xn1 := by
  exact un_1 hE1
theorem vc_need_unread_cat2 (book : (List (List Str))) (unread : (List Int)) (verse : Int) (hp1 : unread.length ≤ 900) (ho_book : needM book = none) (hl_unread : unread.length ≤ 40000) (hE1 : (numErr book.length (unread ++ (([verse] : List Int)))) = none) : (unread).length + (([verse] : List Int)).length ≤ 40000 := by
  simp only [List.length_singleton]
  omega
theorem vc_need_unread_pre_need_numbers2 (book : (List (List Str))) (unread : (List Int)) (verse : Int) (hp1 : unread.length ≤ 900) (ho_book : needM book = none) (hl_unread : unread.length ≤ 40000) (hE1 : (numErr book.length (unread ++ (([verse] : List Int)))) = none) : (unread ++ (([verse] : List Int))).length ≤ 1000 := by
  rw [List.length_append]
  simp only [List.length_singleton]
  omega
theorem vc_need_unread_raise2 (book : (List (List Str))) (unread : (List Int)) (verse : Int) (hp1 : unread.length ≤ 900) (ho_book : needM book = none) (hl_unread : unread.length ≤ 40000) (hE1 : (numErr book.length (unread ++ (([verse] : List Int)))) = none) (c1 : (!decide (verse ∈ unread)) = true) : unErr book.length unread verse = some ("ReadAlready" : Str) := by
  exact un_2 hE1 (by simpa using c1)
theorem vc_need_unread_none1 (book : (List (List Str))) (unread : (List Int)) (verse : Int) (hp1 : unread.length ≤ 900) (ho_book : needM book = none) (hl_unread : unread.length ≤ 40000) (hE1 : (numErr book.length (unread ++ (([verse] : List Int)))) = none) (c1 : (!decide (verse ∈ unread)) = false) : unErr book.length unread verse = none := by
  exact un_0 hE1 (by simpa using c1)
theorem vc_need_unread_ret1 (book : (List (List Str))) (unread : (List Int)) (verse : Int) (hp1 : unread.length ≤ 900) (ho_book : needM book = none) (hl_unread : unread.length ≤ 40000) (hE1 : (numErr book.length (unread ++ (([verse] : List Int)))) = none) (c1 : (!decide (verse ∈ unread)) = false) : (()) = (()) := by
  rfl
def R_need_unread (K : PySem.W.Frag) (C_Book : Addr) : Rl := ⟨fun vs H r => ∃ (book : (List (List Str))) (unread : (List Int)) (verse : Int), ArgsR H vs [⟨(tBook K C_Book), book⟩, ⟨(tL K tI), unread⟩, ⟨tI, verse⟩] ∧ (unread.length ≤ 900) ∧ r = resE (unErr book.length unread verse) (fun N v => tN.R N v (())), fun e ⟨book, unread, verse, h, h2⟩ => ⟨book, unread, verse, h.up e, h2⟩⟩
theorem ok_need_unread (B : Bt mg) {C_Book C_ReadAlready : Addr} (X_ReadAlready : Xc K mg "ReadAlready" C_ReadAlready) (O_need_numbers : Ok P w K mg base 2 "need_numbers" ["book", "numbers"] ((R_need_numbers K C_Book).sp mg)) (D : Df K mg "need_unread" s_need_unread ["book", "unread", "verse"]) : Ok P w K mg base 3 "need_unread" ["book", "unread", "verse"] ((R_need_unread K C_Book).sp mg) := by
  refine D.ok sc_need_unread (fun vs H Q E h => ?_) (fun f cdv A outer s H vs Q E hr h => ?_)
  · obtain ⟨r, ⟨book, unread, verse, ha, _⟩, _⟩ := h
    exact ha.len
  · obtain ⟨r, ⟨book, unread, verse, ha, hp1, rfl⟩, k⟩ := h
    obtain ⟨v1, v2, v3, rfl, f4, f5, f6⟩ := args3 ha
    have o0 := Own.init H
    have ho_book : needM book = none := book_ok f4
    have hl_unread : unread.length ≤ 40000 := len_ofL f5
    obtain rfl : v3 = (.int (verse)) := f6
    refine ⟨_, (pss_cons (ps_expr (pe_callO O_need_numbers (hr.mono (by omega)) (by rfl) (takes_of rfl rfl rfl rfl) (pa_cons (pv 0) (pa_cons (pe_op (op_addK K) (pe_callTy (call_listK K) (by rfl) B.list boot_ty_list (pa_cons (pv 1) pa_nil)) (pe_lst (pa_cons (pv 2) pa_nil))) pa_nil))))
      (pss_one (ps_if (pt_cmpR (op_notinK K (hu65 hr)) (pv 2) (pv 1) (by rfl))
        (pss_one (ps_raise rfl (takes_of rfl rfl rfl rfl) (pmk_ex X_ReadAlready (by rfl))))
        pss_nil))), ?_⟩
    cases hE1 : numErr book.length (unread ++ (([verse] : List Int))) with
    | some xn1 =>
      exact q_der (xn := xn1) (fs := []) (er_callB (S := (R_need_numbers K C_Book)) (Ex.refl _) (ebs_cons (T := (tBook K C_Book)) (Ex.refl _) (ed_of (T := (tBook K C_Book)) (up (Own.uh o0) (up (Own.ug o0) f4)) rfl) (ebs_cons (T := (tL K tI)) (Ex.refl _) (ed_to (T := (tW tI)) (S := (tL K tI)) (ed_cat (ed_listF (B := (uni H emp)) (ed_of (T := (tL K tI)) (up (Own.ug o0) f5) rfl) (Own.uh o0)) (ed_lst (T := tI) (l := ([verse] : List Int)) (Ex.refl _) (ebs_cons (T := tI) (Ex.refl _) (ed_i (ev_var rfl)) ebs_nil) (Nat.le_of_ble_eq_true rfl)) (Ex.refl _) (vc_need_unread_cat1 book unread verse xn1 hp1 ho_book hl_unread hE1))) ebs_nil)) (fun vs G ha => ad_need_numbers ha (vc_need_unread_pre_need_numbers1 book unread verse xn1 hp1 ho_book hl_unread hE1) (res_err hE1).symm)) (RaiseX.fwd (Own.e1 o0) (resE_err (vc_need_unread_raise1 book unread verse xn1 hp1 ho_book hl_unread hE1) k))
    | none =>
      refine q_dv o0 (ep_callB (S := (R_need_numbers K C_Book)) (Ex.refl _) (ebs_cons (T := (tBook K C_Book)) (Ex.refl _) (ed_of (T := (tBook K C_Book)) (up (Own.uh o0) (up (Own.ug o0) f4)) rfl) (ebs_cons (T := (tL K tI)) (Ex.refl _) (ed_to (T := (tW tI)) (S := (tL K tI)) (ed_cat (ed_listF (B := (uni H emp)) (ed_of (T := (tL K tI)) (up (Own.ug o0) f5) rfl) (Own.uh o0)) (ed_lst (T := tI) (l := ([verse] : List Int)) (Ex.refl _) (ebs_cons (T := tI) (Ex.refl _) (ed_i (ev_var rfl)) ebs_nil) (Nat.le_of_ble_eq_true rfl)) (Ex.refl _) (vc_need_unread_cat2 book unread verse hp1 ho_book hl_unread hE1))) ebs_nil)) (fun vs G ha => ad_need_numbers ha (vc_need_unread_pre_need_numbers2 book unread verse hp1 ho_book hl_unread hE1) (res_ok hE1).symm)) fun H7 o8 => ?_
      refine s_wh o8 (et_test (ev_niB (T := tI) (ed_i (ev_var rfl)) (ed_of (T := (tL K tI)) (up (Own.ug o0) f5) rfl) (Own.uh o8))) (fun c1 H9 o10 => ?_) (fun c1 H9 o10 => ?_)
      · skip
        exact (resE_err (vc_need_unread_raise2 book unread verse hp1 ho_book hl_unread hE1 c1) k).go (Own.e1 o10) X_ReadAlready.g
      · skip
        first | exact s_rn' o10 (resE_ok (vc_need_unread_none1 book unread verse hp1 ho_book hl_unread hE1 c1) k) (by first | (rw [(vc_need_unread_ret1 book unread verse hp1 ho_book hl_unread hE1 c1)]; exact rfl) | (rw [← (vc_need_unread_ret1 book unread verse hp1 ho_book hl_unread hE1 c1)]; exact rfl)) | exact ((resE_ok (vc_need_unread_none1 book unread verse hp1 ho_book hl_unread hE1 c1) k)) .non _ _ (Own.e1 o10) (Own.e0 o10) (fun a ha => (o10).2.1 _ List.mem_cons_self a ha) (by first | (rw [(vc_need_unread_ret1 book unread verse hp1 ho_book hl_unread hE1 c1)]; exact rfl) | (rw [← (vc_need_unread_ret1 book unread verse hp1 ho_book hl_unread hE1 c1)]; exact rfl))
abbrev s_last_of : Stmt := topS 30
theorem sc_last_of : FnScope ["most", "size", "one"] ["most", "size"] (defScope s_last_of) := ⟨rfl, rfl, rfl, by decide +kernel, rfl, by decide +kernel, by decide +kernel⟩
theorem vc_last_of_pre_part1 (most : (List Int)) (size : Int) (hp1 : most.length ≤ 1000) (hl_most : most.length ≤ 40000) : ((1 : Int) + (((((most).filter fun e1 => decide (e1 ≥ size)).map fun e1 => e1).length : Int))) ≠ 0 ∧ Bd 9000 ((1 : Int) + (((((most).filter fun e1 => decide (e1 ≥ size)).map fun e1 => e1).length : Int))) := by
  have := ag_le most size
  unfold agI at this
  rw [map_id_fl]
  exact bd_small (by omega)
theorem vc_last_of_ret1 (most : (List Int)) (size : Int) (hp1 : most.length ≤ 1000) (hl_most : most.length ≤ 40000) : (chI most size) = (partM (1 : Int) ((1 : Int) + (((((most).filter fun e1 => decide (e1 ≥ size)).map fun e1 => e1).length : Int)))) := by
  rw [map_id_fl]
  exact (partM_low (by have := ag_le most size; have e : agI most size = ((most.filter fun x => decide (x ≥ size)).length : Int) := rfl; omega) (Int.one_gcd)).symm
def R_last_of (K : PySem.W.Frag) : Rl := ⟨fun vs H r => ∃ (most : (List Int)) (size : Int), ArgsR H vs [⟨(tL K tI), most⟩, ⟨tI, size⟩] ∧ (most.length ≤ 1000) ∧ r = .ok (fun N v => (tP K tI tI).R N v (chI most size)), fun e ⟨most, size, h, h2⟩ => ⟨most, size, h.up e, h2⟩⟩
theorem ok_last_of (B : Bt mg) (O_part : Ok P w K mg base 2 "part" ["top", "bottom"] (R_part.sp mg)) (D : Df K mg "last_of" s_last_of ["most", "size"]) : Ok P w K mg base 3 "last_of" ["most", "size"] ((R_last_of K).sp mg) := by
  refine D.ok sc_last_of (fun vs H Q E h => ?_) (fun f cdv A outer s H vs Q E hr h => ?_)
  · obtain ⟨r, ⟨most, size, ha, _⟩, _⟩ := h
    exact ha.len
  · obtain ⟨r, ⟨most, size, ha, hp1, rfl⟩, k⟩ := h
    obtain ⟨v1, v2, rfl, f3, f4⟩ := args2 ha
    have o0 := Own.init H
    have hl_most : most.length ≤ 40000 := len_ofL f3
    obtain rfl : v2 = (.int (size)) := f4
    refine ⟨_, (pss_one (ps_ret (pe_callO O_part (hr.mono (by omega)) (by rfl) (takes_of rfl rfl rfl rfl) (pa_cons pe_int (pa_cons (pe_op (op_addK K) pe_int (pe_callB (call_lenK K) (by rfl) B.len boot_b_len (pa_cons (pe_lc (own := [("one", 2)]) rfl sc_last_of.nd (pi_listK K (pv 0)) (blkOk_by (N := ["most", "size", "one"]) (sc := defScope s_last_of) (by decide +kernel)) (fun _ _ _ _ _ => (pg_name (i := 2) sc_last_of.nd rfl (.inl rfl))) (fun _ _ _ _ _ => pts_one (pt_cmpR op_ge (pv 2) (pv 1) (nomark _))) (fun _ _ _ _ _ => (pv 2))) pa_nil))) pa_nil))))), ?_⟩
    exact s_rb o0 (eb_imp (ed_p (T := (tP K tI tI)) (ep_callB (S := R_part) (Ex.refl _) (ebs_cons (T := tI) (Ex.refl _) (ed_i ev_c) (ebs_cons (T := tI) (Ex.refl _) (ed_i (ev_op ev_c (ev_lenB (T := tI) (ed_to (T := (tW tI)) (S := (tL K tI)) (ed_of_n (Own.e0 o0) (en_flt (en_lc (S := tI) (Z := fun B y σ σ2 => ∃ z5, σ2 = (σ.set 2 (some z5)) ∧ tI.R B z5 y) (dr_list (T := tI) (ed_of (T := (tL K tI)) (up (Own.uh o0) (up (Own.ug o0) f3)) rfl) (Ex.refl _) (fun G x y H' e hx σ' Q q => by exact q _ ⟨x, rfl, hx⟩)) (Ex.refl _) (fun e1 : Int => decide (e1 ≥ size)) (fun e1 : Int => e1) (fun _ _ _ ⟨z5, h0, fz5⟩ => by subst h0; rfl) (fun G6 e1 σ2 H6 eb6 eg6 eh6 hm1 hz6 => by obtain ⟨z5, rfl, fz5⟩ := hz6; obtain rfl : z5 = (.int (e1)) := fz5; exact (et_test (ev_op (ev_var rfl) (ev_var rfl) rv_I0))) (fun G6 e1 σ2 H6 eb6 eg6 eh6 hm1 hf1 hz6 => by obtain ⟨z5, rfl, fz5⟩ := hz6; obtain rfl : z5 = (.int (e1)) := fz5; exact (ed_i (ev_var rfl))) (fun _ _ _ _ e ⟨z5, h0, fz5⟩ => ⟨z5, h0, up e fz5⟩))))) (Own.e0 o0)) rv_addI)) ebs_nil)) (fun vs G ha => ad_part ha (vc_last_of_pre_part1 most size hp1 hl_most))) (Own.e0 o0) (cv_part)) fun N v h => (by rw [(vc_last_of_ret1 most size hp1 hl_most)]; exact h)) k
abbrev s_mean_of : Stmt := topS 31
theorem sc_mean_of : FnScope ["most", "found", "size", "against", "one"] ["most"] (defScope s_mean_of) := ⟨rfl, rfl, rfl, by decide +kernel, rfl, by decide +kernel, by decide +kernel⟩
theorem vc_mean_of_pre_part1 (most : (List Int)) (hp1 : most.length ≤ 1000 ∧ ∀ x ∈ most, 0 ≤ x ∧ x ≤ 8) (hl_most : most.length ≤ 40000) : (1 : Int) ≠ 0 ∧ Bd 9000 (1 : Int) := by
  exact bd_small (by decide)
theorem vc_mean_of_rng1 (most : (List Int)) (hp1 : most.length ≤ 1000 ∧ ∀ x ∈ most, 0 ≤ x ∧ x ≤ 8) (hl_most : most.length ≤ 40000) : -1000000 ≤ maxI (0 : Int) ((most).map fun e1 => e1 + (1 : Int)) ∧ maxI (0 : Int) ((most).map fun e1 => e1 + (1 : Int)) ≤ 40000 := by
  have h0 := top_0 (fun x hx => (hp1.2 x hx).1)
  have h1 := top_le (b := 9) (by decide) (fun x hx => by have := hp1.2 x hx; omega)
  unfold topI at h0 h1
  omega
theorem vc_mean_of_inv1i1 (most : (List Int)) (hp1 : most.length ≤ 1000 ∧ ∀ x ∈ most, 0 ≤ x ∧ x ≤ 8) (hl_most : most.length ≤ 40000) : (partM (0 : Int) (1 : Int)) = (((rngI (maxI (0 : Int) ((most).map fun e1 => e1 + (1 : Int))))).take 0).foldl (stI most) (0, 1) := by
  rw [List.take_zero]
  exact partM_low (by decide) (by decide)
theorem vc_mean_of_pre_part2 (most : (List Int)) (found_1 : (Int × Int)) (ix1 : Nat) (y1 : Int) (against_a1 : Int) (hp1 : most.length ≤ 1000 ∧ ∀ x ∈ most, 0 ≤ x ∧ x ≤ 8) (hl_most : most.length ≤ 40000) (hj1_1 : found_1 = (((rngI (maxI (0 : Int) ((most).map fun e1 => e1 + (1 : Int))))).take ix1).foldl (stI most) (0, 1)) (hi1 : (rngI (maxI (0 : Int) ((most).map fun e1 => e1 + (1 : Int))))[ix1]? = some y1) (ha1 : against_a1 = ((((most).filter fun e2 => decide (e2 ≥ y1)).map fun e2 => e2).length : Int)) : ((1 : Int) + against_a1) ≠ 0 ∧ Bd 9000 ((1 : Int) + against_a1) := by
  have ea : against_a1 = agI most y1 := by rw [ha1, map_id_fl]; rfl
  have hag := ag_le most y1
  have elo : partM (agI most y1) (1 + agI most y1) = (agI most y1, 1 + agI most y1) := partM_low (by omega) (gcd_suc _)
  have hix := (List.getElem?_eq_some_iff.mp hi1).1
  rw [rngI_len] at hix
  have h0 := top_0 (fun x hx => (hp1.2 x hx).1)
  have h1 := top_le (b := 9) (by decide) (fun x hx => by have := hp1.2 x hx; omega)
  unfold topI at h0 h1
  rw [ea]
  exact bd_small (by omega)
theorem vc_mean_of_pre_plus1 (most : (List Int)) (found_1 : (Int × Int)) (ix1 : Nat) (y1 : Int) (against_a1 : Int) (hp1 : most.length ≤ 1000 ∧ ∀ x ∈ most, 0 ≤ x ∧ x ≤ 8) (hl_most : most.length ≤ 40000) (hj1_1 : found_1 = (((rngI (maxI (0 : Int) ((most).map fun e1 => e1 + (1 : Int))))).take ix1).foldl (stI most) (0, 1)) (hi1 : (rngI (maxI (0 : Int) ((most).map fun e1 => e1 + (1 : Int))))[ix1]? = some y1) (ha1 : against_a1 = ((((most).filter fun e2 => decide (e2 ≥ y1)).map fun e2 => e2).length : Int)) : PB found_1 ∧ PB (partM against_a1 ((1 : Int) + against_a1)) := by
  have ea : against_a1 = agI most y1 := by rw [ha1, map_id_fl]; rfl
  have hag := ag_le most y1
  have elo : partM (agI most y1) (1 + agI most y1) = (agI most y1, 1 + agI most y1) := partM_low (by omega) (gcd_suc _)
  have hix := (List.getElem?_eq_some_iff.mp hi1).1
  rw [rngI_len] at hix
  have h0 := top_0 (fun x hx => (hp1.2 x hx).1)
  have h1 := top_le (b := 9) (by decide) (fun x hx => by have := hp1.2 x hx; omega)
  unfold topI at h0 h1
  rw [ea, elo, fold_mean hj1_1 (by omega)]
  exact ⟨mean_pb hp1.1 (by omega), ag_pb hp1.1 _⟩
theorem vc_mean_of_inv1s1 (most : (List Int)) (found_1 : (Int × Int)) (ix1 : Nat) (y1 : Int) (against_a1 : Int) (hp1 : most.length ≤ 1000 ∧ ∀ x ∈ most, 0 ≤ x ∧ x ≤ 8) (hl_most : most.length ≤ 40000) (hj1_1 : found_1 = (((rngI (maxI (0 : Int) ((most).map fun e1 => e1 + (1 : Int))))).take ix1).foldl (stI most) (0, 1)) (hi1 : (rngI (maxI (0 : Int) ((most).map fun e1 => e1 + (1 : Int))))[ix1]? = some y1) (ha1 : against_a1 = ((((most).filter fun e2 => decide (e2 ≥ y1)).map fun e2 => e2).length : Int)) : (plusM found_1 (partM against_a1 ((1 : Int) + against_a1))) = (((rngI (maxI (0 : Int) ((most).map fun e1 => e1 + (1 : Int))))).take (ix1 + 1)).foldl (stI most) (0, 1) := by
  have ea : against_a1 = agI most y1 := by rw [ha1, map_id_fl]; rfl
  have hag := ag_le most y1
  have elo : partM (agI most y1) (1 + agI most y1) = (agI most y1, 1 + agI most y1) := partM_low (by omega) (gcd_suc _)
  have hix := (List.getElem?_eq_some_iff.mp hi1).1
  rw [rngI_len] at hix
  have h0 := top_0 (fun x hx => (hp1.2 x hx).1)
  have h1 := top_le (b := 9) (by decide) (fun x hx => by have := hp1.2 x hx; omega)
  unfold topI at h0 h1
  rw [ea, elo, List.take_add_one, hi1, List.foldl_append, ← hj1_1]
  rfl
theorem vc_mean_of_ret1 (most : (List Int)) (found_1 : (Int × Int)) (hp1 : most.length ≤ 1000 ∧ ∀ x ∈ most, 0 ≤ x ∧ x ≤ 8) (hl_most : most.length ≤ 40000) (hj1_1 : found_1 = (((rngI (maxI (0 : Int) ((most).map fun e1 => e1 + (1 : Int))))).take ((rngI (maxI (0 : Int) ((most).map fun e1 => e1 + (1 : Int)))).length)).foldl (stI most) (0, 1)) : (meanI most (topI most)) = (found_1) := by
  rw [hj1_1, List.take_length]
  rfl
def R_mean_of (K : PySem.W.Frag) : Rl := ⟨fun vs H r => ∃ (most : (List Int)), ArgsR H vs [⟨(tL K tI), most⟩] ∧ (most.length ≤ 1000 ∧ ∀ x ∈ most, 0 ≤ x ∧ x ≤ 8) ∧ r = .ok (fun N v => (tP K tI tI).R N v (meanI most (topI most))), fun e ⟨most, h, h2⟩ => ⟨most, h.up e, h2⟩⟩
theorem ok_mean_of (B : Bt mg) (O_part : Ok P w K mg base 2 "part" ["top", "bottom"] (R_part.sp mg)) (O_plus : Ok P w K mg base 3 "plus" ["one", "other"] ((R_plus K).sp mg)) (D : Df K mg "mean_of" s_mean_of ["most"]) : Ok P w K mg base 4 "mean_of" ["most"] ((R_mean_of K).sp mg) := by
  refine D.ok sc_mean_of (fun vs H Q E h => ?_) (fun f cdv A outer s H vs Q E hr h => ?_)
  · obtain ⟨r, ⟨most, ha, _⟩, _⟩ := h
    exact ha.len
  · obtain ⟨r, ⟨most, ha, hp1, rfl⟩, k⟩ := h
    obtain ⟨v1, rfl, f2⟩ := args1 ha
    have o0 := Own.init H
    have hl_most : most.length ≤ 40000 := len_ofL f2
    refine ⟨_, (pss_cons (ps_set (i := 1) sc_mean_of.nd rfl (.inl rfl) (pe_callO O_part (hr.mono (by omega)) (by rfl) (takes_of rfl rfl rfl rfl) (pa_cons pe_int (pa_cons pe_int pa_nil))))
      (pss_cons (ps_for (passes_of rfl) rfl (pi_range1 (by rfl) B.range (pa_cons (pe_callBK (cr_maxDfK K rfl (hu_of hr)) (by rfl) B.max boot_b_max (pa_cons (pe_lc (own := [("one", 4)]) rfl sc_mean_of.nd (pi_listK K (pv 0)) (blkOk_by (N := ["most", "found", "size", "against", "one"]) (sc := defScope s_mean_of) (by decide +kernel)) (fun _ _ _ _ _ => (pg_name (i := 4) sc_mean_of.nd rfl (.inl rfl))) (fun _ _ _ _ _ => pts_nil) (fun _ _ _ _ _ => (pe_op (op_addK K) (pv 4) pe_int))) pa_nil) (pk_cons pe_int pk_nil)) pa_nil)) (pg_name (i := 2) sc_mean_of.nd rfl (.inr rfl))
        (pss_cons (ps_set (i := 3) sc_mean_of.nd rfl (.inl rfl) (pe_callB (call_lenK K) (by rfl) B.len boot_b_len (pa_cons (pe_lc (own := [("one", 4)]) rfl sc_mean_of.nd (pi_listK K (pv 0)) (blkOk_by (N := ["most", "found", "size", "against", "one"]) (sc := defScope s_mean_of) (by decide +kernel)) (fun _ _ _ _ _ => (pg_name (i := 4) sc_mean_of.nd rfl (.inl rfl))) (fun _ _ _ _ _ => pts_one (pt_cmpR op_ge (pv 4) (pv 2) (nomark _))) (fun _ _ _ _ _ => (pv 4))) pa_nil)))
        (pss_one (ps_set (i := 1) sc_mean_of.nd rfl (.inl rfl) (pe_callO O_plus (hr.mono (by omega)) (by rfl) (takes_of rfl rfl rfl rfl) (pa_cons (pv 1) (pa_cons (pe_callO O_part (hr.mono (by omega)) (by rfl) (takes_of rfl rfl rfl rfl) (pa_cons (pv 3) (pa_cons (pe_op (op_addK K) pe_int (pv 3)) pa_nil))) pa_nil)))))))
      (pss_one (ps_ret (pv 1))))), ?_⟩
    refine q_b (i := 1) o0 (ed_p (T := (tP K tI tI)) (ep_callB (S := R_part) (Ex.refl _) (ebs_cons (T := tI) (Ex.refl _) (ed_i ev_c) (ebs_cons (T := tI) (Ex.refl _) (ed_i ev_c) ebs_nil)) (fun vs G ha => ad_part ha (vc_mean_of_pre_part1 most hp1 hl_most))) (Own.e0 o0) (cv_part)) fun v3 M4 H5 eM6 o7 f8 => ?_
    refine q_fo (Z := fun B y σ σ2 => ∃ v, σ2 = σ.set 2 (some v) ∧ tI.R B v y) o7 (dr_rng (n := maxI (0 : Int) ((most).map fun e1 => e1 + (1 : Int))) (ev_maxB (ed_to (T := (tW tI)) (S := (tL K tI)) (ed_of_n (Own.e0 o7) (en_flt (en_lcA (S := tI) (Z := fun B y σ σ2 => ∃ z9, σ2 = (σ.set 4 (some z9)) ∧ tI.R B z9 y) (dr_list (T := tI) (ed_of (T := (tL K tI)) (up (Own.uh o7) (up (Own.uu o7 eM6) (up (Own.ug o0) f2))) rfl) (Ex.refl _) (fun G x y H' e hx σ' Q q => by exact q _ ⟨x, rfl, hx⟩)) (Ex.refl _) (fun e1 : Int => e1 + (1 : Int)) (fun _ _ _ ⟨z9, h0, fz9⟩ => by subst h0; rfl) (fun G10 e1 σ2 H10 eb10 eg10 eh10 hm1 hz10 => by obtain ⟨z9, rfl, fz9⟩ := hz10; obtain rfl : z9 = (.int (e1)) := fz9; exact (ed_i (ev_op (ev_var rfl) ev_c rv_addI))) (fun _ _ _ _ e ⟨z9, h0, fz9⟩ => ⟨z9, h0, up e fz9⟩))))) ev_c (Own.e0 o7)) (vc_mean_of_rng1 most hp1 hl_most) fun _ y _ _ _ q => q _ ⟨_, rfl, rfl⟩) (fun Mx ix σ' H' => ∃ (M12 : Hp) (g15 : Option V) (g16 : Option V) (v17 : V) (found_1 : (Int × Int)), (σ' = [some v1, some v17, g15, g16, none]) ∧ (Ex Mx M12) ∧ (Own (M12 :: H :: []) H') ∧ ((tP K tI tI).R M12 v17 found_1) ∧ (found_1 = (((rngI (maxI (0 : Int) ((most).map fun e1 => e1 + (1 : Int))))).take ix).foldl (stI most) (0, 1))) (fun M1_1 H1 eM1_1 o1 => ?_) (fun M1_1 ix σ' H' eM1_1 ⟨M12, g15, g16, v17, found_1, _, eM14, o13, _, _⟩ => ?_) ?_ ?_
    · exact ⟨M1_1, _, _, _, (partM (0 : Int) (1 : Int)), rfl, Ex.refl _, o1, (up eM1_1 f8), (vc_mean_of_inv1i1 most hp1 hl_most)⟩
    · exact (eM14.trans (Own.e0 o13))
    · rintro M1_1 ix1 y1 σ' H' H'' σ2 eM1_1 hi1 ⟨M12, g15, g16, v17, found_1, rfl, eM14, o13, f18, hj1_1⟩ eH19 ⟨z21, rfl, f22⟩
      have o20 := Own.mono eH19 o13
      obtain rfl : z21 = (.int (y1)) := f22
      obtain ⟨against_a1, ha1⟩ : ∃ z : Int, z = (((((most).filter fun e2 => decide (e2 ≥ y1)).map fun e2 => e2).length : Int)) := ⟨_, rfl⟩
      refine q_v (i := 3) o20 (ev_is (ev_lenB (T := tI) (ed_to (T := (tW tI)) (S := (tL K tI)) (ed_of_n (Own.e0 o20) (en_flt (en_lc (S := tI) (Z := fun B y σ σ2 => ∃ z23, σ2 = (σ.set 4 (some z23)) ∧ tI.R B z23 y) (dr_list (T := tI) (ed_of (T := (tL K tI)) (up (Own.uh o20) (up (Own.uu o20 (Ex.trans eM6 (Ex.trans eM1_1 eM14))) (up (Own.ug o0) f2))) rfl) (Ex.refl _) (fun G x y H' e hx σ' Q q => by exact q _ ⟨x, rfl, hx⟩)) (Ex.refl _) (fun e2 : Int => decide (e2 ≥ y1)) (fun e2 : Int => e2) (fun _ _ _ ⟨z23, h0, fz23⟩ => by subst h0; rfl) (fun G24 e2 σ2 H24 eb24 eg24 eh24 hm2 hz24 => by obtain ⟨z23, rfl, fz23⟩ := hz24; obtain rfl : z23 = (.int (e2)) := fz23; exact (et_test (ev_op (ev_var rfl) (ev_var rfl) rv_I0))) (fun G24 e2 σ2 H24 eb24 eg24 eh24 hm2 hf2 hz24 => by obtain ⟨z23, rfl, fz23⟩ := hz24; obtain rfl : z23 = (.int (e2)) := fz23; exact (ed_i (ev_var rfl))) (fun _ _ _ _ e ⟨z23, h0, fz23⟩ => ⟨z23, h0, up e fz23⟩))))) (Own.e0 o20)) (congrArg V.int ha1.symm)) fun H25 o26 => ?_
      refine s_b (i := 1) o26 (ed_p (T := (tP K tI tI)) (ep_callB (S := (R_plus K)) (Ex.refl _) (ebs_cons (T := (tP K tI tI)) (Ex.refl _) (ed_of (T := (tP K tI tI)) (up (Own.e0 o26) f18) rfl) (ebs_cons (T := (tP K tI tI)) (Ex.refl _) (ed_p (T := (tP K tI tI)) (ep_callB (S := R_part) (Ex.refl _) (ebs_cons (T := tI) (Ex.refl _) (ed_i (ev_var rfl)) (ebs_cons (T := tI) (Ex.refl _) (ed_i (ev_op ev_c (ev_var rfl) rv_addI)) ebs_nil)) (fun vs G ha => ad_part ha (vc_mean_of_pre_part2 most found_1 ix1 y1 against_a1 hp1 hl_most hj1_1 hi1 ha1))) (Ex.refl _) (cv_part)) ebs_nil)) (fun vs G ha => ad_plus ha (vc_mean_of_pre_plus1 most found_1 ix1 y1 against_a1 hp1 hl_most hj1_1 hi1 ha1))) (Own.e0 o26) (cv_part)) fun v27 M28 H29 eM30 o31 f32 => ?_
      exact ⟨M28, _, _, _, (plusM found_1 (partM against_a1 ((1 : Int) + against_a1))), rfl, (Ex.trans eM14 eM30), o31, f32, (vc_mean_of_inv1s1 most found_1 ix1 y1 against_a1 hp1 hl_most hj1_1 hi1 ha1)⟩
    · rintro M1_1 σ' H' eM1_1 ⟨M12, g15, g16, v17, found_1, rfl, eM14, o13, f18, hj1_1⟩
      exact s_rb o13 (eb_imp (ed_of (T := (tP K tI tI)) f18 rfl) fun N v h => (by rw [(vc_mean_of_ret1 most found_1 hp1 hl_most hj1_1)]; exact h)) k
abbrev s_all_shared : Stmt := topS 32
theorem sc_all_shared : FnScope ["book", "unread", "verse", "number", "most"] ["book", "unread", "verse"] (defScope s_all_shared) := ⟨rfl, rfl, rfl, by decide +kernel, rfl, by decide +kernel, by decide +kernel⟩
theorem vc_all_shared_pre_sizes1 (book : (List (List Str))) (unread : (List Int)) (verse : Int) (xn1 : Str) (hp1 : unread.length ≤ 1000) (ho_book : needM book = none) (hl_unread : unread.length ≤ 40000) (hE1 : (numErr book.length (verse :: unread)) = some xn1) : (unread).length ≤ 1000 := by
  exact hp1
theorem vc_all_shared_pre_sizes2 (book : (List (List Str))) (unread : (List Int)) (verse : Int) (xn1 : Str) (hp1 : unread.length ≤ 1000) (ho_book : needM book = none) (hl_unread : unread.length ≤ 40000) (hE1 : (numErr book.length (verse :: unread)) = some xn1) : (book).length ≤ 40000 := by
  have := needM_len ho_book
  omega
theorem vc_all_shared_raise1 (book : (List (List Str))) (unread : (List Int)) (verse : Int) (xn1 : Str) (hp1 : unread.length ≤ 1000) (ho_book : needM book = none) (hl_unread : unread.length ≤ 40000) (hE1 : (numErr book.length (verse :: unread)) = some xn1) : numErr book.length (verse :: unread) = some xn1 := by
  exact hE1
theorem vc_all_shared_none1 (book : (List (List Str))) (unread : (List Int)) (verse : Int) (hp1 : unread.length ≤ 1000) (ho_book : needM book = none) (hl_unread : unread.length ≤ 40000) (hE1 : (numErr book.length (verse :: unread)) = none) : numErr book.length (verse :: unread) = none := by
  exact hE1
theorem vc_all_shared_pre_sizes3 (book : (List (List Str))) (unread : (List Int)) (verse : Int) (hp1 : unread.length ≤ 1000) (ho_book : needM book = none) (hl_unread : unread.length ≤ 40000) (hE1 : (numErr book.length (verse :: unread)) = none) : (unread).length ≤ 1000 := by
  exact hp1
theorem vc_all_shared_pre_sizes4 (book : (List (List Str))) (unread : (List Int)) (verse : Int) (hp1 : unread.length ≤ 1000) (ho_book : needM book = none) (hl_unread : unread.length ≤ 40000) (hE1 : (numErr book.length (verse :: unread)) = none) : (book).length ≤ 40000 := by
  have := needM_len ho_book
  omega
theorem vc_all_shared_ret1 (book : (List (List Str))) (unread : (List Int)) (verse : Int) (hp1 : unread.length ≤ 1000) (ho_book : needM book = none) (hl_unread : unread.length ≤ 40000) (hE1 : (numErr book.length (verse :: unread)) = none) : (mostI book unread verse) = ((sizI book unread verse).map fun e1 => e1.2) := by
  rfl
def R_all_shared (K : PySem.W.Frag) (C_Book : Addr) : Rl := ⟨fun vs H r => ∃ (book : (List (List Str))) (unread : (List Int)) (verse : Int), ArgsR H vs [⟨(tBook K C_Book), book⟩, ⟨(tL K tI), unread⟩, ⟨tI, verse⟩] ∧ (unread.length ≤ 1000) ∧ r = resE (numErr book.length (verse :: unread)) (fun N v => (tW tI).R N v (mostI book unread verse)), fun e ⟨book, unread, verse, h, h2⟩ => ⟨book, unread, verse, h.up e, h2⟩⟩
theorem ok_all_shared (B : Bt mg) {C_Book : Addr} (O_sizes : Ok P w K mg base 4 "sizes" ["book", "unread", "verse"] ((R_sizes K C_Book).sp mg)) (D : Df K mg "all_shared" s_all_shared ["book", "unread", "verse"]) : Ok P w K mg base 5 "all_shared" ["book", "unread", "verse"] ((R_all_shared K C_Book).sp mg) := by
  refine D.ok sc_all_shared (fun vs H Q E h => ?_) (fun f cdv A outer s H vs Q E hr h => ?_)
  · obtain ⟨r, ⟨book, unread, verse, ha, _⟩, _⟩ := h
    exact ha.len
  · obtain ⟨r, ⟨book, unread, verse, ha, hp1, rfl⟩, k⟩ := h
    obtain ⟨v1, v2, v3, rfl, f4, f5, f6⟩ := args3 ha
    have o0 := Own.init H
    have ho_book : needM book = none := book_ok f4
    have hl_unread : unread.length ≤ 40000 := len_ofL f5
    obtain rfl : v3 = (.int (verse)) := f6
    refine ⟨_, (pss_one (ps_ret (pe_lc (own := [("number", 3), ("most", 4)]) rfl sc_all_shared.nd (pi_listK K (pe_callO O_sizes (hr.mono (by omega)) (by rfl) (takes_of rfl rfl rfl rfl) (pa_cons (pv 0) (pa_cons (pv 1) (pa_cons (pv 2) pa_nil))))) (blkOk_by (N := ["book", "unread", "verse", "number", "most"]) (sc := defScope s_all_shared) (by decide +kernel)) (fun _ _ _ _ _ => (pg_tupK K (n := 2) rfl (pgs_cons (pg_name (i := 3) sc_all_shared.nd rfl (.inl rfl)) (pgs_cons (pg_name (i := 4) sc_all_shared.nd rfl (.inl rfl)) pgs_nil)))) (fun _ _ _ _ _ => pts_nil) (fun _ _ _ _ _ => (pv 4))))), ?_⟩
    cases hE1 : numErr book.length (verse :: unread) with
    | some xn1 =>
      exact s_rer (xn := xn1) (fs := []) (er_lc (er_callB (S := (R_sizes K C_Book)) (Ex.refl _) (ebs_cons (T := (tBook K C_Book)) (Ex.refl _) (ed_of (T := (tBook K C_Book)) (up (Own.uh o0) (up (Own.ug o0) f4)) rfl) (ebs_cons (T := (tL K tI)) (Ex.refl _) (ed_of (T := (tL K tI)) (up (Own.uh o0) (up (Own.ug o0) f5)) rfl) (ebs_cons (T := tI) (Ex.refl _) (ed_i (ev_var rfl)) ebs_nil))) (fun vs G ha => ad_sizes ha (vc_all_shared_pre_sizes1 book unread verse xn1 hp1 ho_book hl_unread hE1) (res_err hE1).symm))) (RaiseX.fwd (Own.e1 o0) (resE_err (vc_all_shared_raise1 book unread verse xn1 hp1 ho_book hl_unread hE1) k))
    | none =>
      exact s_rb o0 (eb_imp (ed_of_n (Own.e0 o0) (en_flt (en_lcA (S := tI) (Z := fun B y σ σ2 => ∃ z7 z8, σ2 = ((σ.set 3 (some z7)).set 4 (some z8)) ∧ tI.R B z7 y.1 ∧ tI.R B z8 y.2) (dr_list (T := (tP K tI tI)) (ed_to (T := (tW (tP K tI tI))) (S := (tL K (tP K tI tI))) (ed_p (T := (tW (tP K tI tI))) (ep_callB (S := (R_sizes K C_Book)) (Ex.refl _) (ebs_cons (T := (tBook K C_Book)) (Ex.refl _) (ed_of (T := (tBook K C_Book)) (up (Own.uh o0) (up (Own.ug o0) f4)) rfl) (ebs_cons (T := (tL K tI)) (Ex.refl _) (ed_of (T := (tL K tI)) (up (Own.uh o0) (up (Own.ug o0) f5)) rfl) (ebs_cons (T := tI) (Ex.refl _) (ed_i (ev_var rfl)) ebs_nil))) (fun vs G ha => ad_sizes ha (vc_all_shared_pre_sizes3 book unread verse hp1 ho_book hl_unread hE1) (res_ok hE1).symm)) (Ex.refl _) (cv_siz (vc_all_shared_pre_sizes4 book unread verse hp1 ho_book hl_unread hE1)))) (Ex.refl _) (fun G x y H' e hx σ' Q q => by obtain ⟨p13, w9, w10, h14, h15, h11, h12⟩ := hx; exact ⟨p13, [w9, w10], h14, ex_t e h15, rfl, ⟨w9, [w10], rfl, ⟨w10, [], rfl, ⟨rfl, q _ ⟨w9, w10, rfl, h11, h12⟩⟩⟩⟩⟩)) (Ex.refl _) (fun e1 : (Int × Int) => e1.2) (fun _ _ _ ⟨z7, z8, h0, fz7, fz8⟩ => by subst h0; rfl) (fun G16 e1 σ2 H16 eb16 eg16 eh16 hm1 hz16 => by obtain ⟨z7, z8, rfl, fz7, fz8⟩ := hz16; obtain rfl : z7 = (.int (e1.1)) := fz7; obtain rfl : z8 = (.int (e1.2)) := fz8; exact (ed_i (ev_var rfl))) (fun _ _ _ _ e ⟨z7, z8, h0, fz7, fz8⟩ => ⟨z7, z8, h0, up e fz7, up e fz8⟩)))) fun N v h => (by rw [(vc_all_shared_ret1 book unread verse hp1 ho_book hl_unread hE1)]; exact h)) (resE_ok (vc_all_shared_none1 book unread verse hp1 ho_book hl_unread hE1) k)
abbrev s_decided_by : Stmt := topS 33
theorem sc_decided_by : FnScope ["book", "unread", "verse", "size"] ["book", "unread", "verse", "size"] (defScope s_decided_by) := ⟨rfl, rfl, rfl, by decide +kernel, rfl, by decide +kernel, by decide +kernel⟩
theorem vc_decided_by_pre_need_unread1 (book : (List (List Str))) (unread : (List Int)) (verse : Int) (size : Int) (xn1 : Str) (hp1 : unread.length ≤ 900) (ho_book : needM book = none) (hl_unread : unread.length ≤ 40000) (hE1 : (unErr (book).length (unread) (verse)) = some xn1) : (unread).length ≤ 900 := by
  exact hp1
theorem vc_decided_by_raise1 (book : (List (List Str))) (unread : (List Int)) (verse : Int) (size : Int) (xn1 : Str) (hp1 : unread.length ≤ 900) (ho_book : needM book = none) (hl_unread : unread.length ≤ 40000) (hE1 : (unErr (book).length (unread) (verse)) = some xn1) : unErr book.length unread verse = some xn1 := by
  exact hE1
theorem vc_decided_by_pre_need_unread2 (book : (List (List Str))) (unread : (List Int)) (verse : Int) (size : Int) (hp1 : unread.length ≤ 900) (ho_book : needM book = none) (hl_unread : unread.length ≤ 40000) (hE1 : (unErr (book).length (unread) (verse)) = none) : (unread).length ≤ 900 := by
  exact hp1
theorem vc_decided_by_none1 (book : (List (List Str))) (unread : (List Int)) (verse : Int) (size : Int) (hp1 : unread.length ≤ 900) (ho_book : needM book = none) (hl_unread : unread.length ≤ 40000) (hE1 : (unErr (book).length (unread) (verse)) = none) : unErr book.length unread verse = none := by
  exact hE1
theorem vc_decided_by_pre_all_shared1 (book : (List (List Str))) (unread : (List Int)) (verse : Int) (size : Int) (hp1 : unread.length ≤ 900) (ho_book : needM book = none) (hl_unread : unread.length ≤ 40000) (hE1 : (unErr (book).length (unread) (verse)) = none) : (unread).length ≤ 1000 := by
  omega
theorem vc_decided_by_safe1 (book : (List (List Str))) (unread : (List Int)) (verse : Int) (size : Int) (hp1 : unread.length ≤ 900) (ho_book : needM book = none) (hl_unread : unread.length ≤ 40000) (hE1 : (unErr (book).length (unread) (verse)) = none) : numErr (book).length ((verse) :: (unread)) = none := by
  exact un_num hE1
theorem vc_decided_by_pre_last_of1 (book : (List (List Str))) (unread : (List Int)) (verse : Int) (size : Int) (hp1 : unread.length ≤ 900) (ho_book : needM book = none) (hl_unread : unread.length ≤ 40000) (hE1 : (unErr (book).length (unread) (verse)) = none) : (mostI (book) (unread) (verse)).length ≤ 1000 := by
  have := most_len book unread verse
  have := needM_len ho_book
  omega
theorem vc_decided_by_ret1 (book : (List (List Str))) (unread : (List Int)) (verse : Int) (size : Int) (hp1 : unread.length ≤ 900) (ho_book : needM book = none) (hl_unread : unread.length ≤ 40000) (hE1 : (unErr (book).length (unread) (verse)) = none) : (chI (mostI book unread verse) size) = (chI (mostI (book) (unread) (verse)) (size)) := by
  rfl
def R_decided_by (K : PySem.W.Frag) (C_Book : Addr) : Rl := ⟨fun vs H r => ∃ (book : (List (List Str))) (unread : (List Int)) (verse : Int) (size : Int), ArgsR H vs [⟨(tBook K C_Book), book⟩, ⟨(tL K tI), unread⟩, ⟨tI, verse⟩, ⟨tI, size⟩] ∧ (unread.length ≤ 900) ∧ r = resE (unErr book.length unread verse) (fun N v => (tP K tI tI).R N v (chI (mostI book unread verse) size)), fun e ⟨book, unread, verse, size, h, h2⟩ => ⟨book, unread, verse, size, h.up e, h2⟩⟩
theorem ok_decided_by (B : Bt mg) {C_Book : Addr} (O_all_shared : Ok P w K mg base 5 "all_shared" ["book", "unread", "verse"] ((R_all_shared K C_Book).sp mg)) (O_last_of : Ok P w K mg base 3 "last_of" ["most", "size"] ((R_last_of K).sp mg)) (O_need_unread : Ok P w K mg base 3 "need_unread" ["book", "unread", "verse"] ((R_need_unread K C_Book).sp mg)) (D : Df K mg "decided_by" s_decided_by ["book", "unread", "verse", "size"]) : Ok P w K mg base 6 "decided_by" ["book", "unread", "verse", "size"] ((R_decided_by K C_Book).sp mg) := by
  refine D.ok sc_decided_by (fun vs H Q E h => ?_) (fun f cdv A outer s H vs Q E hr h => ?_)
  · obtain ⟨r, ⟨book, unread, verse, size, ha, _⟩, _⟩ := h
    exact ha.len
  · obtain ⟨r, ⟨book, unread, verse, size, ha, hp1, rfl⟩, k⟩ := h
    obtain ⟨v1, v2, v3, v4, rfl, f5, f6, f7, f8⟩ := args4 ha
    have o0 := Own.init H
    have ho_book : needM book = none := book_ok f5
    have hl_unread : unread.length ≤ 40000 := len_ofL f6
    obtain rfl : v3 = (.int (verse)) := f7
    obtain rfl : v4 = (.int (size)) := f8
    refine ⟨_, (pss_cons (ps_expr (pe_callO O_need_unread (hr.mono (by omega)) (by rfl) (takes_of rfl rfl rfl rfl) (pa_cons (pv 0) (pa_cons (pv 1) (pa_cons (pv 2) pa_nil)))))
      (pss_one (ps_ret (pe_callO O_last_of (hr.mono (by omega)) (by rfl) (takes_of rfl rfl rfl rfl) (pa_cons (pe_callO O_all_shared (hr.mono (by omega)) (by rfl) (takes_of rfl rfl rfl rfl) (pa_cons (pv 0) (pa_cons (pv 1) (pa_cons (pv 2) pa_nil)))) (pa_cons (pv 3) pa_nil)))))), ?_⟩
    cases hE1 : unErr (book).length (unread) (verse) with
    | some xn1 =>
      exact q_der (xn := xn1) (fs := []) (er_callB (S := (R_need_unread K C_Book)) (Ex.refl _) (ebs_cons (T := (tBook K C_Book)) (Ex.refl _) (ed_of (T := (tBook K C_Book)) (up (Own.uh o0) (up (Own.ug o0) f5)) rfl) (ebs_cons (T := (tL K tI)) (Ex.refl _) (ed_of (T := (tL K tI)) (up (Own.uh o0) (up (Own.ug o0) f6)) rfl) (ebs_cons (T := tI) (Ex.refl _) (ed_i (ev_var rfl)) ebs_nil))) (fun vs G ha => ⟨(book), (unread), (verse), ha, (vc_decided_by_pre_need_unread1 book unread verse size xn1 hp1 ho_book hl_unread hE1), (res_err hE1).symm⟩)) (RaiseX.fwd (Own.e1 o0) (resE_err (vc_decided_by_raise1 book unread verse size xn1 hp1 ho_book hl_unread hE1) k))
    | none =>
      refine q_dv o0 (ep_callB (S := (R_need_unread K C_Book)) (Ex.refl _) (ebs_cons (T := (tBook K C_Book)) (Ex.refl _) (ed_of (T := (tBook K C_Book)) (up (Own.uh o0) (up (Own.ug o0) f5)) rfl) (ebs_cons (T := (tL K tI)) (Ex.refl _) (ed_of (T := (tL K tI)) (up (Own.uh o0) (up (Own.ug o0) f6)) rfl) (ebs_cons (T := tI) (Ex.refl _) (ed_i (ev_var rfl)) ebs_nil))) (fun vs G ha => ⟨(book), (unread), (verse), ha, (vc_decided_by_pre_need_unread2 book unread verse size hp1 ho_book hl_unread hE1), (res_ok hE1).symm⟩)) fun H9 o10 => ?_
      exact s_rb o10 (eb_imp (ed_p (T := (tP K tI tI)) (ep_callB (S := (R_last_of K)) (Ex.refl _) (ebs_cons (T := (tL K tI)) (Ex.refl _) (ed_to (T := (tW tI)) (S := (tL K tI)) (ed_p (T := (tW tI)) (ep_callB (S := (R_all_shared K C_Book)) (Ex.refl _) (ebs_cons (T := (tBook K C_Book)) (Ex.refl _) (ed_of (T := (tBook K C_Book)) (up (Own.uh o10) (up (Own.ug o0) f5)) rfl) (ebs_cons (T := (tL K tI)) (Ex.refl _) (ed_of (T := (tL K tI)) (up (Own.uh o10) (up (Own.ug o0) f6)) rfl) (ebs_cons (T := tI) (Ex.refl _) (ed_i (ev_var rfl)) ebs_nil))) (fun vs G ha => ⟨(book), (unread), (verse), ha, (vc_decided_by_pre_all_shared1 book unread verse size hp1 ho_book hl_unread hE1), (res_ok (vc_decided_by_safe1 book unread verse size hp1 ho_book hl_unread hE1)).symm⟩)) (Ex.refl _) (fun _ _ h => h))) (ebs_cons (T := tI) (Ex.refl _) (ed_i (ev_var rfl)) ebs_nil)) (fun vs G ha => ⟨(mostI (book) (unread) (verse)), (size), ha, (vc_decided_by_pre_last_of1 book unread verse size hp1 ho_book hl_unread hE1), rfl⟩)) (Own.e0 o10) (fun _ _ h => h)) fun N v h => (by rw [(vc_decided_by_ret1 book unread verse size hp1 ho_book hl_unread hE1)]; exact h)) (resE_ok (vc_decided_by_none1 book unread verse size hp1 ho_book hl_unread hE1) k)
abbrev s_mean_decided : Stmt := topS 34
theorem sc_mean_decided : FnScope ["book", "unread", "verse"] ["book", "unread", "verse"] (defScope s_mean_decided) := ⟨rfl, rfl, rfl, by decide +kernel, rfl, by decide +kernel, by decide +kernel⟩
theorem vc_mean_decided_pre_need_unread1 (book : (List (List Str))) (unread : (List Int)) (verse : Int) (xn1 : Str) (hp1 : unread.length ≤ 900) (ho_book : needM book = none) (hl_unread : unread.length ≤ 40000) (hE1 : (unErr (book).length (unread) (verse)) = some xn1) : (unread).length ≤ 900 := by
  exact hp1
theorem vc_mean_decided_raise1 (book : (List (List Str))) (unread : (List Int)) (verse : Int) (xn1 : Str) (hp1 : unread.length ≤ 900) (ho_book : needM book = none) (hl_unread : unread.length ≤ 40000) (hE1 : (unErr (book).length (unread) (verse)) = some xn1) : unErr book.length unread verse = some xn1 := by
  exact hE1
theorem vc_mean_decided_pre_need_unread2 (book : (List (List Str))) (unread : (List Int)) (verse : Int) (hp1 : unread.length ≤ 900) (ho_book : needM book = none) (hl_unread : unread.length ≤ 40000) (hE1 : (unErr (book).length (unread) (verse)) = none) : (unread).length ≤ 900 := by
  exact hp1
theorem vc_mean_decided_none1 (book : (List (List Str))) (unread : (List Int)) (verse : Int) (hp1 : unread.length ≤ 900) (ho_book : needM book = none) (hl_unread : unread.length ≤ 40000) (hE1 : (unErr (book).length (unread) (verse)) = none) : unErr book.length unread verse = none := by
  exact hE1
theorem vc_mean_decided_pre_all_shared1 (book : (List (List Str))) (unread : (List Int)) (verse : Int) (hp1 : unread.length ≤ 900) (ho_book : needM book = none) (hl_unread : unread.length ≤ 40000) (hE1 : (unErr (book).length (unread) (verse)) = none) : (unread).length ≤ 1000 := by
  omega
theorem vc_mean_decided_safe1 (book : (List (List Str))) (unread : (List Int)) (verse : Int) (hp1 : unread.length ≤ 900) (ho_book : needM book = none) (hl_unread : unread.length ≤ 40000) (hE1 : (unErr (book).length (unread) (verse)) = none) : numErr (book).length ((verse) :: (unread)) = none := by
  exact un_num hE1
theorem vc_mean_decided_pre_mean_of1 (book : (List (List Str))) (unread : (List Int)) (verse : Int) (hp1 : unread.length ≤ 900) (ho_book : needM book = none) (hl_unread : unread.length ≤ 40000) (hE1 : (unErr (book).length (unread) (verse)) = none) : (mostI (book) (unread) (verse)).length ≤ 1000 ∧ ∀ x ∈ (mostI (book) (unread) (verse)), 0 ≤ x ∧ x ≤ 8 := by
  have := most_len book unread verse
  have := needM_len ho_book
  exact ⟨by omega, fun x hx => by have h1 := most_mem hx; have h2 := row8 (need8 ho_book) verse.toNat; omega⟩
theorem vc_mean_decided_ret1 (book : (List (List Str))) (unread : (List Int)) (verse : Int) (hp1 : unread.length ≤ 900) (ho_book : needM book = none) (hl_unread : unread.length ≤ 40000) (hE1 : (unErr (book).length (unread) (verse)) = none) : (meanI (mostI book unread verse) (topI (mostI book unread verse))) = (meanI (mostI (book) (unread) (verse)) (topI (mostI (book) (unread) (verse)))) := by
  rfl
def R_mean_decided (K : PySem.W.Frag) (C_Book : Addr) : Rl := ⟨fun vs H r => ∃ (book : (List (List Str))) (unread : (List Int)) (verse : Int), ArgsR H vs [⟨(tBook K C_Book), book⟩, ⟨(tL K tI), unread⟩, ⟨tI, verse⟩] ∧ (unread.length ≤ 900) ∧ r = resE (unErr book.length unread verse) (fun N v => (tP K tI tI).R N v (meanI (mostI book unread verse) (topI (mostI book unread verse)))), fun e ⟨book, unread, verse, h, h2⟩ => ⟨book, unread, verse, h.up e, h2⟩⟩
theorem ok_mean_decided (B : Bt mg) {C_Book : Addr} (O_all_shared : Ok P w K mg base 5 "all_shared" ["book", "unread", "verse"] ((R_all_shared K C_Book).sp mg)) (O_mean_of : Ok P w K mg base 4 "mean_of" ["most"] ((R_mean_of K).sp mg)) (O_need_unread : Ok P w K mg base 3 "need_unread" ["book", "unread", "verse"] ((R_need_unread K C_Book).sp mg)) (D : Df K mg "mean_decided" s_mean_decided ["book", "unread", "verse"]) : Ok P w K mg base 6 "mean_decided" ["book", "unread", "verse"] ((R_mean_decided K C_Book).sp mg) := by
  refine D.ok sc_mean_decided (fun vs H Q E h => ?_) (fun f cdv A outer s H vs Q E hr h => ?_)
  · obtain ⟨r, ⟨book, unread, verse, ha, _⟩, _⟩ := h
    exact ha.len
  · obtain ⟨r, ⟨book, unread, verse, ha, hp1, rfl⟩, k⟩ := h
    obtain ⟨v1, v2, v3, rfl, f4, f5, f6⟩ := args3 ha
    have o0 := Own.init H
    have ho_book : needM book = none := book_ok f4
    have hl_unread : unread.length ≤ 40000 := len_ofL f5
    obtain rfl : v3 = (.int (verse)) := f6
    refine ⟨_, (pss_cons (ps_expr (pe_callO O_need_unread (hr.mono (by omega)) (by rfl) (takes_of rfl rfl rfl rfl) (pa_cons (pv 0) (pa_cons (pv 1) (pa_cons (pv 2) pa_nil)))))
      (pss_one (ps_ret (pe_callO O_mean_of (hr.mono (by omega)) (by rfl) (takes_of rfl rfl rfl rfl) (pa_cons (pe_callO O_all_shared (hr.mono (by omega)) (by rfl) (takes_of rfl rfl rfl rfl) (pa_cons (pv 0) (pa_cons (pv 1) (pa_cons (pv 2) pa_nil)))) pa_nil))))), ?_⟩
    cases hE1 : unErr (book).length (unread) (verse) with
    | some xn1 =>
      exact q_der (xn := xn1) (fs := []) (er_callB (S := (R_need_unread K C_Book)) (Ex.refl _) (ebs_cons (T := (tBook K C_Book)) (Ex.refl _) (ed_of (T := (tBook K C_Book)) (up (Own.uh o0) (up (Own.ug o0) f4)) rfl) (ebs_cons (T := (tL K tI)) (Ex.refl _) (ed_of (T := (tL K tI)) (up (Own.uh o0) (up (Own.ug o0) f5)) rfl) (ebs_cons (T := tI) (Ex.refl _) (ed_i (ev_var rfl)) ebs_nil))) (fun vs G ha => ⟨(book), (unread), (verse), ha, (vc_mean_decided_pre_need_unread1 book unread verse xn1 hp1 ho_book hl_unread hE1), (res_err hE1).symm⟩)) (RaiseX.fwd (Own.e1 o0) (resE_err (vc_mean_decided_raise1 book unread verse xn1 hp1 ho_book hl_unread hE1) k))
    | none =>
      refine q_dv o0 (ep_callB (S := (R_need_unread K C_Book)) (Ex.refl _) (ebs_cons (T := (tBook K C_Book)) (Ex.refl _) (ed_of (T := (tBook K C_Book)) (up (Own.uh o0) (up (Own.ug o0) f4)) rfl) (ebs_cons (T := (tL K tI)) (Ex.refl _) (ed_of (T := (tL K tI)) (up (Own.uh o0) (up (Own.ug o0) f5)) rfl) (ebs_cons (T := tI) (Ex.refl _) (ed_i (ev_var rfl)) ebs_nil))) (fun vs G ha => ⟨(book), (unread), (verse), ha, (vc_mean_decided_pre_need_unread2 book unread verse hp1 ho_book hl_unread hE1), (res_ok hE1).symm⟩)) fun H7 o8 => ?_
      exact s_rb o8 (eb_imp (ed_p (T := (tP K tI tI)) (ep_callB (S := (R_mean_of K)) (Ex.refl _) (ebs_cons (T := (tL K tI)) (Ex.refl _) (ed_to (T := (tW tI)) (S := (tL K tI)) (ed_p (T := (tW tI)) (ep_callB (S := (R_all_shared K C_Book)) (Ex.refl _) (ebs_cons (T := (tBook K C_Book)) (Ex.refl _) (ed_of (T := (tBook K C_Book)) (up (Own.uh o8) (up (Own.ug o0) f4)) rfl) (ebs_cons (T := (tL K tI)) (Ex.refl _) (ed_of (T := (tL K tI)) (up (Own.uh o8) (up (Own.ug o0) f5)) rfl) (ebs_cons (T := tI) (Ex.refl _) (ed_i (ev_var rfl)) ebs_nil))) (fun vs G ha => ⟨(book), (unread), (verse), ha, (vc_mean_decided_pre_all_shared1 book unread verse hp1 ho_book hl_unread hE1), (res_ok (vc_mean_decided_safe1 book unread verse hp1 ho_book hl_unread hE1)).symm⟩)) (Ex.refl _) (fun _ _ h => h))) ebs_nil) (fun vs G ha => ⟨(mostI (book) (unread) (verse)), ha, (vc_mean_decided_pre_mean_of1 book unread verse hp1 ho_book hl_unread hE1), rfl⟩)) (Own.e0 o8) (fun _ _ h => h)) fun N v h => (by rw [(vc_mean_decided_ret1 book unread verse hp1 ho_book hl_unread hE1)]; exact h)) (resE_ok (vc_mean_decided_none1 book unread verse hp1 ho_book hl_unread hE1) k)
end
section
variable {P : Program} {w : World} {K : PySem.W.Frag} {mg : Str → Option Value} {base : Heap}
/-- what others share with a verse -/
def mosO (ls : List (List Str)) (os : List Int) (v : Int) : List Int := (os.filter fun i => !decide (i = v)).map fun i => shI ls v i
theorem mosO_len (ls : List (List Str)) (os : List Int) (v : Int) : (mosO ls os v).length ≤ os.length := by
  unfold mosO
  rw [List.length_map]
  exact List.length_filter_le _ _
theorem mosO_ch (ls : List (List Str)) (os : List Int) (v s : Int) : agI (mosO ls os v) s = (((os.filter fun e => ((!decide (e = v)) && (decide ((shI ls v e) ≥ s)))).map fun e => e).length : Int) := by
  unfold agI mosO
  rw [List.filter_map, List.length_map, List.length_map, List.filter_filter]
  congr 2
  exact List.filter_congr fun x _ => Bool.and_comm _ _
theorem get_row1 {ls : List (List Str)} {v : Int} (h : 0 ≤ v ∧ v < (ls.length : Int)) : getI ls v = row1 ls v.toNat := by
  obtain ⟨i, rfl⟩ := Int.eq_ofNat_of_zero_le h.1
  have hi : i < ls.length := by omega
  rw [getI_at (List.getElem?_eq_getElem hi)]
  show _ = row1 ls i
  unfold row1
  rw [List.getD_eq_getElem?_getD, List.getElem?_eq_getElem hi]
  rfl
theorem mosO_mem {ls : List (List Str)} {os : List Int} {v x : Int} (h : x ∈ mosO ls os v) : 0 ≤ x ∧ x ≤ ((row1 ls v.toNat).length : Int) := by
  obtain ⟨i, _, rfl⟩ := List.mem_map.mp h
  exact sh_le ls v i
theorem most_O {ls : List (List Str)} {ns : List Int} {v : Int} (hv : 0 ≤ v) : mostI ls ns v = mosO ls (lefI ls ns) v := by
  unfold mostI mosO
  rw [siz_eq hv, List.map_map]
  rfl
abbrev s__law_chance : Stmt := topS 50
theorem sc__law_chance : FnScope ["_law_verses", "_law_others", "_law_verse_here", "_law_size", "_law_one"] ["_law_verses", "_law_others", "_law_verse_here", "_law_size"] (defScope s__law_chance) := ⟨rfl, rfl, rfl, by decide +kernel, rfl, by decide +kernel, by decide +kernel⟩
theorem vc__law_chance_pre_share1 (verses : (List (List Str))) (others : (List Int)) (verse_here : Int) (size : Int) (e1 : Int) (hp1 : (verses.length ≤ 1000 ∧ ∀ l ∈ verses, l.length ≤ 1000) ∧ (0 ≤ verse_here ∧ verse_here < verses.length) ∧ ∀ i ∈ others, 0 ≤ i ∧ i < verses.length) (hl_verses : verses.length ≤ 40000) (hl_others : others.length ≤ 40000) (hm1 : e1 ∈ others) (hc11 : (!decide (e1 = verse_here)) = true) : ((verses).length ≤ 1000 ∧ ∀ l ∈ verses, l.length ≤ 1000) ∧ (0 ≤ verse_here ∧ verse_here < (verses).length) ∧ 0 ≤ e1 ∧ e1 < (verses).length := by
  exact ⟨hp1.1, hp1.2.1, hp1.2.2 _ hm1⟩
theorem vc__law_chance_ret1 (verses : (List (List Str))) (others : (List Int)) (verse_here : Int) (size : Int) (hp1 : (verses.length ≤ 1000 ∧ ∀ l ∈ verses, l.length ≤ 1000) ∧ (0 ≤ verse_here ∧ verse_here < verses.length) ∧ ∀ i ∈ others, 0 ≤ i ∧ i < verses.length) (hl_verses : verses.length ≤ 40000) (hl_others : others.length ≤ 40000) : (chI (mosO verses others verse_here) size) = (((1 : Int), (1 : Int) + (((((others).filter fun e1 => ((!decide (e1 = verse_here)) && (decide ((shI verses verse_here e1) ≥ size)))).map fun e1 => e1).length : Int)))) := by
  unfold chI
  rw [mosO_ch]
def R__law_chance (K : PySem.W.Frag) : Rl := ⟨fun vs H r => ∃ (verses : (List (List Str))) (others : (List Int)) (verse_here : Int) (size : Int), ArgsR H vs [⟨(tL K (tL K tX)), verses⟩, ⟨(tL K tI), others⟩, ⟨tI, verse_here⟩, ⟨tI, size⟩] ∧ ((verses.length ≤ 1000 ∧ ∀ l ∈ verses, l.length ≤ 1000) ∧ (0 ≤ verse_here ∧ verse_here < verses.length) ∧ ∀ i ∈ others, 0 ≤ i ∧ i < verses.length) ∧ r = .ok (fun N v => (tP K tI tI).R N v (chI (mosO verses others verse_here) size)), fun e ⟨verses, others, verse_here, size, h, h2⟩ => ⟨verses, others, verse_here, size, h.up e, h2⟩⟩
theorem ok__law_chance (B : Bt mg) (O__law_share : Ok P w K mg base 1 "_law_share" ["_law_verses", "_law_one", "_law_other"] ((R__law_share K).sp mg)) (D : Df K mg "_law_chance" s__law_chance ["_law_verses", "_law_others", "_law_verse_here", "_law_size"]) : Ok P w K mg base 2 "_law_chance" ["_law_verses", "_law_others", "_law_verse_here", "_law_size"] ((R__law_chance K).sp mg) := by
  refine D.ok sc__law_chance (fun vs H Q E h => ?_) (fun f cdv A outer s H vs Q E hr h => ?_)
  · obtain ⟨r, ⟨verses, others, verse_here, size, ha, _⟩, _⟩ := h
    exact ha.len
  · obtain ⟨r, ⟨verses, others, verse_here, size, ha, hp1, rfl⟩, k⟩ := h
    obtain ⟨v1, v2, v3, v4, rfl, f5, f6, f7, f8⟩ := args4 ha
    have o0 := Own.init H
    have hl_verses : verses.length ≤ 40000 := len_ofL f5
    have hl_others : others.length ≤ 40000 := len_ofL f6
    obtain rfl : v3 = (.int (verse_here)) := f7
    obtain rfl : v4 = (.int (size)) := f8
    refine ⟨_, (pss_one (ps_ret (pe_tup (pa_cons pe_int (pa_cons (pe_op (op_addK K) pe_int (pe_callB (call_lenK K) (by rfl) B.len boot_b_len (pa_cons (pe_lc (own := [("_law_one", 4)]) rfl sc__law_chance.nd (pi_listK K (pv 1)) (blkOk_by (N := ["_law_verses", "_law_others", "_law_verse_here", "_law_size", "_law_one"]) (sc := defScope s__law_chance) (by decide +kernel)) (fun _ _ _ _ _ => (pg_name (i := 4) sc__law_chance.nd rfl (.inl rfl))) (fun _ _ _ _ _ => pts_one (PW.pt (pw_and (pt_cmpR (op_neK K (hu65 hr)) (pv 4) (pv 2) (nomark _)) (pw_and1 (pt_cmpR op_ge (pe_callO O__law_share (hr.mono (by omega)) (by rfl) takes0 (pa_cons (pv 0) (pa_cons (pv 2) (pa_cons (pv 4) pa_nil)))) (pv 3) (nomark _)))))) (fun _ _ _ _ _ => (pv 4))) pa_nil))) pa_nil))))), ?_⟩
    exact s_rb o0 (eb_imp (ed_tup2 (K := K) (Own.e0 o0) (ebs_cons (T := tI) (Own.e0 o0) (ed_i ev_c) (ebs_cons (T := tI) (Own.e0 o0) (ed_i (ev_op ev_c (ev_lenB (T := tI) (ed_to (T := (tW tI)) (S := (tL K tI)) (ed_of_n (Own.e0 o0) (en_flt (en_lc (S := tI) (Z := fun B y σ σ2 => ∃ z9, σ2 = (σ.set 4 (some z9)) ∧ tI.R B z9 y) (dr_list (T := tI) (ed_of (T := (tL K tI)) (up (Own.uh o0) (up (Own.ug o0) f6)) rfl) (Ex.refl _) (fun G x y H' e hx σ' Q q => by exact q _ ⟨x, rfl, hx⟩)) (Ex.refl _) (fun e1 : Int => ((!decide (e1 = verse_here)) && (decide ((shI verses verse_here e1) ≥ size)))) (fun e1 : Int => e1) (fun _ _ _ ⟨z9, h0, fz9⟩ => by subst h0; rfl) (fun G10 e1 σ2 H10 eb10 eg10 eh10 hm1 hz10 => by obtain ⟨z9, rfl, fz9⟩ := hz10; obtain rfl : z9 = (.int (e1)) := fz9; exact (et_and (et_test (ev_op (ev_var rfl) (ev_var rfl) rv_neI)) fun hc11 => (et_test (ev_op (ev_p (v := (.int (shI verses verse_here e1))) (ep_imp (ep_callB (S := (R__law_share K)) (Ex.refl _) (ebs_cons (T := (tL K (tL K tX))) (Ex.refl _) (ed_of (T := (tL K (tL K tX))) (up eh10 (up (Own.uh o0) (up (Own.ug o0) f5))) rfl) (ebs_cons (T := tI) (Ex.refl _) (ed_i (ev_var rfl)) (ebs_cons (T := tI) (Ex.refl _) (ed_i (ev_var rfl)) ebs_nil))) (fun vs G ha => ad__law_share ha (vc__law_chance_pre_share1 verses others verse_here size e1 hp1 hl_verses hl_others hm1 hc11))) (fun _ _ h => h))) (ev_var rfl) rv_I0)))) (fun G10 e1 σ2 H10 eb10 eg10 eh10 hm1 hf1 hz10 => by obtain ⟨z9, rfl, fz9⟩ := hz10; obtain rfl : z9 = (.int (e1)) := fz9; exact (ed_i (ev_var rfl))) (fun _ _ _ _ e ⟨z9, h0, fz9⟩ => ⟨z9, h0, up e fz9⟩))))) (Own.e0 o0)) rv_addI)) ebs_nil))) fun N v h => (by rw [(vc__law_chance_ret1 verses others verse_here size hp1 hl_verses hl_others)]; exact h)) k
abbrev s__law_mean : Stmt := topS 51
theorem sc__law_mean : FnScope ["_law_verses", "_law_others", "_law_verse_here", "_law_found", "_law_size", "_law_chance_here"] ["_law_verses", "_law_others", "_law_verse_here"] (defScope s__law_mean) := ⟨rfl, rfl, rfl, by decide +kernel, rfl, by decide +kernel, by decide +kernel⟩
theorem vc__law_mean_ix1 (verses : (List (List Str))) (others : (List Int)) (verse_here : Int) (hp1 : (verses.length ≤ 1000 ∧ ∀ l ∈ verses, l.length ≤ 8) ∧ (0 ≤ verse_here ∧ verse_here < verses.length) ∧ (∀ i ∈ others, 0 ≤ i ∧ i < verses.length) ∧ others.length ≤ 1000) (hl_verses : verses.length ≤ 40000) (hl_others : others.length ≤ 40000) : -((verses).length : Int) ≤ verse_here ∧ verse_here < (verses).length := by
  omega
theorem vc__law_mean_rng1 (verses : (List (List Str))) (others : (List Int)) (verse_here : Int) (hp1 : (verses.length ≤ 1000 ∧ ∀ l ∈ verses, l.length ≤ 8) ∧ (0 ≤ verse_here ∧ verse_here < verses.length) ∧ (∀ i ∈ others, 0 ≤ i ∧ i < verses.length) ∧ others.length ≤ 1000) (hl_verses : verses.length ≤ 40000) (hl_others : others.length ≤ 40000) : -1000000 ≤ ((getI verses verse_here).length : Int) ∧ ((getI verses verse_here).length : Int) ≤ 40000 := by
  have hg := get_row1 hp1.2.1
  have h8 := row8 hp1.1.2 verse_here.toNat
  have hml := mosO_len verses others verse_here
  rw [hg]
  omega
theorem vc__law_mean_inv1i1 (verses : (List (List Str))) (others : (List Int)) (verse_here : Int) (hp1 : (verses.length ≤ 1000 ∧ ∀ l ∈ verses, l.length ≤ 8) ∧ (0 ≤ verse_here ∧ verse_here < verses.length) ∧ (∀ i ∈ others, 0 ≤ i ∧ i < verses.length) ∧ others.length ≤ 1000) (hl_verses : verses.length ≤ 40000) (hl_others : others.length ≤ 40000) : (((0 : Int), (1 : Int))) = (((rngI (((getI verses verse_here).length : Int)))).take 0).foldl (stI (mosO verses others verse_here)) (0, 1) := by
  rfl
theorem vc__law_mean_pre_chance1 (verses : (List (List Str))) (others : (List Int)) (verse_here : Int) (found_1 : (Int × Int)) (ix1 : Nat) (y1 : Int) (hp1 : (verses.length ≤ 1000 ∧ ∀ l ∈ verses, l.length ≤ 8) ∧ (0 ≤ verse_here ∧ verse_here < verses.length) ∧ (∀ i ∈ others, 0 ≤ i ∧ i < verses.length) ∧ others.length ≤ 1000) (hl_verses : verses.length ≤ 40000) (hl_others : others.length ≤ 40000) (hj1_1 : found_1 = (((rngI (((getI verses verse_here).length : Int)))).take ix1).foldl (stI (mosO verses others verse_here)) (0, 1)) (hi1 : (rngI (((getI verses verse_here).length : Int)))[ix1]? = some y1) : ((verses).length ≤ 1000 ∧ ∀ l ∈ (verses), l.length ≤ 1000) ∧ (0 ≤ (verse_here) ∧ (verse_here) < (verses).length) ∧ ∀ i ∈ (others), 0 ≤ i ∧ i < (verses).length := by
  exact ⟨⟨hp1.1.1, fun l hl => by have := hp1.1.2 l hl; omega⟩, hp1.2.1, hp1.2.2.1⟩
theorem vc__law_mean_pre_sum1 (verses : (List (List Str))) (others : (List Int)) (verse_here : Int) (found_1 : (Int × Int)) (ix1 : Nat) (y1 : Int) (hp1 : (verses.length ≤ 1000 ∧ ∀ l ∈ verses, l.length ≤ 8) ∧ (0 ≤ verse_here ∧ verse_here < verses.length) ∧ (∀ i ∈ others, 0 ≤ i ∧ i < verses.length) ∧ others.length ≤ 1000) (hl_verses : verses.length ≤ 40000) (hl_others : others.length ≤ 40000) (hj1_1 : found_1 = (((rngI (((getI verses verse_here).length : Int)))).take ix1).foldl (stI (mosO verses others verse_here)) (0, 1)) (hi1 : (rngI (((getI verses verse_here).length : Int)))[ix1]? = some y1) : PB found_1 ∧ PB ((((chI (mosO (verses) (others) (verse_here)) (y1)).2) - (1 : Int), (chI (mosO (verses) (others) (verse_here)) (y1)).2)) := by
  have hg := get_row1 hp1.2.1
  have h8 := row8 hp1.1.2 verse_here.toNat
  have hml := mosO_len verses others verse_here
  rw [hg] at hi1 hj1_1
  have hix := (List.getElem?_eq_some_iff.mp hi1).1
  rw [rngI_len] at hix
  have hag := ag_le (mosO verses others verse_here) y1
  have e1 : (chI (mosO verses others verse_here) y1).2 - 1 = agI (mosO verses others verse_here) y1 := by show 1 + agI _ _ - 1 = _; omega
  have e2 : (chI (mosO verses others verse_here) y1).2 = 1 + agI (mosO verses others verse_here) y1 := rfl
  rw [e1, e2, fold_mean hj1_1 (by omega)]
  exact ⟨mean_pb (by omega) (by omega), ag_pb (by omega) _⟩
theorem vc__law_mean_inv1s1 (verses : (List (List Str))) (others : (List Int)) (verse_here : Int) (found_1 : (Int × Int)) (ix1 : Nat) (y1 : Int) (found_a1 : (Int × Int)) (hp1 : (verses.length ≤ 1000 ∧ ∀ l ∈ verses, l.length ≤ 8) ∧ (0 ≤ verse_here ∧ verse_here < verses.length) ∧ (∀ i ∈ others, 0 ≤ i ∧ i < verses.length) ∧ others.length ≤ 1000) (hl_verses : verses.length ≤ 40000) (hl_others : others.length ≤ 40000) (hj1_1 : found_1 = (((rngI (((getI verses verse_here).length : Int)))).take ix1).foldl (stI (mosO verses others verse_here)) (0, 1)) (hi1 : (rngI (((getI verses verse_here).length : Int)))[ix1]? = some y1) (ha1 : found_a1 = plusM found_1 ((((chI (mosO (verses) (others) (verse_here)) (y1)).2) - (1 : Int), (chI (mosO (verses) (others) (verse_here)) (y1)).2))) : found_a1 = (((rngI (((getI verses verse_here).length : Int)))).take (ix1 + 1)).foldl (stI (mosO verses others verse_here)) (0, 1) := by
  have hg := get_row1 hp1.2.1
  have h8 := row8 hp1.1.2 verse_here.toNat
  have hml := mosO_len verses others verse_here
  rw [hg] at hi1 hj1_1
  have hix := (List.getElem?_eq_some_iff.mp hi1).1
  rw [rngI_len] at hix
  have hag := ag_le (mosO verses others verse_here) y1
  have e1 : (chI (mosO verses others verse_here) y1).2 - 1 = agI (mosO verses others verse_here) y1 := by show 1 + agI _ _ - 1 = _; omega
  have e2 : (chI (mosO verses others verse_here) y1).2 = 1 + agI (mosO verses others verse_here) y1 := rfl
  rw [hg, ha1, e1, e2, List.take_add_one, hi1, List.foldl_append, ← hj1_1]
  rfl
theorem vc__law_mean_ret1 (verses : (List (List Str))) (others : (List Int)) (verse_here : Int) (found_1 : (Int × Int)) (hp1 : (verses.length ≤ 1000 ∧ ∀ l ∈ verses, l.length ≤ 8) ∧ (0 ≤ verse_here ∧ verse_here < verses.length) ∧ (∀ i ∈ others, 0 ≤ i ∧ i < verses.length) ∧ others.length ≤ 1000) (hl_verses : verses.length ≤ 40000) (hl_others : others.length ≤ 40000) (hj1_1 : found_1 = (((rngI (((getI verses verse_here).length : Int)))).take ((rngI (((getI verses verse_here).length : Int))).length)).foldl (stI (mosO verses others verse_here)) (0, 1)) : (meanI (mosO verses others verse_here) ((row1 verses (verse_here).toNat).length : Int)) = (found_1) := by
  rw [hj1_1, List.take_length, get_row1 hp1.2.1]
  rfl
def R__law_mean (K : PySem.W.Frag) : Rl := ⟨fun vs H r => ∃ (verses : (List (List Str))) (others : (List Int)) (verse_here : Int), ArgsR H vs [⟨(tL K (tL K tX)), verses⟩, ⟨(tL K tI), others⟩, ⟨tI, verse_here⟩] ∧ ((verses.length ≤ 1000 ∧ ∀ l ∈ verses, l.length ≤ 8) ∧ (0 ≤ verse_here ∧ verse_here < verses.length) ∧ (∀ i ∈ others, 0 ≤ i ∧ i < verses.length) ∧ others.length ≤ 1000) ∧ r = .ok (fun N v => (tP K tI tI).R N v (meanI (mosO verses others verse_here) ((row1 verses (verse_here).toNat).length : Int))), fun e ⟨verses, others, verse_here, h, h2⟩ => ⟨verses, others, verse_here, h.up e, h2⟩⟩
theorem ok__law_mean (B : Bt mg) (O__law_chance : Ok P w K mg base 2 "_law_chance" ["_law_verses", "_law_others", "_law_verse_here", "_law_size"] ((R__law_chance K).sp mg)) (O__law_sum : Ok P w K mg base 3 "_law_sum" ["_law_one", "_law_other"] ((R__law_sum K).sp mg)) (D : Df K mg "_law_mean" s__law_mean ["_law_verses", "_law_others", "_law_verse_here"]) : Ok P w K mg base 4 "_law_mean" ["_law_verses", "_law_others", "_law_verse_here"] ((R__law_mean K).sp mg) := by
  refine D.ok sc__law_mean (fun vs H Q E h => ?_) (fun f cdv A outer s H vs Q E hr h => ?_)
  · obtain ⟨r, ⟨verses, others, verse_here, ha, _⟩, _⟩ := h
    exact ha.len
  · obtain ⟨r, ⟨verses, others, verse_here, ha, hp1, rfl⟩, k⟩ := h
    obtain ⟨v1, v2, v3, rfl, f4, f5, f6⟩ := args3 ha
    have o0 := Own.init H
    have hl_verses : verses.length ≤ 40000 := len_ofL f4
    have hl_others : others.length ≤ 40000 := len_ofL f5
    obtain rfl : v3 = (.int (verse_here)) := f6
    refine ⟨_, (pss_cons (ps_set (i := 3) sc__law_mean.nd rfl (.inl rfl) (pe_tup (pa_cons pe_int (pa_cons pe_int pa_nil))))
      (pss_cons (ps_for (passes_of rfl) rfl (pi_range1 (by rfl) B.range (pa_cons (pe_callB (call_lenK K) (by rfl) B.len boot_b_len (pa_cons (pe_ix (ix_seqK K) (pv 0) (pv 2) (fun _ _ => rfl)) pa_nil)) pa_nil)) (pg_name (i := 4) sc__law_mean.nd rfl (.inl rfl))
        (pss_cons (ps_set (i := 5) sc__law_mean.nd rfl (.inl rfl) (pe_callO O__law_chance (hr.mono (by omega)) (by rfl) (takes_of rfl rfl rfl rfl) (pa_cons (pv 0) (pa_cons (pv 1) (pa_cons (pv 2) (pa_cons (pv 4) pa_nil))))))
        (pss_one (ps_set (i := 3) sc__law_mean.nd rfl (.inl rfl) (pe_callO O__law_sum (hr.mono (by omega)) (by rfl) (takes_of rfl rfl rfl rfl) (pa_cons (pv 3) (pa_cons (pe_tup (pa_cons (pe_op op_sub (pe_ix (ix_seqK K) (pv 5) pe_int (fun _ _ => rfl)) pe_int) (pa_cons (pe_ix (ix_seqK K) (pv 5) pe_int (fun _ _ => rfl)) pa_nil))) pa_nil)))))))
      (pss_one (ps_ret (pv 3))))), ?_⟩
    refine q_b (i := 3) o0 (ed_tup2 (K := K) (Own.e0 o0) (ebs_cons (T := tI) (Own.e0 o0) (ed_i ev_c) (ebs_cons (T := tI) (Own.e0 o0) (ed_i ev_c) ebs_nil))) fun v7 M8 H9 eM10 o11 f12 => ?_
    refine q_fo (Z := fun B y σ σ2 => ∃ v, σ2 = σ.set 4 (some v) ∧ tI.R B v y) o11 (dr_rng (n := ((getI verses verse_here).length : Int)) (ev_lenB (T := tX) (ed_ixG (ed_of (T := (tL K (tL K tX))) (up (Own.uu o11 eM10) (up (Own.ug o0) f4)) rfl) (ev_var rfl) (vc__law_mean_ix1 verses others verse_here hp1 hl_verses hl_others) (Own.uh o11)) (Own.uh o11)) (vc__law_mean_rng1 verses others verse_here hp1 hl_verses hl_others) fun _ y _ _ _ q => q _ ⟨_, rfl, rfl⟩) (fun Mx ix σ' H' => ∃ (M13 : Hp) (g16 : Option V) (g17 : Option V) (v18 : V) (found_1 : (Int × Int)), (σ' = [some v1, some v2, some (.int (verse_here)), some v18, g16, g17]) ∧ (Ex Mx M13) ∧ (Own (M13 :: H :: []) H') ∧ ((tP K tI tI).R M13 v18 found_1) ∧ (found_1 = (((rngI (((getI verses verse_here).length : Int)))).take ix).foldl (stI (mosO verses others verse_here)) (0, 1))) (fun M1_1 H1 eM1_1 o1 => ?_) (fun M1_1 ix σ' H' eM1_1 ⟨M13, g16, g17, v18, found_1, _, eM15, o14, _, _⟩ => ?_) ?_ ?_
    · exact ⟨M1_1, _, _, _, (((0 : Int), (1 : Int))), rfl, Ex.refl _, o1, (up eM1_1 f12), (vc__law_mean_inv1i1 verses others verse_here hp1 hl_verses hl_others)⟩
    · exact (eM15.trans (Own.e0 o14))
    · rintro M1_1 ix1 y1 σ' H' H'' σ2 eM1_1 hi1 ⟨M13, g16, g17, v18, found_1, rfl, eM15, o14, f19, hj1_1⟩ eH20 ⟨z22, rfl, f23⟩
      have o21 := Own.mono eH20 o14
      obtain rfl : z22 = (.int (y1)) := f23
      refine q_b (i := 5) o21 (ed_p (T := (tP K tI tI)) (ep_callB (S := (R__law_chance K)) (Ex.refl _) (ebs_cons (T := (tL K (tL K tX))) (Ex.refl _) (ed_of (T := (tL K (tL K tX))) (up (Own.uh o21) (up (Own.uu o21 (Ex.trans eM10 (Ex.trans eM1_1 eM15))) (up (Own.ug o0) f4))) rfl) (ebs_cons (T := (tL K tI)) (Ex.refl _) (ed_of (T := (tL K tI)) (up (Own.uh o21) (up (Own.uu o21 (Ex.trans eM10 (Ex.trans eM1_1 eM15))) (up (Own.ug o0) f5))) rfl) (ebs_cons (T := tI) (Ex.refl _) (ed_i (ev_var rfl)) (ebs_cons (T := tI) (Ex.refl _) (ed_i (ev_var rfl)) ebs_nil)))) (fun vs G ha => ⟨(verses), (others), (verse_here), (y1), ha, (vc__law_mean_pre_chance1 verses others verse_here found_1 ix1 y1 hp1 hl_verses hl_others hj1_1 hi1), rfl⟩)) (Own.e0 o21) (fun _ _ h => h)) fun v24 M25 H26 eM27 o28 f29 => ?_
      refine s_b (i := 3) o28 (ed_p (T := (tP K tI tI)) (ep_callB (S := (R__law_sum K)) (Ex.refl _) (ebs_cons (T := (tP K tI tI)) (Ex.refl _) (ed_of (T := (tP K tI tI)) (up (Own.e0 o28) (up eM27 f19)) rfl) (ebs_cons (T := (tP K tI tI)) (Ex.refl _) (ed_tup2 (K := K) (Ex.refl _) (ebs_cons (T := tI) (Ex.refl _) (ed_i (ev_op (ev_i (ed_2b (ed_of (T := (tP K tI tI)) f29 rfl) (Own.e0 o28))) ev_c rv_I0)) (ebs_cons (T := tI) (Ex.refl _) (ed_i (ev_i (ed_2b (ed_of (T := (tP K tI tI)) f29 rfl) (Own.e0 o28)))) ebs_nil))) ebs_nil)) (fun vs G ha => ad__law_sum ha (vc__law_mean_pre_sum1 verses others verse_here found_1 ix1 y1 hp1 hl_verses hl_others hj1_1 hi1))) (Own.e0 o28) (cv_part)) fun v30 M31 H32 eM33 o34 f35 => ?_
      obtain ⟨found_a1, ha1, f35⟩ : ∃ z : (Int × Int), z = (plusM found_1 ((((chI (mosO (verses) (others) (verse_here)) (y1)).2) - (1 : Int), (chI (mosO (verses) (others) (verse_here)) (y1)).2))) ∧ (tP K tI tI).R M31 v30 z := ⟨_, rfl, f35⟩
      exact ⟨M31, _, _, _, (found_a1), rfl, (Ex.trans eM15 (Ex.trans eM27 eM33)), o34, f35, (vc__law_mean_inv1s1 verses others verse_here found_1 ix1 y1 found_a1 hp1 hl_verses hl_others hj1_1 hi1 ha1)⟩
    · rintro M1_1 σ' H' eM1_1 ⟨M13, g16, g17, v18, found_1, rfl, eM15, o14, f19, hj1_1⟩
      exact s_rb o14 (eb_imp (ed_of (T := (tP K tI tI)) f19 rfl) fun N v h => (by rw [(vc__law_mean_ret1 verses others verse_here found_1 hp1 hl_verses hl_others hj1_1)]; exact h)) k
def m__law_once (many' : Int) (unread_here : (List Int)) : (List Int) := ((rngI many').filter fun e1 => decide (e1 ∈ unread_here)).map fun e1 => e1
abbrev s__law_once : Stmt := topS 52
theorem sc__law_once : FnScope ["_law_many", "_law_unread_here", "_law_verse_here"] ["_law_many", "_law_unread_here"] (defScope s__law_once) := ⟨rfl, rfl, rfl, by decide +kernel, rfl, by decide +kernel, by decide +kernel⟩
theorem vc__law_once_rng1 (many' : Int) (unread_here : (List Int)) (hp1 : 0 ≤ many' ∧ many' ≤ 1000) (hl_unread_here : unread_here.length ≤ 40000) : -1000000 ≤ many' ∧ many' ≤ 40000 := by
  omega
theorem vc__law_once_ret1 (many' : Int) (unread_here : (List Int)) (hp1 : 0 ≤ many' ∧ many' ≤ 1000) (hl_unread_here : unread_here.length ≤ 40000) : (m__law_once many' unread_here) = (((rngI many').filter fun e1 => decide (e1 ∈ unread_here)).map fun e1 => e1) := by
  subst_vars
  unfold m__law_once
  first | rfl | simp only [*, if_true, if_false, Bool.false_eq_true] | simp_all
def R__law_once (K : PySem.W.Frag) : Rl := ⟨fun vs H r => ∃ (many' : Int) (unread_here : (List Int)), ArgsR H vs [⟨tI, many'⟩, ⟨(tL K tI), unread_here⟩] ∧ (0 ≤ many' ∧ many' ≤ 1000) ∧ r = .ok (fun N v => (tW tI).R N v (m__law_once many' unread_here)), fun e ⟨many', unread_here, h, h2⟩ => ⟨many', unread_here, h.up e, h2⟩⟩
theorem ok__law_once (B : Bt mg)  (D : Df K mg "_law_once" s__law_once ["_law_many", "_law_unread_here"]) : Ok P w K mg base 1 "_law_once" ["_law_many", "_law_unread_here"] ((R__law_once K).sp mg) := by
  refine D.ok sc__law_once (fun vs H Q E h => ?_) (fun f cdv A outer s H vs Q E hr h => ?_)
  · obtain ⟨r, ⟨many', unread_here, ha, _⟩, _⟩ := h
    exact ha.len
  · obtain ⟨r, ⟨many', unread_here, ha, hp1, rfl⟩, k⟩ := h
    obtain ⟨v1, v2, rfl, f3, f4⟩ := args2 ha
    have o0 := Own.init H
    obtain rfl : v1 = (.int (many')) := f3
    have hl_unread_here : unread_here.length ≤ 40000 := len_ofL f4
    refine ⟨_, (pss_one (ps_ret (pe_lc (own := [("_law_verse_here", 2)]) rfl sc__law_once.nd (pi_range1 (by rfl) B.range (pa_cons (pv 0) pa_nil)) (blkOk_by (N := ["_law_many", "_law_unread_here", "_law_verse_here"]) (sc := defScope s__law_once) (by decide +kernel)) (fun _ _ _ _ _ => (pg_name (i := 2) sc__law_once.nd rfl (.inl rfl))) (fun _ _ _ _ _ => pts_one (pt_cmpR (op_inK K (hu65 hr)) (pv 2) (pv 1) (by rfl))) (fun _ _ _ _ _ => (pv 2))))), ?_⟩
    exact s_rb o0 (eb_imp (ed_of_n (Own.e0 o0) (en_flt (en_lc (S := tI) (Z := fun B y σ σ2 => ∃ v, σ2 = σ.set 2 (some v) ∧ tI.R B v y) (dr_rng (n := many') (ev_var rfl) (vc__law_once_rng1 many' unread_here hp1 hl_unread_here) fun _ y _ _ _ q => q _ ⟨_, rfl, rfl⟩) (Ex.refl _) (fun e1 : Int => decide (e1 ∈ unread_here)) (fun e1 : Int => e1) (fun _ _ _ ⟨v, h0, fv⟩ => by subst h0; rfl) (fun G5 e1 σ2 H5 eb5 eg5 eh5 hm1 hz5 => by obtain ⟨v, rfl, fv⟩ := hz5; obtain rfl : v = (.int (e1)) := fv; exact (et_test (ev_inB (T := tI) (ed_i (ev_var rfl)) (ed_of (T := (tL K tI)) (up eh5 (up (Own.uh o0) (up (Own.ug o0) f4))) rfl) (Ex.refl _)))) (fun G5 e1 σ2 H5 eb5 eg5 eh5 hm1 hf1 hz5 => by obtain ⟨v, rfl, fv⟩ := hz5; obtain rfl : v = (.int (e1)) := fv; exact (ed_i (ev_var rfl))) (fun _ _ _ _ e ⟨v, h0, fv⟩ => ⟨v, h0, up e fv⟩)))) fun N v h => (by rw [(vc__law_once_ret1 many' unread_here hp1 hl_unread_here)]; exact h)) k
theorem once_is {ls : List (List Str)} {ns : List Int} : m__law_once (ls.length : Int) ns = lefI ls ns := by
  unfold m__law_once lefI
  exact List.map_id'' (fun _ => rfl) _
theorem lef_mem {ls : List (List Str)} {ns : List Int} {i : Int} (h : i ∈ lefI ls ns) : 0 ≤ i ∧ i < (ls.length : Int) := rngI_mem.mp (List.mem_filter.mp h).1
theorem lef_len (ls : List (List Str)) (ns : List Int) : (lefI ls ns).length ≤ ls.length := by
  refine Nat.le_trans (List.length_filter_le _ _) ?_
  rw [rngI_len]
  omega
/-- the law's mean is the program's -/
theorem mean_same {most : List Int} {n : Int} (h0 : ∀ x ∈ most, 0 ≤ x) (hn : ∀ x ∈ most, x < n) (hp : 0 ≤ n) : meanI most n = meanI most (topI most) := mean_more (top_0 h0) (top_le hp hn) fun _ hx => top_ge hx
theorem sh_lt {n : Nat} {ls : List (List Str)} (h : GB n ls) {v i : Int} (hv : 0 ≤ v ∧ v < (ls.length : Int)) (hi : 0 ≤ i ∧ i < (ls.length : Int)) (hne : i ≠ v) : shI ls v i < ((row1 ls v.toNat).length : Int) := by
  have := (com_lt (apart_row h (i := v.toNat) (j := i.toNat) (by omega) (by omega) (by omega))).1
  unfold shI
  omega
theorem mosO_lt {n : Nat} {ls : List (List Str)} (h : GB n ls) {v : Int} {os : List Int} (hv : 0 ≤ v ∧ v < (ls.length : Int)) (ho : ∀ i ∈ os, 0 ≤ i ∧ i < (ls.length : Int)) : ∀ x ∈ mosO ls os v, x < ((row1 ls v.toNat).length : Int) := fun x hx => by
  obtain ⟨i, hi, rfl⟩ := List.mem_map.mp hx
  obtain ⟨h1, h2⟩ := List.mem_filter.mp hi
  exact sh_lt h hv (ho i h1) (by simpa using h2)
end
section
variable {P : Program} {w : World} {K : PySem.W.Frag} {mg : Str → Option Value} {base : Heap}
abbrev s_law : Stmt := topS 53
theorem sc_law : FnScope ["_law_script", "_law_numbers_here", "_law_verses", "_law_book_here", "_law_rows", "_law_k", "_law_unread_here", "_law_verse_here", "_law_others", "_law_handed", "_law_size", "_law_due"] ["_law_script"] (defScope s_law) := ⟨rfl, rfl, rfl, by decide +kernel, rfl, by decide +kernel, by decide +kernel⟩
theorem vc_law_pre_numbers1 (script : (List Int)) (hn0 : script.length ≤ 63) : 0 ≤ (370 : Int) ∧ (370 : Int) ≤ 5000 := by
  decide
theorem vc_law_ix1 (script : (List Int)) (numbers_here_r1 : (List Int)) (hn0 : script.length ≤ 63) (hr1 : Nums ((370 : Int)).toNat numbers_here_r1) : -((numbers_here_r1).length : Int) ≤ (0 : Int) ∧ (0 : Int) < (numbers_here_r1).length := by
  wtm_at "vc"
theorem vc_law_ix2 (script : (List Int)) (numbers_here_r1 : (List Int)) (hn0 : script.length ≤ 63) (hr1 : Nums ((370 : Int)).toNat numbers_here_r1) : -((([(6 : Int), (14 : Int), (40 : Int)] : List Int)).length : Int) ≤ (getI numbers_here_r1 (0 : Int)) % (3 : Int) ∧ (getI numbers_here_r1 (0 : Int)) % (3 : Int) < (([(6 : Int), (14 : Int), (40 : Int)] : List Int)).length := by
  wtm_at "vc"
theorem vc_law_pre_book1 (script : (List Int)) (numbers_here_r1 : (List Int)) (hn0 : script.length ≤ 63) (hr1 : Nums ((370 : Int)).toNat numbers_here_r1) : (∀ x ∈ cutI numbers_here_r1 (some (5 : Int)) none, (0 : Int) ≤ x ∧ x < 9967) ∧ 9 + 6 * (getI (([(6 : Int), (14 : Int), (40 : Int)] : List Int)) ((getI numbers_here_r1 (0 : Int)) % (3 : Int))) ≤ (cutI numbers_here_r1 (some (5 : Int)) none).length ∧ 1 ≤ getI (([(6 : Int), (14 : Int), (40 : Int)] : List Int)) ((getI numbers_here_r1 (0 : Int)) % (3 : Int)) ∧ getI (([(6 : Int), (14 : Int), (40 : Int)] : List Int)) ((getI numbers_here_r1 (0 : Int)) % (3 : Int)) ≤ 40 := by
  first
  | exact book_pre 40 (by wtm_at "asm") (get3_rng (by decide) (by decide) (by decide)) (by decide) (by decide) (by decide)
  | exact book_pre 30 (by wtm_at "asm") (get3_rng (by decide) (by decide) (by decide)) (by decide) (by decide) (by decide)
  | exact book_pre 20 (by wtm_at "asm") (get3_rng (by decide) (by decide) (by decide)) (by decide) (by decide) (by decide)
  | exact book_pre 14 (by wtm_at "asm") (get3_rng (by decide) (by decide) (by decide)) (by decide) (by decide) (by decide)
  | exact book_pre 14 (by wtm_at "asm") (by decide) (by decide) (by decide) (by decide)
theorem vc_law_pre_copy1 (script : (List Int)) (numbers_here_r1 : (List Int)) (verses_r2 : (List (List Str))) (hn0 : script.length ≤ 63) (hr1 : Nums ((370 : Int)).toNat numbers_here_r1) (hr2 : (GB (getI (([(6 : Int), (14 : Int), (40 : Int)] : List Int)) ((getI numbers_here_r1 (0 : Int)) % (3 : Int))).toNat verses_r2 ∧ ∀ l ∈ verses_r2, l.length ≤ 1000)) : (verses_r2).length ≤ 1000 ∧ ∀ l ∈ verses_r2, l.length ≤ 1000 := by
  first
  | exact (book_lens (by wtm_at "asm") (by first | exact get3_le (by decide) (by decide) (by decide) | decide)).2
  | wtm_at "vc"
theorem vc_law_pre_Book1 (script : (List Int)) (numbers_here_r1 : (List Int)) (verses_r2 : (List (List Str))) (hn0 : script.length ≤ 63) (hr1 : Nums ((370 : Int)).toNat numbers_here_r1) (hr2 : (GB (getI (([(6 : Int), (14 : Int), (40 : Int)] : List Int)) ((getI numbers_here_r1 (0 : Int)) % (3 : Int))).toNat verses_r2 ∧ ∀ l ∈ verses_r2, l.length ≤ 1000)) : needM (verses_r2) = none ∧ (verses_r2).length ≤ 1000 ∧ ∀ l ∈ verses_r2, l.length ≤ 1000 := by
  exact book_lens (by wtm_at "asm") (by first | exact get3_le (by decide) (by decide) (by decide) | decide)
theorem vc_law_pre_unread1 (script : (List Int)) (numbers_here_r1 : (List Int)) (verses_r2 : (List (List Str))) (hn0 : script.length ≤ 63) (hr1 : Nums ((370 : Int)).toNat numbers_here_r1) (hr2 : (GB (getI (([(6 : Int), (14 : Int), (40 : Int)] : List Int)) ((getI numbers_here_r1 (0 : Int)) % (3 : Int))).toNat verses_r2 ∧ ∀ l ∈ verses_r2, l.length ≤ 1000)) : (∀ x ∈ cutI numbers_here_r1 (some (265 : Int)) none, (0 : Int) ≤ x ∧ x < 9967) ∧ 0 ≤ ((verses_r2).length : Int) ∧ 1 + ((verses_r2).length : Int) ≤ (cutI numbers_here_r1 (some (265 : Int)) none).length ∧ ((verses_r2).length : Int) ≤ 1000 := by
  first
  | exact unrd_pre 40 (by wtm_at "asm") (by wtm_at "asm") (by first | exact get3_le (by decide) (by decide) (by decide) | decide) (by decide) (by decide) (by decide)
  | exact unrd_pre 30 (by wtm_at "asm") (by wtm_at "asm") (by first | exact get3_le (by decide) (by decide) (by decide) | decide) (by decide) (by decide) (by decide)
  | exact unrd_pre 14 (by wtm_at "asm") (by wtm_at "asm") (by first | exact get3_le (by decide) (by decide) (by decide) | decide) (by decide) (by decide) (by decide)
theorem vc_law_pre_unread2 (script : (List Int)) (numbers_here_r1 : (List Int)) (verses_r2 : (List (List Str))) (hn0 : script.length ≤ 63) (hr1 : Nums ((370 : Int)).toNat numbers_here_r1) (hr2 : (GB (getI (([(6 : Int), (14 : Int), (40 : Int)] : List Int)) ((getI numbers_here_r1 (0 : Int)) % (3 : Int))).toNat verses_r2 ∧ ∀ l ∈ verses_r2, l.length ≤ 1000)) : (∀ x ∈ cutI numbers_here_r1 (some (310 : Int)) none, (0 : Int) ≤ x ∧ x < 9967) ∧ 0 ≤ ((verses_r2).length : Int) ∧ 1 + ((verses_r2).length : Int) ≤ (cutI numbers_here_r1 (some (310 : Int)) none).length ∧ ((verses_r2).length : Int) ≤ 1000 := by
  first
  | exact unrd_pre 40 (by wtm_at "asm") (by wtm_at "asm") (by first | exact get3_le (by decide) (by decide) (by decide) | decide) (by decide) (by decide) (by decide)
  | exact unrd_pre 30 (by wtm_at "asm") (by wtm_at "asm") (by first | exact get3_le (by decide) (by decide) (by decide) | decide) (by decide) (by decide) (by decide)
  | exact unrd_pre 14 (by wtm_at "asm") (by wtm_at "asm") (by first | exact get3_le (by decide) (by decide) (by decide) | decide) (by decide) (by decide) (by decide)
theorem vc_law_rng1 (script : (List Int)) (numbers_here_r1 : (List Int)) (verses_r2 : (List (List Str))) (rows_r3 : (List (List Int))) (hn0 : script.length ≤ 63) (hr1 : Nums ((370 : Int)).toNat numbers_here_r1) (hr2 : (GB (getI (([(6 : Int), (14 : Int), (40 : Int)] : List Int)) ((getI numbers_here_r1 (0 : Int)) % (3 : Int))).toNat verses_r2 ∧ ∀ l ∈ verses_r2, l.length ≤ 1000)) (hr3 : (∃ (x21 : (List Int)) (x22 : (List Int)), rows_r3 = [x21, x22] ∧ UnI (((verses_r2).length : Int)).toNat x21 ∧ UnI (((verses_r2).length : Int)).toNat x22)) : -1000000 ≤ (4 : Int) ∧ (4 : Int) ≤ 40000 := by
  omega
theorem vc_law_ix3 (script : (List Int)) (numbers_here_r1 : (List Int)) (verses_r2 : (List (List Str))) (rows_r3 : (List (List Int))) (ix1 : Nat) (y1 : Int) (hn0 : script.length ≤ 63) (hr1 : Nums ((370 : Int)).toNat numbers_here_r1) (hr2 : (GB (getI (([(6 : Int), (14 : Int), (40 : Int)] : List Int)) ((getI numbers_here_r1 (0 : Int)) % (3 : Int))).toNat verses_r2 ∧ ∀ l ∈ verses_r2, l.length ≤ 1000)) (hr3 : (∃ (x21 : (List Int)) (x22 : (List Int)), rows_r3 = [x21, x22] ∧ UnI (((verses_r2).length : Int)).toNat x21 ∧ UnI (((verses_r2).length : Int)).toNat x22)) (hi1 : (rngI (4 : Int))[ix1]? = some y1) : -((rows_r3).length : Int) ≤ y1 % (2 : Int) ∧ y1 % (2 : Int) < (rows_r3).length := by
  obtain ⟨x21, x22, e3, u1, u2⟩ := hr3
  rw [e3]
  simp only [List.length_cons, List.length_nil]
  omega
theorem vc_law_ix4 (script : (List Int)) (numbers_here_r1 : (List Int)) (verses_r2 : (List (List Str))) (rows_r3 : (List (List Int))) (ix1 : Nat) (y1 : Int) (hn0 : script.length ≤ 63) (hr1 : Nums ((370 : Int)).toNat numbers_here_r1) (hr2 : (GB (getI (([(6 : Int), (14 : Int), (40 : Int)] : List Int)) ((getI numbers_here_r1 (0 : Int)) % (3 : Int))).toNat verses_r2 ∧ ∀ l ∈ verses_r2, l.length ≤ 1000)) (hr3 : (∃ (x21 : (List Int)) (x22 : (List Int)), rows_r3 = [x21, x22] ∧ UnI (((verses_r2).length : Int)).toNat x21 ∧ UnI (((verses_r2).length : Int)).toNat x22)) (hi1 : (rngI (4 : Int))[ix1]? = some y1) (c1 : (!decide ((getI rows_r3 (y1 % (2 : Int))) = (([] : List Int)))) = true) : -((numbers_here_r1).length : Int) ≤ (1 : Int) + y1 ∧ (1 : Int) + y1 < (numbers_here_r1).length := by
  wtm_at "vc"
theorem vc_law_mod1 (script : (List Int)) (numbers_here_r1 : (List Int)) (verses_r2 : (List (List Str))) (rows_r3 : (List (List Int))) (ix1 : Nat) (y1 : Int) (hn0 : script.length ≤ 63) (hr1 : Nums ((370 : Int)).toNat numbers_here_r1) (hr2 : (GB (getI (([(6 : Int), (14 : Int), (40 : Int)] : List Int)) ((getI numbers_here_r1 (0 : Int)) % (3 : Int))).toNat verses_r2 ∧ ∀ l ∈ verses_r2, l.length ≤ 1000)) (hr3 : (∃ (x21 : (List Int)) (x22 : (List Int)), rows_r3 = [x21, x22] ∧ UnI (((verses_r2).length : Int)).toNat x21 ∧ UnI (((verses_r2).length : Int)).toNat x22)) (hi1 : (rngI (4 : Int))[ix1]? = some y1) (c1 : (!decide ((getI rows_r3 (y1 % (2 : Int))) = (([] : List Int)))) = true) : (0 : Int) < ((getI rows_r3 (y1 % (2 : Int))).length : Int) := by
  have hb := book_lens hr2 (by exact get3_le (by decide) (by decide) (by decide))
  have hl40 : verses_r2.length ≤ 40 := Nat.le_trans hr2.1.len (get3_le (by decide) (by decide) (by decide))
  obtain ⟨x21, x22, e3, u1, u2⟩ := hr3
  have hu1 := UnI.ok (n := verses_r2.length) u1
  have hu2 := UnI.ok (n := verses_r2.length) u2
  have hU : okN verses_r2.length (getI rows_r3 (y1 % 2)) = true ∧ (getI rows_r3 (y1 % 2)).length ≤ 900 := by
    have hy : y1 % 2 = 0 ∨ y1 % 2 = 1 := by omega
    rcases hy with e | e <;> rw [e, e3]
    · exact ⟨hu1.1, by show x21.length ≤ 900; omega⟩
    · exact ⟨hu2.1, by show x22.length ≤ 900; omega⟩
  generalize getI rows_r3 (y1 % 2) = un at *
  have hne : un ≠ [] := by simpa using c1
  have hpos : (0 : Int) < (un.length : Int) := by have := List.length_pos_iff.mpr hne; omega
  exact hpos
theorem vc_law_ix5 (script : (List Int)) (numbers_here_r1 : (List Int)) (verses_r2 : (List (List Str))) (rows_r3 : (List (List Int))) (ix1 : Nat) (y1 : Int) (hn0 : script.length ≤ 63) (hr1 : Nums ((370 : Int)).toNat numbers_here_r1) (hr2 : (GB (getI (([(6 : Int), (14 : Int), (40 : Int)] : List Int)) ((getI numbers_here_r1 (0 : Int)) % (3 : Int))).toNat verses_r2 ∧ ∀ l ∈ verses_r2, l.length ≤ 1000)) (hr3 : (∃ (x21 : (List Int)) (x22 : (List Int)), rows_r3 = [x21, x22] ∧ UnI (((verses_r2).length : Int)).toNat x21 ∧ UnI (((verses_r2).length : Int)).toNat x22)) (hi1 : (rngI (4 : Int))[ix1]? = some y1) (c1 : (!decide ((getI rows_r3 (y1 % (2 : Int))) = (([] : List Int)))) = true) : -((getI rows_r3 (y1 % (2 : Int))).length : Int) ≤ (getI numbers_here_r1 ((1 : Int) + y1)) % (((getI rows_r3 (y1 % (2 : Int))).length : Int)) ∧ (getI numbers_here_r1 ((1 : Int) + y1)) % (((getI rows_r3 (y1 % (2 : Int))).length : Int)) < (getI rows_r3 (y1 % (2 : Int))).length := by
  have hb := book_lens hr2 (by exact get3_le (by decide) (by decide) (by decide))
  have hl40 : verses_r2.length ≤ 40 := Nat.le_trans hr2.1.len (get3_le (by decide) (by decide) (by decide))
  obtain ⟨x21, x22, e3, u1, u2⟩ := hr3
  have hu1 := UnI.ok (n := verses_r2.length) u1
  have hu2 := UnI.ok (n := verses_r2.length) u2
  have hU : okN verses_r2.length (getI rows_r3 (y1 % 2)) = true ∧ (getI rows_r3 (y1 % 2)).length ≤ 900 := by
    have hy : y1 % 2 = 0 ∨ y1 % 2 = 1 := by omega
    rcases hy with e | e <;> rw [e, e3]
    · exact ⟨hu1.1, by show x21.length ≤ 900; omega⟩
    · exact ⟨hu2.1, by show x22.length ≤ 900; omega⟩
  generalize getI rows_r3 (y1 % 2) = un at *
  have hne : un ≠ [] := by simpa using c1
  have hpos : (0 : Int) < (un.length : Int) := by have := List.length_pos_iff.mpr hne; omega
  exact ⟨by have := Int.emod_nonneg (getI numbers_here_r1 (1 + y1)) (show (un.length : Int) ≠ 0 by omega); omega, Int.emod_lt_of_pos _ hpos⟩
theorem vc_law_pre_once1 (script : (List Int)) (numbers_here_r1 : (List Int)) (verses_r2 : (List (List Str))) (rows_r3 : (List (List Int))) (ix1 : Nat) (y1 : Int) (verse_here_a1 : Int) (hn0 : script.length ≤ 63) (hr1 : Nums ((370 : Int)).toNat numbers_here_r1) (hr2 : (GB (getI (([(6 : Int), (14 : Int), (40 : Int)] : List Int)) ((getI numbers_here_r1 (0 : Int)) % (3 : Int))).toNat verses_r2 ∧ ∀ l ∈ verses_r2, l.length ≤ 1000)) (hr3 : (∃ (x21 : (List Int)) (x22 : (List Int)), rows_r3 = [x21, x22] ∧ UnI (((verses_r2).length : Int)).toNat x21 ∧ UnI (((verses_r2).length : Int)).toNat x22)) (hi1 : (rngI (4 : Int))[ix1]? = some y1) (c1 : (!decide ((getI rows_r3 (y1 % (2 : Int))) = (([] : List Int)))) = true) (ha1 : verse_here_a1 = getI (getI rows_r3 (y1 % (2 : Int))) ((getI numbers_here_r1 ((1 : Int) + y1)) % (((getI rows_r3 (y1 % (2 : Int))).length : Int)))) : 0 ≤ (((verses_r2).length : Int)) ∧ (((verses_r2).length : Int)) ≤ 1000 := by
  have hb := book_lens hr2 (by exact get3_le (by decide) (by decide) (by decide))
  have hl40 : verses_r2.length ≤ 40 := Nat.le_trans hr2.1.len (get3_le (by decide) (by decide) (by decide))
  obtain ⟨x21, x22, e3, u1, u2⟩ := hr3
  have hu1 := UnI.ok (n := verses_r2.length) u1
  have hu2 := UnI.ok (n := verses_r2.length) u2
  omega
theorem vc_law_rng2 (script : (List Int)) (numbers_here_r1 : (List Int)) (verses_r2 : (List (List Str))) (rows_r3 : (List (List Int))) (ix1 : Nat) (y1 : Int) (verse_here_a1 : Int) (others_a2 : (List Int)) (hn0 : script.length ≤ 63) (hr1 : Nums ((370 : Int)).toNat numbers_here_r1) (hr2 : (GB (getI (([(6 : Int), (14 : Int), (40 : Int)] : List Int)) ((getI numbers_here_r1 (0 : Int)) % (3 : Int))).toNat verses_r2 ∧ ∀ l ∈ verses_r2, l.length ≤ 1000)) (hr3 : (∃ (x21 : (List Int)) (x22 : (List Int)), rows_r3 = [x21, x22] ∧ UnI (((verses_r2).length : Int)).toNat x21 ∧ UnI (((verses_r2).length : Int)).toNat x22)) (hi1 : (rngI (4 : Int))[ix1]? = some y1) (c1 : (!decide ((getI rows_r3 (y1 % (2 : Int))) = (([] : List Int)))) = true) (ha1 : verse_here_a1 = getI (getI rows_r3 (y1 % (2 : Int))) ((getI numbers_here_r1 ((1 : Int) + y1)) % (((getI rows_r3 (y1 % (2 : Int))).length : Int)))) (ha2 : others_a2 = m__law_once (((verses_r2).length : Int)) (getI rows_r3 (y1 % (2 : Int)))) : 0 ≤ (10 : Int) ∧ (10 : Int) ≤ 40000 := by
  omega
theorem vc_law_cat1 (script : (List Int)) (numbers_here_r1 : (List Int)) (verses_r2 : (List (List Str))) (rows_r3 : (List (List Int))) (ix1 : Nat) (y1 : Int) (verse_here_a1 : Int) (others_a2 : (List Int)) (hn0 : script.length ≤ 63) (hr1 : Nums ((370 : Int)).toNat numbers_here_r1) (hr2 : (GB (getI (([(6 : Int), (14 : Int), (40 : Int)] : List Int)) ((getI numbers_here_r1 (0 : Int)) % (3 : Int))).toNat verses_r2 ∧ ∀ l ∈ verses_r2, l.length ≤ 1000)) (hr3 : (∃ (x21 : (List Int)) (x22 : (List Int)), rows_r3 = [x21, x22] ∧ UnI (((verses_r2).length : Int)).toNat x21 ∧ UnI (((verses_r2).length : Int)).toNat x22)) (hi1 : (rngI (4 : Int))[ix1]? = some y1) (c1 : (!decide ((getI rows_r3 (y1 % (2 : Int))) = (([] : List Int)))) = true) (ha1 : verse_here_a1 = getI (getI rows_r3 (y1 % (2 : Int))) ((getI numbers_here_r1 ((1 : Int) + y1)) % (((getI rows_r3 (y1 % (2 : Int))).length : Int)))) (ha2 : others_a2 = m__law_once (((verses_r2).length : Int)) (getI rows_r3 (y1 % (2 : Int)))) : (rngI (10 : Int)).length + (([(10 : Int) ^ ((20 : Int) : Int).toNat] : List Int)).length ≤ 40000 := by
  decide
theorem vc_law_pre_chance1 (script : (List Int)) (numbers_here_r1 : (List Int)) (verses_r2 : (List (List Str))) (rows_r3 : (List (List Int))) (ix1 : Nat) (y1 : Int) (verse_here_a1 : Int) (others_a2 : (List Int)) (ix2 : Nat) (y2 : Int) (hn0 : script.length ≤ 63) (hr1 : Nums ((370 : Int)).toNat numbers_here_r1) (hr2 : (GB (getI (([(6 : Int), (14 : Int), (40 : Int)] : List Int)) ((getI numbers_here_r1 (0 : Int)) % (3 : Int))).toNat verses_r2 ∧ ∀ l ∈ verses_r2, l.length ≤ 1000)) (hr3 : (∃ (x21 : (List Int)) (x22 : (List Int)), rows_r3 = [x21, x22] ∧ UnI (((verses_r2).length : Int)).toNat x21 ∧ UnI (((verses_r2).length : Int)).toNat x22)) (hi1 : (rngI (4 : Int))[ix1]? = some y1) (c1 : (!decide ((getI rows_r3 (y1 % (2 : Int))) = (([] : List Int)))) = true) (ha1 : verse_here_a1 = getI (getI rows_r3 (y1 % (2 : Int))) ((getI numbers_here_r1 ((1 : Int) + y1)) % (((getI rows_r3 (y1 % (2 : Int))).length : Int)))) (ha2 : others_a2 = m__law_once (((verses_r2).length : Int)) (getI rows_r3 (y1 % (2 : Int)))) (hi2 : ((rngI (10 : Int)) ++ (([(10 : Int) ^ ((20 : Int) : Int).toNat] : List Int)))[ix2]? = some y2) : ((verses_r2).length ≤ 1000 ∧ ∀ l ∈ (verses_r2), l.length ≤ 1000) ∧ (0 ≤ (verse_here_a1) ∧ (verse_here_a1) < (verses_r2).length) ∧ ∀ i ∈ (others_a2), 0 ≤ i ∧ i < (verses_r2).length := by
  have hb := book_lens hr2 (by exact get3_le (by decide) (by decide) (by decide))
  have hl40 : verses_r2.length ≤ 40 := Nat.le_trans hr2.1.len (get3_le (by decide) (by decide) (by decide))
  obtain ⟨x21, x22, e3, u1, u2⟩ := hr3
  have hu1 := UnI.ok (n := verses_r2.length) u1
  have hu2 := UnI.ok (n := verses_r2.length) u2
  have hU : okN verses_r2.length (getI rows_r3 (y1 % 2)) = true ∧ (getI rows_r3 (y1 % 2)).length ≤ 900 := by
    have hy : y1 % 2 = 0 ∨ y1 % 2 = 1 := by omega
    rcases hy with e | e <;> rw [e, e3]
    · exact ⟨hu1.1, by show x21.length ≤ 900; omega⟩
    · exact ⟨hu2.1, by show x22.length ≤ 900; omega⟩
  generalize getI rows_r3 (y1 % 2) = un at *
  have hne : un ≠ [] := by simpa using c1
  have hpos : (0 : Int) < (un.length : Int) := by have := List.length_pos_iff.mpr hne; omega
  have hm : verse_here_a1 ∈ un := by
    rw [ha1]
    exact getI_mem ⟨by have := Int.emod_nonneg (getI numbers_here_r1 (1 + y1)) (show (un.length : Int) ≠ 0 by omega); omega, Int.emod_lt_of_pos _ hpos⟩
  have hv := okN_mem.mp hU.1 _ hm
  have eo : others_a2 = lefI verses_r2 un := by rw [ha2]; exact once_is
  have h8 : ∀ l ∈ verses_r2, l.length ≤ 8 := need8 hb.1
  exact ⟨hb.2, hv, fun i hi => by rw [eo] at hi; exact lef_mem hi⟩
theorem vc_law_pre_decided_by1 (script : (List Int)) (numbers_here_r1 : (List Int)) (verses_r2 : (List (List Str))) (rows_r3 : (List (List Int))) (ix1 : Nat) (y1 : Int) (verse_here_a1 : Int) (others_a2 : (List Int)) (ix2 : Nat) (y2 : Int) (hn0 : script.length ≤ 63) (hr1 : Nums ((370 : Int)).toNat numbers_here_r1) (hr2 : (GB (getI (([(6 : Int), (14 : Int), (40 : Int)] : List Int)) ((getI numbers_here_r1 (0 : Int)) % (3 : Int))).toNat verses_r2 ∧ ∀ l ∈ verses_r2, l.length ≤ 1000)) (hr3 : (∃ (x21 : (List Int)) (x22 : (List Int)), rows_r3 = [x21, x22] ∧ UnI (((verses_r2).length : Int)).toNat x21 ∧ UnI (((verses_r2).length : Int)).toNat x22)) (hi1 : (rngI (4 : Int))[ix1]? = some y1) (c1 : (!decide ((getI rows_r3 (y1 % (2 : Int))) = (([] : List Int)))) = true) (ha1 : verse_here_a1 = getI (getI rows_r3 (y1 % (2 : Int))) ((getI numbers_here_r1 ((1 : Int) + y1)) % (((getI rows_r3 (y1 % (2 : Int))).length : Int)))) (ha2 : others_a2 = m__law_once (((verses_r2).length : Int)) (getI rows_r3 (y1 % (2 : Int)))) (hi2 : ((rngI (10 : Int)) ++ (([(10 : Int) ^ ((20 : Int) : Int).toNat] : List Int)))[ix2]? = some y2) : (getI rows_r3 (y1 % (2 : Int))).length ≤ 900 := by
  have hb := book_lens hr2 (by exact get3_le (by decide) (by decide) (by decide))
  have hl40 : verses_r2.length ≤ 40 := Nat.le_trans hr2.1.len (get3_le (by decide) (by decide) (by decide))
  obtain ⟨x21, x22, e3, u1, u2⟩ := hr3
  have hu1 := UnI.ok (n := verses_r2.length) u1
  have hu2 := UnI.ok (n := verses_r2.length) u2
  have hU : okN verses_r2.length (getI rows_r3 (y1 % 2)) = true ∧ (getI rows_r3 (y1 % 2)).length ≤ 900 := by
    have hy : y1 % 2 = 0 ∨ y1 % 2 = 1 := by omega
    rcases hy with e | e <;> rw [e, e3]
    · exact ⟨hu1.1, by show x21.length ≤ 900; omega⟩
    · exact ⟨hu2.1, by show x22.length ≤ 900; omega⟩
  generalize getI rows_r3 (y1 % 2) = un at *
  have hne : un ≠ [] := by simpa using c1
  have hpos : (0 : Int) < (un.length : Int) := by have := List.length_pos_iff.mpr hne; omega
  have hm : verse_here_a1 ∈ un := by
    rw [ha1]
    exact getI_mem ⟨by have := Int.emod_nonneg (getI numbers_here_r1 (1 + y1)) (show (un.length : Int) ≠ 0 by omega); omega, Int.emod_lt_of_pos _ hpos⟩
  have hv := okN_mem.mp hU.1 _ hm
  have eo : others_a2 = lefI verses_r2 un := by rw [ha2]; exact once_is
  have h8 : ∀ l ∈ verses_r2, l.length ≤ 8 := need8 hb.1
  exact hU.2
theorem vc_law_safe1 (script : (List Int)) (numbers_here_r1 : (List Int)) (verses_r2 : (List (List Str))) (rows_r3 : (List (List Int))) (ix1 : Nat) (y1 : Int) (verse_here_a1 : Int) (others_a2 : (List Int)) (ix2 : Nat) (y2 : Int) (hn0 : script.length ≤ 63) (hr1 : Nums ((370 : Int)).toNat numbers_here_r1) (hr2 : (GB (getI (([(6 : Int), (14 : Int), (40 : Int)] : List Int)) ((getI numbers_here_r1 (0 : Int)) % (3 : Int))).toNat verses_r2 ∧ ∀ l ∈ verses_r2, l.length ≤ 1000)) (hr3 : (∃ (x21 : (List Int)) (x22 : (List Int)), rows_r3 = [x21, x22] ∧ UnI (((verses_r2).length : Int)).toNat x21 ∧ UnI (((verses_r2).length : Int)).toNat x22)) (hi1 : (rngI (4 : Int))[ix1]? = some y1) (c1 : (!decide ((getI rows_r3 (y1 % (2 : Int))) = (([] : List Int)))) = true) (ha1 : verse_here_a1 = getI (getI rows_r3 (y1 % (2 : Int))) ((getI numbers_here_r1 ((1 : Int) + y1)) % (((getI rows_r3 (y1 % (2 : Int))).length : Int)))) (ha2 : others_a2 = m__law_once (((verses_r2).length : Int)) (getI rows_r3 (y1 % (2 : Int)))) (hi2 : ((rngI (10 : Int)) ++ (([(10 : Int) ^ ((20 : Int) : Int).toNat] : List Int)))[ix2]? = some y2) : unErr (verses_r2).length (getI rows_r3 (y1 % (2 : Int))) (verse_here_a1) = none := by
  have hb := book_lens hr2 (by exact get3_le (by decide) (by decide) (by decide))
  have hl40 : verses_r2.length ≤ 40 := Nat.le_trans hr2.1.len (get3_le (by decide) (by decide) (by decide))
  obtain ⟨x21, x22, e3, u1, u2⟩ := hr3
  have hu1 := UnI.ok (n := verses_r2.length) u1
  have hu2 := UnI.ok (n := verses_r2.length) u2
  have hU : okN verses_r2.length (getI rows_r3 (y1 % 2)) = true ∧ (getI rows_r3 (y1 % 2)).length ≤ 900 := by
    have hy : y1 % 2 = 0 ∨ y1 % 2 = 1 := by omega
    rcases hy with e | e <;> rw [e, e3]
    · exact ⟨hu1.1, by show x21.length ≤ 900; omega⟩
    · exact ⟨hu2.1, by show x22.length ≤ 900; omega⟩
  generalize getI rows_r3 (y1 % 2) = un at *
  have hne : un ≠ [] := by simpa using c1
  have hpos : (0 : Int) < (un.length : Int) := by have := List.length_pos_iff.mpr hne; omega
  have hm : verse_here_a1 ∈ un := by
    rw [ha1]
    exact getI_mem ⟨by have := Int.emod_nonneg (getI numbers_here_r1 (1 + y1)) (show (un.length : Int) ≠ 0 by omega); omega, Int.emod_lt_of_pos _ hpos⟩
  have hv := okN_mem.mp hU.1 _ hm
  have eo : others_a2 = lefI verses_r2 un := by rw [ha2]; exact once_is
  have h8 : ∀ l ∈ verses_r2, l.length ≤ 8 := need8 hb.1
  exact un_0 (okN_err (okN_mem.mpr fun x hx => by
    rcases List.mem_append.mp hx with z | z
    · exact okN_mem.mp hU.1 x z
    · rw [List.mem_singleton.mp z]; exact hv)) hm
theorem vc_law_pre_same1 (script : (List Int)) (numbers_here_r1 : (List Int)) (verses_r2 : (List (List Str))) (rows_r3 : (List (List Int))) (ix1 : Nat) (y1 : Int) (verse_here_a1 : Int) (others_a2 : (List Int)) (ix2 : Nat) (y2 : Int) (hn0 : script.length ≤ 63) (hr1 : Nums ((370 : Int)).toNat numbers_here_r1) (hr2 : (GB (getI (([(6 : Int), (14 : Int), (40 : Int)] : List Int)) ((getI numbers_here_r1 (0 : Int)) % (3 : Int))).toNat verses_r2 ∧ ∀ l ∈ verses_r2, l.length ≤ 1000)) (hr3 : (∃ (x21 : (List Int)) (x22 : (List Int)), rows_r3 = [x21, x22] ∧ UnI (((verses_r2).length : Int)).toNat x21 ∧ UnI (((verses_r2).length : Int)).toNat x22)) (hi1 : (rngI (4 : Int))[ix1]? = some y1) (c1 : (!decide ((getI rows_r3 (y1 % (2 : Int))) = (([] : List Int)))) = true) (ha1 : verse_here_a1 = getI (getI rows_r3 (y1 % (2 : Int))) ((getI numbers_here_r1 ((1 : Int) + y1)) % (((getI rows_r3 (y1 % (2 : Int))).length : Int)))) (ha2 : others_a2 = m__law_once (((verses_r2).length : Int)) (getI rows_r3 (y1 % (2 : Int)))) (hi2 : ((rngI (10 : Int)) ++ (([(10 : Int) ^ ((20 : Int) : Int).toNat] : List Int)))[ix2]? = some y2) : (chI (mostI (verses_r2) (getI rows_r3 (y1 % (2 : Int))) (verse_here_a1)) (y2)) = (chI (mosO (verses_r2) (others_a2) (verse_here_a1)) (y2)) := by
  have hb := book_lens hr2 (by exact get3_le (by decide) (by decide) (by decide))
  have hl40 : verses_r2.length ≤ 40 := Nat.le_trans hr2.1.len (get3_le (by decide) (by decide) (by decide))
  obtain ⟨x21, x22, e3, u1, u2⟩ := hr3
  have hu1 := UnI.ok (n := verses_r2.length) u1
  have hu2 := UnI.ok (n := verses_r2.length) u2
  have hU : okN verses_r2.length (getI rows_r3 (y1 % 2)) = true ∧ (getI rows_r3 (y1 % 2)).length ≤ 900 := by
    have hy : y1 % 2 = 0 ∨ y1 % 2 = 1 := by omega
    rcases hy with e | e <;> rw [e, e3]
    · exact ⟨hu1.1, by show x21.length ≤ 900; omega⟩
    · exact ⟨hu2.1, by show x22.length ≤ 900; omega⟩
  generalize getI rows_r3 (y1 % 2) = un at *
  have hne : un ≠ [] := by simpa using c1
  have hpos : (0 : Int) < (un.length : Int) := by have := List.length_pos_iff.mpr hne; omega
  have hm : verse_here_a1 ∈ un := by
    rw [ha1]
    exact getI_mem ⟨by have := Int.emod_nonneg (getI numbers_here_r1 (1 + y1)) (show (un.length : Int) ≠ 0 by omega); omega, Int.emod_lt_of_pos _ hpos⟩
  have hv := okN_mem.mp hU.1 _ hm
  have eo : others_a2 = lefI verses_r2 un := by rw [ha2]; exact once_is
  have h8 : ∀ l ∈ verses_r2, l.length ≤ 8 := need8 hb.1
  rw [eo, most_O hv.1]
theorem vc_law_never1 (script : (List Int)) (numbers_here_r1 : (List Int)) (verses_r2 : (List (List Str))) (rows_r3 : (List (List Int))) (ix1 : Nat) (y1 : Int) (verse_here_a1 : Int) (others_a2 : (List Int)) (ix2 : Nat) (y2 : Int) (hn0 : script.length ≤ 63) (hr1 : Nums ((370 : Int)).toNat numbers_here_r1) (hr2 : (GB (getI (([(6 : Int), (14 : Int), (40 : Int)] : List Int)) ((getI numbers_here_r1 (0 : Int)) % (3 : Int))).toNat verses_r2 ∧ ∀ l ∈ verses_r2, l.length ≤ 1000)) (hr3 : (∃ (x21 : (List Int)) (x22 : (List Int)), rows_r3 = [x21, x22] ∧ UnI (((verses_r2).length : Int)).toNat x21 ∧ UnI (((verses_r2).length : Int)).toNat x22)) (hi1 : (rngI (4 : Int))[ix1]? = some y1) (c1 : (!decide ((getI rows_r3 (y1 % (2 : Int))) = (([] : List Int)))) = true) (ha1 : verse_here_a1 = getI (getI rows_r3 (y1 % (2 : Int))) ((getI numbers_here_r1 ((1 : Int) + y1)) % (((getI rows_r3 (y1 % (2 : Int))).length : Int)))) (ha2 : others_a2 = m__law_once (((verses_r2).length : Int)) (getI rows_r3 (y1 % (2 : Int)))) (hi2 : ((rngI (10 : Int)) ++ (([(10 : Int) ^ ((20 : Int) : Int).toNat] : List Int)))[ix2]? = some y2) (c2 : (!true) = true) : False := by
  first
  | simp_all
  | omega
theorem vc_law_pre_mean_decided1 (script : (List Int)) (numbers_here_r1 : (List Int)) (verses_r2 : (List (List Str))) (rows_r3 : (List (List Int))) (ix1 : Nat) (y1 : Int) (verse_here_a1 : Int) (others_a2 : (List Int)) (hn0 : script.length ≤ 63) (hr1 : Nums ((370 : Int)).toNat numbers_here_r1) (hr2 : (GB (getI (([(6 : Int), (14 : Int), (40 : Int)] : List Int)) ((getI numbers_here_r1 (0 : Int)) % (3 : Int))).toNat verses_r2 ∧ ∀ l ∈ verses_r2, l.length ≤ 1000)) (hr3 : (∃ (x21 : (List Int)) (x22 : (List Int)), rows_r3 = [x21, x22] ∧ UnI (((verses_r2).length : Int)).toNat x21 ∧ UnI (((verses_r2).length : Int)).toNat x22)) (hi1 : (rngI (4 : Int))[ix1]? = some y1) (c1 : (!decide ((getI rows_r3 (y1 % (2 : Int))) = (([] : List Int)))) = true) (ha1 : verse_here_a1 = getI (getI rows_r3 (y1 % (2 : Int))) ((getI numbers_here_r1 ((1 : Int) + y1)) % (((getI rows_r3 (y1 % (2 : Int))).length : Int)))) (ha2 : others_a2 = m__law_once (((verses_r2).length : Int)) (getI rows_r3 (y1 % (2 : Int)))) : (getI rows_r3 (y1 % (2 : Int))).length ≤ 900 := by
  have hb := book_lens hr2 (by exact get3_le (by decide) (by decide) (by decide))
  have hl40 : verses_r2.length ≤ 40 := Nat.le_trans hr2.1.len (get3_le (by decide) (by decide) (by decide))
  obtain ⟨x21, x22, e3, u1, u2⟩ := hr3
  have hu1 := UnI.ok (n := verses_r2.length) u1
  have hu2 := UnI.ok (n := verses_r2.length) u2
  have hU : okN verses_r2.length (getI rows_r3 (y1 % 2)) = true ∧ (getI rows_r3 (y1 % 2)).length ≤ 900 := by
    have hy : y1 % 2 = 0 ∨ y1 % 2 = 1 := by omega
    rcases hy with e | e <;> rw [e, e3]
    · exact ⟨hu1.1, by show x21.length ≤ 900; omega⟩
    · exact ⟨hu2.1, by show x22.length ≤ 900; omega⟩
  generalize getI rows_r3 (y1 % 2) = un at *
  have hne : un ≠ [] := by simpa using c1
  have hpos : (0 : Int) < (un.length : Int) := by have := List.length_pos_iff.mpr hne; omega
  have hm : verse_here_a1 ∈ un := by
    rw [ha1]
    exact getI_mem ⟨by have := Int.emod_nonneg (getI numbers_here_r1 (1 + y1)) (show (un.length : Int) ≠ 0 by omega); omega, Int.emod_lt_of_pos _ hpos⟩
  have hv := okN_mem.mp hU.1 _ hm
  have eo : others_a2 = lefI verses_r2 un := by rw [ha2]; exact once_is
  have h8 : ∀ l ∈ verses_r2, l.length ≤ 8 := need8 hb.1
  exact hU.2
theorem vc_law_safe2 (script : (List Int)) (numbers_here_r1 : (List Int)) (verses_r2 : (List (List Str))) (rows_r3 : (List (List Int))) (ix1 : Nat) (y1 : Int) (verse_here_a1 : Int) (others_a2 : (List Int)) (hn0 : script.length ≤ 63) (hr1 : Nums ((370 : Int)).toNat numbers_here_r1) (hr2 : (GB (getI (([(6 : Int), (14 : Int), (40 : Int)] : List Int)) ((getI numbers_here_r1 (0 : Int)) % (3 : Int))).toNat verses_r2 ∧ ∀ l ∈ verses_r2, l.length ≤ 1000)) (hr3 : (∃ (x21 : (List Int)) (x22 : (List Int)), rows_r3 = [x21, x22] ∧ UnI (((verses_r2).length : Int)).toNat x21 ∧ UnI (((verses_r2).length : Int)).toNat x22)) (hi1 : (rngI (4 : Int))[ix1]? = some y1) (c1 : (!decide ((getI rows_r3 (y1 % (2 : Int))) = (([] : List Int)))) = true) (ha1 : verse_here_a1 = getI (getI rows_r3 (y1 % (2 : Int))) ((getI numbers_here_r1 ((1 : Int) + y1)) % (((getI rows_r3 (y1 % (2 : Int))).length : Int)))) (ha2 : others_a2 = m__law_once (((verses_r2).length : Int)) (getI rows_r3 (y1 % (2 : Int)))) : unErr (verses_r2).length (getI rows_r3 (y1 % (2 : Int))) (verse_here_a1) = none := by
  have hb := book_lens hr2 (by exact get3_le (by decide) (by decide) (by decide))
  have hl40 : verses_r2.length ≤ 40 := Nat.le_trans hr2.1.len (get3_le (by decide) (by decide) (by decide))
  obtain ⟨x21, x22, e3, u1, u2⟩ := hr3
  have hu1 := UnI.ok (n := verses_r2.length) u1
  have hu2 := UnI.ok (n := verses_r2.length) u2
  have hU : okN verses_r2.length (getI rows_r3 (y1 % 2)) = true ∧ (getI rows_r3 (y1 % 2)).length ≤ 900 := by
    have hy : y1 % 2 = 0 ∨ y1 % 2 = 1 := by omega
    rcases hy with e | e <;> rw [e, e3]
    · exact ⟨hu1.1, by show x21.length ≤ 900; omega⟩
    · exact ⟨hu2.1, by show x22.length ≤ 900; omega⟩
  generalize getI rows_r3 (y1 % 2) = un at *
  have hne : un ≠ [] := by simpa using c1
  have hpos : (0 : Int) < (un.length : Int) := by have := List.length_pos_iff.mpr hne; omega
  have hm : verse_here_a1 ∈ un := by
    rw [ha1]
    exact getI_mem ⟨by have := Int.emod_nonneg (getI numbers_here_r1 (1 + y1)) (show (un.length : Int) ≠ 0 by omega); omega, Int.emod_lt_of_pos _ hpos⟩
  have hv := okN_mem.mp hU.1 _ hm
  have eo : others_a2 = lefI verses_r2 un := by rw [ha2]; exact once_is
  have h8 : ∀ l ∈ verses_r2, l.length ≤ 8 := need8 hb.1
  exact un_0 (okN_err (okN_mem.mpr fun x hx => by
    rcases List.mem_append.mp hx with z | z
    · exact okN_mem.mp hU.1 x z
    · rw [List.mem_singleton.mp z]; exact hv)) hm
theorem vc_law_pre_mean1 (script : (List Int)) (numbers_here_r1 : (List Int)) (verses_r2 : (List (List Str))) (rows_r3 : (List (List Int))) (ix1 : Nat) (y1 : Int) (verse_here_a1 : Int) (others_a2 : (List Int)) (hn0 : script.length ≤ 63) (hr1 : Nums ((370 : Int)).toNat numbers_here_r1) (hr2 : (GB (getI (([(6 : Int), (14 : Int), (40 : Int)] : List Int)) ((getI numbers_here_r1 (0 : Int)) % (3 : Int))).toNat verses_r2 ∧ ∀ l ∈ verses_r2, l.length ≤ 1000)) (hr3 : (∃ (x21 : (List Int)) (x22 : (List Int)), rows_r3 = [x21, x22] ∧ UnI (((verses_r2).length : Int)).toNat x21 ∧ UnI (((verses_r2).length : Int)).toNat x22)) (hi1 : (rngI (4 : Int))[ix1]? = some y1) (c1 : (!decide ((getI rows_r3 (y1 % (2 : Int))) = (([] : List Int)))) = true) (ha1 : verse_here_a1 = getI (getI rows_r3 (y1 % (2 : Int))) ((getI numbers_here_r1 ((1 : Int) + y1)) % (((getI rows_r3 (y1 % (2 : Int))).length : Int)))) (ha2 : others_a2 = m__law_once (((verses_r2).length : Int)) (getI rows_r3 (y1 % (2 : Int)))) : ((verses_r2).length ≤ 1000 ∧ ∀ l ∈ (verses_r2), l.length ≤ 8) ∧ (0 ≤ (verse_here_a1) ∧ (verse_here_a1) < (verses_r2).length) ∧ (∀ i ∈ (others_a2), 0 ≤ i ∧ i < (verses_r2).length) ∧ (others_a2).length ≤ 1000 := by
  have hb := book_lens hr2 (by exact get3_le (by decide) (by decide) (by decide))
  have hl40 : verses_r2.length ≤ 40 := Nat.le_trans hr2.1.len (get3_le (by decide) (by decide) (by decide))
  obtain ⟨x21, x22, e3, u1, u2⟩ := hr3
  have hu1 := UnI.ok (n := verses_r2.length) u1
  have hu2 := UnI.ok (n := verses_r2.length) u2
  have hU : okN verses_r2.length (getI rows_r3 (y1 % 2)) = true ∧ (getI rows_r3 (y1 % 2)).length ≤ 900 := by
    have hy : y1 % 2 = 0 ∨ y1 % 2 = 1 := by omega
    rcases hy with e | e <;> rw [e, e3]
    · exact ⟨hu1.1, by show x21.length ≤ 900; omega⟩
    · exact ⟨hu2.1, by show x22.length ≤ 900; omega⟩
  generalize getI rows_r3 (y1 % 2) = un at *
  have hne : un ≠ [] := by simpa using c1
  have hpos : (0 : Int) < (un.length : Int) := by have := List.length_pos_iff.mpr hne; omega
  have hm : verse_here_a1 ∈ un := by
    rw [ha1]
    exact getI_mem ⟨by have := Int.emod_nonneg (getI numbers_here_r1 (1 + y1)) (show (un.length : Int) ≠ 0 by omega); omega, Int.emod_lt_of_pos _ hpos⟩
  have hv := okN_mem.mp hU.1 _ hm
  have eo : others_a2 = lefI verses_r2 un := by rw [ha2]; exact once_is
  have h8 : ∀ l ∈ verses_r2, l.length ≤ 8 := need8 hb.1
  exact ⟨⟨hb.2.1, h8⟩, hv, fun i hi => by rw [eo] at hi; exact lef_mem hi, by rw [eo]; have := lef_len verses_r2 un; omega⟩
theorem vc_law_pre_same2 (script : (List Int)) (numbers_here_r1 : (List Int)) (verses_r2 : (List (List Str))) (rows_r3 : (List (List Int))) (ix1 : Nat) (y1 : Int) (verse_here_a1 : Int) (others_a2 : (List Int)) (hn0 : script.length ≤ 63) (hr1 : Nums ((370 : Int)).toNat numbers_here_r1) (hr2 : (GB (getI (([(6 : Int), (14 : Int), (40 : Int)] : List Int)) ((getI numbers_here_r1 (0 : Int)) % (3 : Int))).toNat verses_r2 ∧ ∀ l ∈ verses_r2, l.length ≤ 1000)) (hr3 : (∃ (x21 : (List Int)) (x22 : (List Int)), rows_r3 = [x21, x22] ∧ UnI (((verses_r2).length : Int)).toNat x21 ∧ UnI (((verses_r2).length : Int)).toNat x22)) (hi1 : (rngI (4 : Int))[ix1]? = some y1) (c1 : (!decide ((getI rows_r3 (y1 % (2 : Int))) = (([] : List Int)))) = true) (ha1 : verse_here_a1 = getI (getI rows_r3 (y1 % (2 : Int))) ((getI numbers_here_r1 ((1 : Int) + y1)) % (((getI rows_r3 (y1 % (2 : Int))).length : Int)))) (ha2 : others_a2 = m__law_once (((verses_r2).length : Int)) (getI rows_r3 (y1 % (2 : Int)))) : (meanI (mostI (verses_r2) (getI rows_r3 (y1 % (2 : Int))) (verse_here_a1)) (topI (mostI (verses_r2) (getI rows_r3 (y1 % (2 : Int))) (verse_here_a1)))) = (meanI (mosO (verses_r2) (others_a2) (verse_here_a1)) ((row1 (verses_r2) ((verse_here_a1)).toNat).length : Int)) := by
  have hb := book_lens hr2 (by exact get3_le (by decide) (by decide) (by decide))
  have hl40 : verses_r2.length ≤ 40 := Nat.le_trans hr2.1.len (get3_le (by decide) (by decide) (by decide))
  obtain ⟨x21, x22, e3, u1, u2⟩ := hr3
  have hu1 := UnI.ok (n := verses_r2.length) u1
  have hu2 := UnI.ok (n := verses_r2.length) u2
  have hU : okN verses_r2.length (getI rows_r3 (y1 % 2)) = true ∧ (getI rows_r3 (y1 % 2)).length ≤ 900 := by
    have hy : y1 % 2 = 0 ∨ y1 % 2 = 1 := by omega
    rcases hy with e | e <;> rw [e, e3]
    · exact ⟨hu1.1, by show x21.length ≤ 900; omega⟩
    · exact ⟨hu2.1, by show x22.length ≤ 900; omega⟩
  generalize getI rows_r3 (y1 % 2) = un at *
  have hne : un ≠ [] := by simpa using c1
  have hpos : (0 : Int) < (un.length : Int) := by have := List.length_pos_iff.mpr hne; omega
  have hm : verse_here_a1 ∈ un := by
    rw [ha1]
    exact getI_mem ⟨by have := Int.emod_nonneg (getI numbers_here_r1 (1 + y1)) (show (un.length : Int) ≠ 0 by omega); omega, Int.emod_lt_of_pos _ hpos⟩
  have hv := okN_mem.mp hU.1 _ hm
  have eo : others_a2 = lefI verses_r2 un := by rw [ha2]; exact once_is
  have h8 : ∀ l ∈ verses_r2, l.length ≤ 8 := need8 hb.1
  rw [eo, most_O hv.1]
  exact (mean_same (fun x hx => (mosO_mem hx).1) (mosO_lt hr2.1 hv fun i hi => lef_mem hi) (by omega)).symm
theorem vc_law_never2 (script : (List Int)) (numbers_here_r1 : (List Int)) (verses_r2 : (List (List Str))) (rows_r3 : (List (List Int))) (ix1 : Nat) (y1 : Int) (verse_here_a1 : Int) (others_a2 : (List Int)) (hn0 : script.length ≤ 63) (hr1 : Nums ((370 : Int)).toNat numbers_here_r1) (hr2 : (GB (getI (([(6 : Int), (14 : Int), (40 : Int)] : List Int)) ((getI numbers_here_r1 (0 : Int)) % (3 : Int))).toNat verses_r2 ∧ ∀ l ∈ verses_r2, l.length ≤ 1000)) (hr3 : (∃ (x21 : (List Int)) (x22 : (List Int)), rows_r3 = [x21, x22] ∧ UnI (((verses_r2).length : Int)).toNat x21 ∧ UnI (((verses_r2).length : Int)).toNat x22)) (hi1 : (rngI (4 : Int))[ix1]? = some y1) (c1 : (!decide ((getI rows_r3 (y1 % (2 : Int))) = (([] : List Int)))) = true) (ha1 : verse_here_a1 = getI (getI rows_r3 (y1 % (2 : Int))) ((getI numbers_here_r1 ((1 : Int) + y1)) % (((getI rows_r3 (y1 % (2 : Int))).length : Int)))) (ha2 : others_a2 = m__law_once (((verses_r2).length : Int)) (getI rows_r3 (y1 % (2 : Int)))) (c3 : (!true) = true) : False := by
  first
  | simp_all
  | omega
theorem vc_law_never3 (script : (List Int)) (numbers_here_r1 : (List Int)) (verses_r2 : (List (List Str))) (rows_r3 : (List (List Int))) (ix1 : Nat) (y1 : Int) (verse_here_a1 : Int) (others_a2 : (List Int)) (hn0 : script.length ≤ 63) (hr1 : Nums ((370 : Int)).toNat numbers_here_r1) (hr2 : (GB (getI (([(6 : Int), (14 : Int), (40 : Int)] : List Int)) ((getI numbers_here_r1 (0 : Int)) % (3 : Int))).toNat verses_r2 ∧ ∀ l ∈ verses_r2, l.length ≤ 1000)) (hr3 : (∃ (x21 : (List Int)) (x22 : (List Int)), rows_r3 = [x21, x22] ∧ UnI (((verses_r2).length : Int)).toNat x21 ∧ UnI (((verses_r2).length : Int)).toNat x22)) (hi1 : (rngI (4 : Int))[ix1]? = some y1) (c1 : (!decide ((getI rows_r3 (y1 % (2 : Int))) = (([] : List Int)))) = true) (ha1 : verse_here_a1 = getI (getI rows_r3 (y1 % (2 : Int))) ((getI numbers_here_r1 ((1 : Int) + y1)) % (((getI rows_r3 (y1 % (2 : Int))).length : Int)))) (ha2 : others_a2 = m__law_once (((verses_r2).length : Int)) (getI rows_r3 (y1 % (2 : Int)))) (c3 : (!true) = false) (c4 : (!decide ((getI rows_r3 (y1 % (2 : Int))) = (getI rows_r3 (y1 % (2 : Int))))) = true) : False := by
  first
  | simp_all
  | omega
theorem vc_law_ret1 (script : (List Int)) (numbers_here_r1 : (List Int)) (verses_r2 : (List (List Str))) (rows_r3 : (List (List Int))) (hn0 : script.length ≤ 63) (hr1 : Nums ((370 : Int)).toNat numbers_here_r1) (hr2 : (GB (getI (([(6 : Int), (14 : Int), (40 : Int)] : List Int)) ((getI numbers_here_r1 (0 : Int)) % (3 : Int))).toNat verses_r2 ∧ ∀ l ∈ verses_r2, l.length ≤ 1000)) (hr3 : (∃ (x21 : (List Int)) (x22 : (List Int)), rows_r3 = [x21, x22] ∧ UnI (((verses_r2).length : Int)).toNat x21 ∧ UnI (((verses_r2).length : Int)).toNat x22)) : (true) = (true) := by
  rfl
theorem ok_law (B : Bt mg) {C_Book : Addr} (O_Book : OkC P w K mg base 4 C_Book "Book" ["self", "verses"] ((R_Book K C_Book).spI mg C_Book)) (O__law_book : Ok P w K mg base 3 "_law_book" ["_law_d", "_law_most"] ((R__law_book K).sp mg)) (O__law_chance : Ok P w K mg base 2 "_law_chance" ["_law_verses", "_law_others", "_law_verse_here", "_law_size"] ((R__law_chance K).sp mg)) (O__law_copy : Ok P w K mg base 1 "_law_copy" ["_law_rows"] ((R__law_copy2 K).sp mg)) (O__law_mean : Ok P w K mg base 4 "_law_mean" ["_law_verses", "_law_others", "_law_verse_here"] ((R__law_mean K).sp mg)) (O__law_numbers : Ok P w K mg base 1 "_law_numbers" ["_law_script", "_law_many"] ((R__law_numbers K).sp mg)) (O__law_once : Ok P w K mg base 1 "_law_once" ["_law_many", "_law_unread_here"] ((R__law_once K).sp mg)) (O__law_same : ∀ n, Ok P w K mg base n "_law_same" ["_law_found", "_law_due"] ((R__law_same K n).sp mg)) (O__law_unread : Ok P w K mg base 1 "_law_unread" ["_law_many", "_law_d"] ((R__law_unread K).sp mg)) (O_decided_by : Ok P w K mg base 6 "decided_by" ["book", "unread", "verse", "size"] ((R_decided_by K C_Book).sp mg)) (O_mean_decided : Ok P w K mg base 6 "mean_decided" ["book", "unread", "verse"] ((R_mean_decided K C_Book).sp mg)) (D : Df K mg "law" s_law ["_law_script"]) : Ok P w K mg base 7 "law" ["_law_script"] (spLaw K) := by
  refine D.ok sc_law (fun vs H Q E h => ?_) (fun f cdv A outer s H vs Q E hr h => ?_)
  · obtain ⟨a, ns, rfl, _⟩ := h
    rfl
  · obtain ⟨a, script, rfl, hS, hn0, k0⟩ := h
    have o0 := Own.init H
    have k : RetNew H Q (fun N v => tB.R N v true) := fun v H' N _ _ _ h => by cases h; exact k0 H'
    have f0 : (tL K tI).R H (.ref a) script := ⟨a, _, rfl, hS, paired_mapI script, by omega⟩
    have O__law_same := O__law_same 4
    refine ⟨_, (pss_cons (ps_set (i := 1) sc_law.nd rfl (.inl rfl) (pe_callO O__law_numbers (hr.mono (by omega)) (by rfl) (takes_of rfl rfl rfl rfl) (pa_cons (pv 0) (pa_cons pe_int pa_nil))))
      (pss_cons (ps_set (i := 2) sc_law.nd rfl (.inl rfl) (pe_callO O__law_book (hr.mono (by omega)) (by rfl) (takes_of rfl rfl rfl rfl) (pa_cons (pe_slice (sl_K K) (pv 1) (po_some pe_int) po_none) (pa_cons (pe_ix (ix_seqK K) (pe_lst (pa_cons pe_int (pa_cons pe_int (pa_cons pe_int pa_nil)))) (pe_op op_mod (pe_ix (ix_seqK K) (pv 1) pe_int (fun _ _ => rfl)) pe_int) (fun _ _ => rfl)) pa_nil))))
      (pss_cons (ps_set (i := 3) sc_law.nd rfl (.inl rfl) (pe_makeO O_Book (hr.mono (by omega)) (by rfl) (takes_of rfl rfl rfl rfl) (pa_cons (pe_callO O__law_copy (hr.mono (by omega)) (by rfl) (takes_of rfl rfl rfl rfl) (pa_cons (pv 2) pa_nil)) pa_nil)))
      (pss_cons (ps_set (i := 4) sc_law.nd rfl (.inl rfl) (pe_lst (pa_cons (pe_callO O__law_unread (hr.mono (by omega)) (by rfl) (takes_of rfl rfl rfl rfl) (pa_cons (pe_callB (call_lenK K) (by rfl) B.len boot_b_len (pa_cons (pv 2) pa_nil)) (pa_cons (pe_slice (sl_K K) (pv 1) (po_some pe_int) po_none) pa_nil))) (pa_cons (pe_callO O__law_unread (hr.mono (by omega)) (by rfl) (takes_of rfl rfl rfl rfl) (pa_cons (pe_callB (call_lenK K) (by rfl) B.len boot_b_len (pa_cons (pv 2) pa_nil)) (pa_cons (pe_slice (sl_K K) (pv 1) (po_some pe_int) po_none) pa_nil))) pa_nil))))
      (pss_cons (ps_for (passes_of rfl) rfl (pi_range1 (by rfl) B.range (pa_cons pe_int pa_nil)) (pg_name (i := 5) sc_law.nd rfl (.inl rfl))
        (pss_cons (ps_set (i := 6) sc_law.nd rfl (.inl rfl) (pe_ix (ix_seqK K) (pv 4) (pe_op op_mod (pv 5) pe_int) (fun _ _ => rfl)))
        (pss_one (ps_if (pt_cmpR (op_neK K (hu65 hr)) (pv 6) (pe_lst pa_nil) (nomark _))
          (pss_cons (ps_set (i := 7) sc_law.nd rfl (.inl rfl) (pe_ix (ix_seqK K) (pv 6) (pe_op op_mod (pe_ix (ix_seqK K) (pv 1) (pe_op (op_addK K) pe_int (pv 5)) (fun _ _ => rfl)) (pe_callB (call_lenK K) (by rfl) B.len boot_b_len (pa_cons (pv 6) pa_nil))) (fun _ _ => rfl)))
          (pss_cons (ps_set (i := 8) sc_law.nd rfl (.inl rfl) (pe_callO O__law_once (hr.mono (by omega)) (by rfl) (takes_of rfl rfl rfl rfl) (pa_cons (pe_callB (call_lenK K) (by rfl) B.len boot_b_len (pa_cons (pv 2) pa_nil)) (pa_cons (pv 6) pa_nil))))
          (pss_cons (ps_set (i := 9) sc_law.nd rfl (.inl rfl) (pe_callTy (call_listK K) (by rfl) B.list boot_ty_list (pa_cons (pv 6) pa_nil)))
          (pss_cons (ps_for (passes_of rfl) rfl (pi_listK K (pe_op (op_addK K) (pe_listRg rfl (by rfl) B.list (prg_1 (by rfl) B.range pe_int)) (pe_lst (pa_cons (pe_op op_pow pe_int pe_int) pa_nil)))) (pg_name (i := 10) sc_law.nd rfl (.inl rfl))
            (pss_cons (ps_set (i := 11) sc_law.nd rfl (.inl rfl) (pe_callO O__law_chance (hr.mono (by omega)) (by rfl) (takes_of rfl rfl rfl rfl) (pa_cons (pv 2) (pa_cons (pv 8) (pa_cons (pv 7) (pa_cons (pv 10) pa_nil))))))
            (pss_one (ps_if (pt_not (pt_val (pe_callO O__law_same (hr.mono (by omega)) (by rfl) (takes_of rfl rfl rfl rfl) (pa_cons (pe_callO O_decided_by (hr.mono (by omega)) (by rfl) (takes_of rfl rfl rfl rfl) (pa_cons (pv 3) (pa_cons (pv 9) (pa_cons (pv 7) (pa_cons (pv 10) pa_nil))))) (pa_cons (pv 11) pa_nil)))))
              (pss_one (ps_ret pe_bl))
              pss_nil))))
          (pss_cons (ps_if (pt_not (pt_val (pe_callO O__law_same (hr.mono (by omega)) (by rfl) (takes_of rfl rfl rfl rfl) (pa_cons (pe_callO O_mean_decided (hr.mono (by omega)) (by rfl) (takes_of rfl rfl rfl rfl) (pa_cons (pv 3) (pa_cons (pv 9) (pa_cons (pv 7) pa_nil)))) (pa_cons (pe_callO O__law_mean (hr.mono (by omega)) (by rfl) (takes_of rfl rfl rfl rfl) (pa_cons (pv 2) (pa_cons (pv 8) (pa_cons (pv 7) pa_nil)))) pa_nil)))))
            (pss_one (ps_ret pe_bl))
            pss_nil)
          (pss_one (ps_if (pt_cmpR (op_neK K (hu65 hr)) (pv 9) (pv 6) (nomark _))
            (pss_one (ps_ret pe_bl))
            pss_nil)))))))
          pss_nil))))
      (pss_one (ps_ret pe_bl))))))), ?_⟩
    refine q_b (i := 1) o0 (eb_pE (T := (tW tI)) (Z := fun y => Nums ((370 : Int)).toNat y) (ep_callB (S := (R__law_numbers K)) (Ex.refl _) (ebs_cons (T := (tL K tI)) (Ex.refl _) (ed_of (T := (tL K tI)) (up (Own.uh o0) (up (Own.ug o0) f0)) rfl) (ebs_cons (T := tI) (Ex.refl _) (ed_i ev_c) ebs_nil)) (fun vs G ha => ad__law_numbers ha (vc_law_pre_numbers1 script hn0))) (cv_nums (And.right (vc_law_pre_numbers1 script hn0)))) fun v3 M4 H5 eM6 o7 ⟨numbers_here_r1, f8, hr1⟩ => ?_
    refine q_b (i := 2) o7 (eb_pE (T := (tW (tW tX))) (Z := fun y => (GB (getI (([(6 : Int), (14 : Int), (40 : Int)] : List Int)) ((getI numbers_here_r1 (0 : Int)) % (3 : Int))).toNat y ∧ ∀ l ∈ y, l.length ≤ 1000)) (ep_callB (S := (R__law_book K)) (Ex.refl _) (ebs_cons (T := (tL K tI)) (Ex.refl _) (ed_to (T := (tW tI)) (S := (tL K tI)) (ed_slF (B := M4) (ed_to (T := (tW tI)) (S := (tL K tI)) (ed_of (T := (tW tI)) f8 rfl)) (eo_some ev_c) eo_none (Own.e0 o7))) (ebs_cons (T := tI) (Ex.refl _) (ed_i (ev_i (ed_ixG (ed_to (T := (tW tI)) (S := (tL K tI)) (ed_lst (T := tI) (l := ([(6 : Int), (14 : Int), (40 : Int)] : List Int)) (Own.e0 o7) (ebs_cons (T := tI) (Own.e0 o7) (ed_i ev_c) (ebs_cons (T := tI) (Own.e0 o7) (ed_i ev_c) (ebs_cons (T := tI) (Own.e0 o7) (ed_i ev_c) ebs_nil))) (Nat.le_of_ble_eq_true rfl))) (ev_op (ev_i (ed_ixG (ed_to (T := (tW tI)) (S := (tL K tI)) (ed_of (T := (tW tI)) f8 rfl)) ev_c (vc_law_ix1 script numbers_here_r1 hn0 hr1) (Own.e0 o7))) ev_c (rv_I (by decide))) (vc_law_ix2 script numbers_here_r1 hn0 hr1) (Own.e0 o7)))) ebs_nil)) (fun vs G ha => ad__law_book ha (vc_law_pre_book1 script numbers_here_r1 hn0 hr1))) (cv_good)) fun v9 M10 H11 eM12 o13 ⟨verses_r2, f14, hr2⟩ => ?_
    refine q_b (i := 3) o13 (ed_p (T := (tBook K C_Book)) (ep_makeB (S := (R_Book K C_Book)) (Ex.refl _) (ebs_cons (T := (tL K (tL K tX))) (Ex.refl _) (ed_to (T := (tW (tW tX))) (S := (tL K (tL K tX))) (ed_p (T := (tW (tW tX))) (ep_callB (S := (R__law_copy2 K)) (Ex.refl _) (ebs_cons (T := (tL K (tL K tX))) (Ex.refl _) (ed_to (T := (tW (tW tX))) (S := (tL K (tL K tX))) (ed_of (T := (tW (tW tX))) (up (Own.e0 o13) f14) rfl)) ebs_nil) (fun vs G ha => ad__law_copyT ha (vc_law_pre_copy1 script numbers_here_r1 verses_r2 hn0 hr1 hr2))) (Ex.refl _) (cv_rows))) ebs_nil) (fun vs G ha => ad_Book ha (vc_law_pre_Book1 script numbers_here_r1 verses_r2 hn0 hr1 hr2))) (Own.e0 o13) (fun _ _ h => h)) fun v15 M16 H17 eM18 o19 f20 => ?_
    refine q_b (i := 4) o19 (eb_lstx (T := (tW tI)) (W' := fun y => (∃ (x21 : (List Int)) (x22 : (List Int)), y = [x21, x22] ∧ UnI (((verses_r2).length : Int)).toNat x21 ∧ UnI (((verses_r2).length : Int)).toNat x22)) (Own.e0 o19) (ebx_cons (Own.e0 o19) (eb_pE (T := (tW tI)) (Z := fun y => UnI (((verses_r2).length : Int)).toNat y) (ep_callB (S := (R__law_unread K)) (Ex.refl _) (ebs_cons (T := tI) (Ex.refl _) (ed_i (ev_lenB (T := (tW tX)) (ed_to (T := (tW (tW tX))) (S := (tL K (tW tX))) (ed_of (T := (tW (tW tX))) (up eM18 f14) rfl)) (Own.e0 o19))) (ebs_cons (T := (tL K tI)) (Ex.refl _) (ed_to (T := (tW tI)) (S := (tL K tI)) (ed_slF (B := M16) (ed_to (T := (tW tI)) (S := (tL K tI)) (ed_of (T := (tW tI)) (up (Ex.trans eM12 eM18) f8) rfl)) (eo_some ev_c) eo_none (Own.e0 o19))) ebs_nil)) (fun vs G ha => ad__law_unread ha (vc_law_pre_unread1 script numbers_here_r1 verses_r2 hn0 hr1 hr2))) (cv_un (by have := (vc_law_pre_unread1 script numbers_here_r1 verses_r2 hn0 hr1 hr2); omega))) (ebx_cons (Own.e0 o19) (eb_pE (T := (tW tI)) (Z := fun y => UnI (((verses_r2).length : Int)).toNat y) (ep_callB (S := (R__law_unread K)) (Ex.refl _) (ebs_cons (T := tI) (Ex.refl _) (ed_i (ev_lenB (T := (tW tX)) (ed_to (T := (tW (tW tX))) (S := (tL K (tW tX))) (ed_of (T := (tW (tW tX))) (up eM18 f14) rfl)) (Own.e0 o19))) (ebs_cons (T := (tL K tI)) (Ex.refl _) (ed_to (T := (tW tI)) (S := (tL K tI)) (ed_slF (B := M16) (ed_to (T := (tW tI)) (S := (tL K tI)) (ed_of (T := (tW tI)) (up (Ex.trans eM12 eM18) f8) rfl)) (eo_some ev_c) eo_none (Own.e0 o19))) ebs_nil)) (fun vs G ha => ad__law_unread ha (vc_law_pre_unread2 script numbers_here_r1 verses_r2 hn0 hr1 hr2))) (cv_un (by have := (vc_law_pre_unread2 script numbers_here_r1 verses_r2 hn0 hr1 hr2); omega))) ebx_nil)) (fun l h => by obtain ⟨x21, _, rfl, hx21, x22, _, rfl, hx22, rfl⟩ := h; exact ⟨Nat.le_of_ble_eq_true rfl, x21, x22, rfl, hx21, hx22⟩)) fun v23 M24 H25 eM26 o27 ⟨rows_r3, f28, hr3⟩ => ?_
    refine q_fo (Z := fun B y σ σ2 => ∃ v, σ2 = σ.set 5 (some v) ∧ tI.R B v y) o27 (dr_rng (n := (4 : Int)) ev_c (vc_law_rng1 script numbers_here_r1 verses_r2 rows_r3 hn0 hr1 hr2 hr3) fun _ y _ _ _ q => q _ ⟨_, rfl, rfl⟩) (fun Mx ix σ' H' => ∃ (M29 : Hp) (g32 : Option V) (g33 : Option V) (g34 : Option V) (g35 : Option V) (g36 : Option V) (g37 : Option V) (g38 : Option V), (σ' = [some (.ref a), some v3, some v9, some v15, some v23, g32, g33, g34, g35, g36, g37, g38]) ∧ (Ex Mx M29) ∧ (Own (M29 :: H :: []) H')) (fun M1_1 H1 eM1_1 o1 => ?_) (fun M1_1 ix σ' H' eM1_1 ⟨M29, g32, g33, g34, g35, g36, g37, g38, _, eM31, o30⟩ => ?_) ?_ ?_
    · exact ⟨M1_1, _, _, _, _, _, _, _, rfl, Ex.refl _, o1⟩
    · exact (eM31.trans (Own.e0 o30))
    · rintro M1_1 ix1 y1 σ' H' H'' σ2 eM1_1 hi1 ⟨M29, g32, g33, g34, g35, g36, g37, g38, rfl, eM31, o30⟩ eH39 ⟨z41, rfl, f42⟩
      have o40 := Own.mono eH39 o30
      obtain rfl : z41 = (.int (y1)) := f42
      refine q_b (i := 6) o40 (ed_ixG (ed_to (T := (tW (tW tI))) (S := (tL K (tW tI))) (ed_of (T := (tW (tW tI))) (up (Ex.trans eM1_1 eM31) f28) rfl)) (ev_op (ev_var rfl) ev_c (rv_I (by decide))) (vc_law_ix3 script numbers_here_r1 verses_r2 rows_r3 ix1 y1 hn0 hr1 hr2 hr3 hi1) (Own.e0 o40)) fun v43 M44 H45 eM46 o47 f48 => ?_
      refine s_wh o47 (et_test (ev_neB (T := (tW tI)) (ed_of (T := (tW tI)) f48 rfl) (ed_lst (T := tI) (l := ([] : List Int)) (Own.e0 o47) ebs_nil (Nat.le_of_ble_eq_true rfl)) (Own.e0 o47))) (fun c1 H49 o50 => ?_) (fun c1 H49 o50 => ?_)
      · skip
        obtain ⟨verse_here_a1, ha1⟩ : ∃ z : Int, z = (getI (getI rows_r3 (y1 % (2 : Int))) ((getI numbers_here_r1 ((1 : Int) + y1)) % (((getI rows_r3 (y1 % (2 : Int))).length : Int)))) := ⟨_, rfl⟩
        refine q_v (i := 7) o50 (ev_is (ev_i (ed_ixG (ed_to (T := (tW tI)) (S := (tL K tI)) (ed_of (T := (tW tI)) f48 rfl)) (ev_op (ev_i (ed_ixG (ed_to (T := (tW tI)) (S := (tL K tI)) (ed_of (T := (tW tI)) (up (Ex.trans eM12 (Ex.trans eM18 (Ex.trans eM26 (Ex.trans eM1_1 (Ex.trans eM31 eM46))))) f8) rfl)) (ev_op ev_c (ev_var rfl) rv_addI) (vc_law_ix4 script numbers_here_r1 verses_r2 rows_r3 ix1 y1 hn0 hr1 hr2 hr3 hi1 c1) (Own.e0 o50))) (ev_lenB (T := tI) (ed_to (T := (tW tI)) (S := (tL K tI)) (ed_of (T := (tW tI)) f48 rfl)) (Own.e0 o50)) (rv_I (vc_law_mod1 script numbers_here_r1 verses_r2 rows_r3 ix1 y1 hn0 hr1 hr2 hr3 hi1 c1))) (vc_law_ix5 script numbers_here_r1 verses_r2 rows_r3 ix1 y1 hn0 hr1 hr2 hr3 hi1 c1) (Own.e0 o50))) (congrArg V.int ha1.symm)) fun H51 o52 => ?_
        refine q_b (i := 8) o52 (ed_p (T := (tW tI)) (ep_callB (S := (R__law_once K)) (Ex.refl _) (ebs_cons (T := tI) (Ex.refl _) (ed_i (ev_lenB (T := (tW tX)) (ed_to (T := (tW (tW tX))) (S := (tL K (tW tX))) (ed_of (T := (tW (tW tX))) (up (Ex.trans eM18 (Ex.trans eM26 (Ex.trans eM1_1 (Ex.trans eM31 eM46)))) f14) rfl)) (Own.e0 o52))) (ebs_cons (T := (tL K tI)) (Ex.refl _) (ed_to (T := (tW tI)) (S := (tL K tI)) (ed_of (T := (tW tI)) (up (Own.e0 o52) f48) rfl)) ebs_nil)) (fun vs G ha => ⟨(((verses_r2).length : Int)), (getI rows_r3 (y1 % (2 : Int))), ha, (vc_law_pre_once1 script numbers_here_r1 verses_r2 rows_r3 ix1 y1 verse_here_a1 hn0 hr1 hr2 hr3 hi1 c1 ha1), rfl⟩)) (Own.e0 o52) (fun _ _ h => h)) fun v53 M54 H55 eM56 o57 f58 => ?_
        obtain ⟨others_a2, ha2, f58⟩ : ∃ z : (List Int), z = (m__law_once (((verses_r2).length : Int)) (getI rows_r3 (y1 % (2 : Int)))) ∧ (tW tI).R M54 v53 z := ⟨_, rfl, f58⟩
        refine q_b (i := 9) o57 (ed_listF (B := M54) (ed_to (T := (tW tI)) (S := (tL K tI)) (ed_of (T := (tW tI)) (up eM56 f48) rfl)) (Own.e0 o57)) fun v59 M60 H61 eM62 o63 f64 => ?_
        refine q_fo (Z := fun B y σ σ2 => ∃ z65, σ2 = (σ.set 10 (some z65)) ∧ tI.R B z65 y) o63 (dr_list (T := tI) (ed_to (T := (tW tI)) (S := (tL K tI)) (ed_cat (ed_of_n (Own.e0 o63) (en_rng ev_c (vc_law_rng2 script numbers_here_r1 verses_r2 rows_r3 ix1 y1 verse_here_a1 others_a2 hn0 hr1 hr2 hr3 hi1 c1 ha1 ha2))) (ed_lst (T := tI) (l := ([(10 : Int) ^ ((20 : Int) : Int).toNat] : List Int)) (Own.e0 o63) (ebs_cons (T := tI) (Own.e0 o63) (ed_i (ev_op ev_c ev_c (rv_I ⟨by decide, by decide, by decide⟩))) ebs_nil) (Nat.le_of_ble_eq_true rfl)) (Own.e0 o63) (vc_law_cat1 script numbers_here_r1 verses_r2 rows_r3 ix1 y1 verse_here_a1 others_a2 hn0 hr1 hr2 hr3 hi1 c1 ha1 ha2))) (Own.e0 o63) (fun G x y H' e hx σ' Q q => by exact q _ ⟨x, rfl, hx⟩)) (fun Mx ix σ' H' => ∃ (M66 : Hp) (g69 : Option V) (g70 : Option V), (σ' = [some (.ref a), some v3, some v9, some v15, some v23, some (.int (y1)), some v43, some (.int (verse_here_a1)), some v53, some v59, g69, g70]) ∧ (Ex Mx M66) ∧ (Own (M66 :: H :: []) H')) (fun M1_2 H1 eM1_2 o1 => ?_) (fun M1_2 ix σ' H' eM1_2 ⟨M66, g69, g70, _, eM68, o67⟩ => ?_) ?_ ?_
        · exact ⟨M1_2, _, _, rfl, Ex.refl _, o1⟩
        · exact (eM68.trans (Own.e0 o67))
        · rintro M1_2 ix2 y2 σ' H' H'' σ2 eM1_2 hi2 ⟨M66, g69, g70, rfl, eM68, o67⟩ eH71 ⟨z73, rfl, f74⟩
          have o72 := Own.mono eH71 o67
          obtain rfl : z73 = (.int (y2)) := f74
          refine q_b (i := 11) o72 (ed_p (T := (tP K tI tI)) (ep_callB (S := (R__law_chance K)) (Ex.refl _) (ebs_cons (T := (tL K (tL K tX))) (Ex.refl _) (ed_to (T := (tW (tW tX))) (S := (tL K (tL K tX))) (ed_of (T := (tW (tW tX))) (up (Own.e0 o72) (up (Ex.trans eM18 (Ex.trans eM26 (Ex.trans eM1_1 (Ex.trans eM31 (Ex.trans eM46 (Ex.trans eM56 (Ex.trans eM62 (Ex.trans eM1_2 eM68)))))))) f14)) rfl)) (ebs_cons (T := (tL K tI)) (Ex.refl _) (ed_to (T := (tW tI)) (S := (tL K tI)) (ed_of (T := (tW tI)) (up (Own.e0 o72) (up (Ex.trans eM62 (Ex.trans eM1_2 eM68)) f58)) rfl)) (ebs_cons (T := tI) (Ex.refl _) (ed_i (ev_var rfl)) (ebs_cons (T := tI) (Ex.refl _) (ed_i (ev_var rfl)) ebs_nil)))) (fun vs G ha => ⟨(verses_r2), (others_a2), (verse_here_a1), (y2), ha, (vc_law_pre_chance1 script numbers_here_r1 verses_r2 rows_r3 ix1 y1 verse_here_a1 others_a2 ix2 y2 hn0 hr1 hr2 hr3 hi1 c1 ha1 ha2 hi2), rfl⟩)) (Own.e0 o72) (fun _ _ h => h)) fun v75 M76 H77 eM78 o79 f80 => ?_
          refine s_wh o79 (et_not (et_B (ev_p (v := (.bl (true))) (ep_imp (ep_callB (S := (R__law_same K 4)) (Ex.refl _) (ebs_cons (T := (tP K tI tI)) (Ex.refl _) (ed_p (T := (tP K tI tI)) (ep_callB (S := (R_decided_by K C_Book)) (Ex.refl _) (ebs_cons (T := (tBook K C_Book)) (Ex.refl _) (ed_of (T := (tBook K C_Book)) (up (Own.e0 o79) (up (Ex.trans eM26 (Ex.trans eM1_1 (Ex.trans eM31 (Ex.trans eM46 (Ex.trans eM56 (Ex.trans eM62 (Ex.trans eM1_2 (Ex.trans eM68 eM78)))))))) f20)) rfl) (ebs_cons (T := (tL K tI)) (Ex.refl _) (ed_to (T := (tW tI)) (S := (tL K tI)) (ed_of (T := (tW tI)) (up (Own.e0 o79) (up (Ex.trans eM1_2 (Ex.trans eM68 eM78)) f64)) rfl)) (ebs_cons (T := tI) (Ex.refl _) (ed_i (ev_var rfl)) (ebs_cons (T := tI) (Ex.refl _) (ed_i (ev_var rfl)) ebs_nil)))) (fun vs G ha => ⟨(verses_r2), (getI rows_r3 (y1 % (2 : Int))), (verse_here_a1), (y2), ha, (vc_law_pre_decided_by1 script numbers_here_r1 verses_r2 rows_r3 ix1 y1 verse_here_a1 others_a2 ix2 y2 hn0 hr1 hr2 hr3 hi1 c1 ha1 ha2 hi2), (res_ok (vc_law_safe1 script numbers_here_r1 verses_r2 rows_r3 ix1 y1 verse_here_a1 others_a2 ix2 y2 hn0 hr1 hr2 hr3 hi1 c1 ha1 ha2 hi2)).symm⟩)) (Ex.refl _) (fun _ _ h => h)) (ebs_cons (T := (tP K tI tI)) (Ex.refl _) (ed_of (T := (tP K tI tI)) (up (Own.e0 o79) f80) rfl) ebs_nil)) (fun vs G ha => ad__law_same rfl (Nat.le_of_ble_eq_true rfl) ha (vc_law_pre_same1 script numbers_here_r1 verses_r2 rows_r3 ix1 y1 verse_here_a1 others_a2 ix2 y2 hn0 hr1 hr2 hr3 hi1 c1 ha1 ha2 hi2))) (fun _ _ h => h))))) (fun c2 H81 o82 => ?_) (fun c2 H81 o82 => ?_)
          · skip
            exact ((vc_law_never1 script numbers_here_r1 verses_r2 rows_r3 ix1 y1 verse_here_a1 others_a2 ix2 y2 hn0 hr1 hr2 hr3 hi1 c1 ha1 ha2 hi2 c2) : False).elim
          · skip
            exact ⟨M76, _, _, rfl, (Ex.trans eM68 eM78), o82⟩
        · rintro M1_2 σ' H' eM1_2 ⟨M66, g69, g70, rfl, eM68, o67⟩
          refine q_wh o67 (et_not (et_B (ev_p (v := (.bl (true))) (ep_imp (ep_callB (S := (R__law_same K 4)) (Ex.refl _) (ebs_cons (T := (tP K tI tI)) (Ex.refl _) (ed_p (T := (tP K tI tI)) (ep_callB (S := (R_mean_decided K C_Book)) (Ex.refl _) (ebs_cons (T := (tBook K C_Book)) (Ex.refl _) (ed_of (T := (tBook K C_Book)) (up (Own.e0 o67) (up (Ex.trans eM26 (Ex.trans eM1_1 (Ex.trans eM31 (Ex.trans eM46 (Ex.trans eM56 (Ex.trans eM62 (Ex.trans eM1_2 eM68))))))) f20)) rfl) (ebs_cons (T := (tL K tI)) (Ex.refl _) (ed_to (T := (tW tI)) (S := (tL K tI)) (ed_of (T := (tW tI)) (up (Own.e0 o67) (up (Ex.trans eM1_2 eM68) f64)) rfl)) (ebs_cons (T := tI) (Ex.refl _) (ed_i (ev_var rfl)) ebs_nil))) (fun vs G ha => ⟨(verses_r2), (getI rows_r3 (y1 % (2 : Int))), (verse_here_a1), ha, (vc_law_pre_mean_decided1 script numbers_here_r1 verses_r2 rows_r3 ix1 y1 verse_here_a1 others_a2 hn0 hr1 hr2 hr3 hi1 c1 ha1 ha2), (res_ok (vc_law_safe2 script numbers_here_r1 verses_r2 rows_r3 ix1 y1 verse_here_a1 others_a2 hn0 hr1 hr2 hr3 hi1 c1 ha1 ha2)).symm⟩)) (Ex.refl _) (fun _ _ h => h)) (ebs_cons (T := (tP K tI tI)) (Ex.refl _) (ed_p (T := (tP K tI tI)) (ep_callB (S := (R__law_mean K)) (Ex.refl _) (ebs_cons (T := (tL K (tL K tX))) (Ex.refl _) (ed_to (T := (tW (tW tX))) (S := (tL K (tL K tX))) (ed_of (T := (tW (tW tX))) (up (Own.e0 o67) (up (Ex.trans eM18 (Ex.trans eM26 (Ex.trans eM1_1 (Ex.trans eM31 (Ex.trans eM46 (Ex.trans eM56 (Ex.trans eM62 (Ex.trans eM1_2 eM68)))))))) f14)) rfl)) (ebs_cons (T := (tL K tI)) (Ex.refl _) (ed_to (T := (tW tI)) (S := (tL K tI)) (ed_of (T := (tW tI)) (up (Own.e0 o67) (up (Ex.trans eM62 (Ex.trans eM1_2 eM68)) f58)) rfl)) (ebs_cons (T := tI) (Ex.refl _) (ed_i (ev_var rfl)) ebs_nil))) (fun vs G ha => ⟨(verses_r2), (others_a2), (verse_here_a1), ha, (vc_law_pre_mean1 script numbers_here_r1 verses_r2 rows_r3 ix1 y1 verse_here_a1 others_a2 hn0 hr1 hr2 hr3 hi1 c1 ha1 ha2), rfl⟩)) (Ex.refl _) (fun _ _ h => h)) ebs_nil)) (fun vs G ha => ad__law_same rfl (Nat.le_of_ble_eq_true rfl) ha (vc_law_pre_same2 script numbers_here_r1 verses_r2 rows_r3 ix1 y1 verse_here_a1 others_a2 hn0 hr1 hr2 hr3 hi1 c1 ha1 ha2))) (fun _ _ h => h))))) (fun c3 H83 o84 => ?_) (fun c3 H83 o84 => ?_)
          · skip
            exact ((vc_law_never2 script numbers_here_r1 verses_r2 rows_r3 ix1 y1 verse_here_a1 others_a2 hn0 hr1 hr2 hr3 hi1 c1 ha1 ha2 c3) : False).elim
          · skip
            refine s_wh o84 (et_test (ev_neB (T := (tW tI)) (ed_of (T := (tW tI)) (up (Ex.trans eM1_2 eM68) f64) rfl) (ed_of (T := (tW tI)) (up (Ex.trans eM56 (Ex.trans eM62 (Ex.trans eM1_2 eM68))) f48) rfl) (Own.e0 o84))) (fun c4 H85 o86 => ?_) (fun c4 H85 o86 => ?_)
            · skip
              exact ((vc_law_never3 script numbers_here_r1 verses_r2 rows_r3 ix1 y1 verse_here_a1 others_a2 hn0 hr1 hr2 hr3 hi1 c1 ha1 ha2 c3 c4) : False).elim
            · skip
              exact ⟨M66, _, _, _, _, _, _, _, rfl, (Ex.trans eM31 (Ex.trans eM46 (Ex.trans eM56 (Ex.trans eM62 (Ex.trans eM1_2 eM68))))), o86⟩
      · skip
        exact ⟨M44, _, _, _, _, _, _, _, rfl, (Ex.trans eM31 eM46), o50⟩
    · rintro M1_1 σ' H' eM1_1 ⟨M29, g32, g33, g34, g35, g36, g37, g38, rfl, eM31, o30⟩
      exact s_rv' o30 ev_c k (by first | (rw [(vc_law_ret1 script numbers_here_r1 verses_r2 rows_r3 hn0 hr1 hr2 hr3)]; exact rfl) | (rw [← (vc_law_ret1 script numbers_here_r1 verses_r2 rows_r3 hn0 hr1 hr2 hr3)]; exact rfl))
end
theorem all_mk {l : PySem.W.OpenLaw} {w : World} {K : PySem.W.Frag} {h : Heap} {mg : Str → Option Value} {fa : Addr} (X : K.In h) (G : h.Ns mainGlobals mg) (hfa : mg "law" = some (.ref fa))
    {t_LETTERS : Tok}
    {t_MOST_SIGNS : Tok}
    {t_MOST_SYLLABLES : Tok}
    {t_MOST_VERSES : Tok}
    {C_BadBook : Addr}
    {C_BadVerse : Addr}
    {nm_BadVerse qq_BadVerse : Str} {N_BadVerse : Addr} {bs_BadVerse bm_BadVerse : List Value} {sn_BadVerse : List Str} {sub_BadVerse : List Value} {ab_BadVerse : Bool} {col_BadVerse : Option Bool} {dd_BadVerse : Option Addr} {m0_BadVerse m1_BadVerse m2_BadVerse m3_BadVerse m5_BadVerse : Option Value}
    {f_BadVersed__initd_ : Addr} {od_BadVersed__initd_ an_BadVersed__initd_ : Option Addr} {sl_BadVersed__initd_ : Array (Option Value)} {oc_BadVersed__initd_ kV_BadVersed__initd_ dc_BadVersed__initd_ pm_BadVersed__initd_ cd_BadVersed__initd_ ct_BadVersed__initd_ : Value}
    {C_Alike : Addr}
    {nm_Alike qq_Alike : Str} {N_Alike : Addr} {bs_Alike bm_Alike : List Value} {sn_Alike : List Str} {sub_Alike : List Value} {ab_Alike : Bool} {col_Alike : Option Bool} {dd_Alike : Option Addr} {m0_Alike m1_Alike m2_Alike m3_Alike m5_Alike : Option Value}
    {f_Aliked__initd_ : Addr} {od_Aliked__initd_ an_Aliked__initd_ : Option Addr} {sl_Aliked__initd_ : Array (Option Value)} {oc_Aliked__initd_ kV_Aliked__initd_ dc_Aliked__initd_ pm_Aliked__initd_ cd_Aliked__initd_ ct_Aliked__initd_ : Value}
    {C_NoVerse : Addr}
    {C_NoPart : Addr}
    {C_ReadAlready : Addr}
    {C_Book : Addr}
    {f__law_numbers : Addr} {od__law_numbers an__law_numbers : Option Addr} {sl__law_numbers : Array (Option Value)} {oc__law_numbers kV__law_numbers dc__law_numbers pm__law_numbers cd__law_numbers ct__law_numbers : Value}
    {f__law_same : Addr} {od__law_same an__law_same : Option Addr} {sl__law_same : Array (Option Value)} {oc__law_same kV__law_same dc__law_same pm__law_same cd__law_same ct__law_same : Value}
    {f_is_syllable : Addr} {od_is_syllable an_is_syllable : Option Addr} {sl_is_syllable : Array (Option Value)} {oc_is_syllable kV_is_syllable dc_is_syllable pm_is_syllable cd_is_syllable ct_is_syllable : Value}
    {f_is_verse : Addr} {od_is_verse an_is_verse : Option Addr} {sl_is_verse : Array (Option Value)} {oc_is_verse kV_is_verse dc_is_verse pm_is_verse cd_is_verse ct_is_verse : Value}
    {f_begins : Addr} {od_begins an_begins : Option Addr} {sl_begins : Array (Option Value)} {oc_begins kV_begins dc_begins pm_begins cd_begins ct_begins : Value}
    {f_alike : Addr} {od_alike an_alike : Option Addr} {sl_alike : Array (Option Value)} {oc_alike kV_alike dc_alike pm_alike cd_alike ct_alike : Value}
    {f_need_verses : Addr} {od_need_verses an_need_verses : Option Addr} {sl_need_verses : Array (Option Value)} {oc_need_verses kV_need_verses dc_need_verses pm_need_verses cd_need_verses ct_need_verses : Value}
    {f_Bookd__initd_ : Addr} {od_Bookd__initd_ an_Bookd__initd_ : Option Addr} {sl_Bookd__initd_ : Array (Option Value)} {oc_Bookd__initd_ kV_Bookd__initd_ dc_Bookd__initd_ pm_Bookd__initd_ cd_Bookd__initd_ ct_Bookd__initd_ : Value}
    {f_Book_many : Addr} {od_Book_many an_Book_many : Option Addr} {sl_Book_many : Array (Option Value)} {oc_Book_many kV_Book_many dc_Book_many pm_Book_many cd_Book_many ct_Book_many : Value}
    {f_Book_verse : Addr} {od_Book_verse an_Book_verse : Option Addr} {sl_Book_verse : Array (Option Value)} {oc_Book_verse kV_Book_verse dc_Book_verse pm_Book_verse cd_Book_verse ct_Book_verse : Value}
    {f_Book_verses : Addr} {od_Book_verses an_Book_verses : Option Addr} {sl_Book_verses : Array (Option Value)} {oc_Book_verses kV_Book_verses dc_Book_verses pm_Book_verses cd_Book_verses ct_Book_verses : Value}
    {f__law_sound : Addr} {od__law_sound an__law_sound : Option Addr} {sl__law_sound : Array (Option Value)} {oc__law_sound kV__law_sound dc__law_sound pm__law_sound cd__law_sound ct__law_sound : Value}
    {f__law_pool : Addr} {od__law_pool an__law_pool : Option Addr} {sl__law_pool : Array (Option Value)} {oc__law_pool kV__law_pool dc__law_pool pm__law_pool cd__law_pool ct__law_pool : Value}
    {f__law_alike : Addr} {od__law_alike an__law_alike : Option Addr} {sl__law_alike : Array (Option Value)} {oc__law_alike kV__law_alike dc__law_alike pm__law_alike cd__law_alike ct__law_alike : Value}
    {f__law_verse : Addr} {od__law_verse an__law_verse : Option Addr} {sl__law_verse : Array (Option Value)} {oc__law_verse kV__law_verse dc__law_verse pm__law_verse cd__law_verse ct__law_verse : Value}
    {f__law_wide : Addr} {od__law_wide an__law_wide : Option Addr} {sl__law_wide : Array (Option Value)} {oc__law_wide kV__law_wide dc__law_wide pm__law_wide cd__law_wide ct__law_wide : Value}
    {f__law_book : Addr} {od__law_book an__law_book : Option Addr} {sl__law_book : Array (Option Value)} {oc__law_book kV__law_book dc__law_book pm__law_book cd__law_book ct__law_book : Value}
    {f_need_numbers : Addr} {od_need_numbers an_need_numbers : Option Addr} {sl_need_numbers : Array (Option Value)} {oc_need_numbers kV_need_numbers dc_need_numbers pm_need_numbers cd_need_numbers ct_need_numbers : Value}
    {f_left : Addr} {od_left an_left : Option Addr} {sl_left : Array (Option Value)} {oc_left kV_left dc_left pm_left cd_left ct_left : Value}
    {f__law_unread : Addr} {od__law_unread an__law_unread : Option Addr} {sl__law_unread : Array (Option Value)} {oc__law_unread kV__law_unread dc__law_unread pm__law_unread cd__law_unread ct__law_unread : Value}
    {f__law_copy : Addr} {od__law_copy an__law_copy : Option Addr} {sl__law_copy : Array (Option Value)} {oc__law_copy kV__law_copy dc__law_copy pm__law_copy cd__law_copy ct__law_copy : Value}
    {f_common : Addr} {od_common an_common : Option Addr} {sl_common : Array (Option Value)} {oc_common kV_common dc_common pm_common cd_common ct_common : Value}
    {f_sizes : Addr} {od_sizes an_sizes : Option Addr} {sl_sizes : Array (Option Value)} {oc_sizes kV_sizes dc_sizes pm_sizes cd_sizes ct_sizes : Value}
    {f__law_share : Addr} {od__law_share an__law_share : Option Addr} {sl__law_share : Array (Option Value)} {oc__law_share kV__law_share dc__law_share pm__law_share cd__law_share ct__law_share : Value}
    {f_measure : Addr} {od_measure an_measure : Option Addr} {sl_measure : Array (Option Value)} {oc_measure kV_measure dc_measure pm_measure cd_measure ct_measure : Value}
    {f_part : Addr} {od_part an_part : Option Addr} {sl_part : Array (Option Value)} {oc_part kV_part dc_part pm_part cd_part ct_part : Value}
    {f_plus : Addr} {od_plus an_plus : Option Addr} {sl_plus : Array (Option Value)} {oc_plus kV_plus dc_plus pm_plus cd_plus ct_plus : Value}
    {f__law_measure : Addr} {od__law_measure an__law_measure : Option Addr} {sl__law_measure : Array (Option Value)} {oc__law_measure kV__law_measure dc__law_measure pm__law_measure cd__law_measure ct__law_measure : Value}
    {f__law_part : Addr} {od__law_part an__law_part : Option Addr} {sl__law_part : Array (Option Value)} {oc__law_part kV__law_part dc__law_part pm__law_part cd__law_part ct__law_part : Value}
    {f__law_sum : Addr} {od__law_sum an__law_sum : Option Addr} {sl__law_sum : Array (Option Value)} {oc__law_sum kV__law_sum dc__law_sum pm__law_sum cd__law_sum ct__law_sum : Value}
    {f_need_unread : Addr} {od_need_unread an_need_unread : Option Addr} {sl_need_unread : Array (Option Value)} {oc_need_unread kV_need_unread dc_need_unread pm_need_unread cd_need_unread ct_need_unread : Value}
    {f_last_of : Addr} {od_last_of an_last_of : Option Addr} {sl_last_of : Array (Option Value)} {oc_last_of kV_last_of dc_last_of pm_last_of cd_last_of ct_last_of : Value}
    {f_mean_of : Addr} {od_mean_of an_mean_of : Option Addr} {sl_mean_of : Array (Option Value)} {oc_mean_of kV_mean_of dc_mean_of pm_mean_of cd_mean_of ct_mean_of : Value}
    {f_all_shared : Addr} {od_all_shared an_all_shared : Option Addr} {sl_all_shared : Array (Option Value)} {oc_all_shared kV_all_shared dc_all_shared pm_all_shared cd_all_shared ct_all_shared : Value}
    {f_decided_by : Addr} {od_decided_by an_decided_by : Option Addr} {sl_decided_by : Array (Option Value)} {oc_decided_by kV_decided_by dc_decided_by pm_decided_by cd_decided_by ct_decided_by : Value}
    {f_mean_decided : Addr} {od_mean_decided an_mean_decided : Option Addr} {sl_mean_decided : Array (Option Value)} {oc_mean_decided kV_mean_decided dc_mean_decided pm_mean_decided cd_mean_decided ct_mean_decided : Value}
    {f__law_chance : Addr} {od__law_chance an__law_chance : Option Addr} {sl__law_chance : Array (Option Value)} {oc__law_chance kV__law_chance dc__law_chance pm__law_chance cd__law_chance ct__law_chance : Value}
    {f__law_mean : Addr} {od__law_mean an__law_mean : Option Addr} {sl__law_mean : Array (Option Value)} {oc__law_mean kV__law_mean dc__law_mean pm__law_mean cd__law_mean ct__law_mean : Value}
    {f__law_once : Addr} {od__law_once an__law_once : Option Addr} {sl__law_once : Array (Option Value)} {oc__law_once kV__law_once dc__law_once pm__law_once cd__law_once ct__law_once : Value}
    {f_law : Addr} {od_law an_law : Option Addr} {sl_law : Array (Option Value)} {oc_law kV_law dc_law pm_law cd_law ct_law : Value}
    (z_abs : PySem.W.nsIn K mainGlobals "abs" = some none)
    (z_all : PySem.W.nsIn K mainGlobals "all" = some none)
    (z_any : PySem.W.nsIn K mainGlobals "any" = some none)
    (z_dict : PySem.W.nsIn K mainGlobals "dict" = some none)
    (z_enumerate : PySem.W.nsIn K mainGlobals "enumerate" = some none)
    (z_int : PySem.W.nsIn K mainGlobals "int" = some none)
    (z_isinstance : PySem.W.nsIn K mainGlobals "isinstance" = some none)
    (z_len : PySem.W.nsIn K mainGlobals "len" = some none)
    (z_list : PySem.W.nsIn K mainGlobals "list" = some none)
    (z_max : PySem.W.nsIn K mainGlobals "max" = some none)
    (z_min : PySem.W.nsIn K mainGlobals "min" = some none)
    (z_range : PySem.W.nsIn K mainGlobals "range" = some none)
    (z_sorted : PySem.W.nsIn K mainGlobals "sorted" = some none)
    (z_str : PySem.W.nsIn K mainGlobals "str" = some none)
    (z_sum : PySem.W.nsIn K mainGlobals "sum" = some none)
    (z_tuple : PySem.W.nsIn K mainGlobals "tuple" = some none)
    (z_zip : PySem.W.nsIn K mainGlobals "zip" = some none)
    (z_bool : PySem.W.nsIn K mainGlobals "bool" = some none)
    (z_set : PySem.W.nsIn K mainGlobals "set" = some none)
    (nn_LETTERS : PySem.W.nsIn K mainGlobals "LETTERS" = some (some (.str "abcdefghijklmnopqrstuvwxyz" t_LETTERS)))
    (nn_MOST_SIGNS : PySem.W.nsIn K mainGlobals "MOST_SIGNS" = some (some (.int 3 t_MOST_SIGNS)))
    (nn_MOST_SYLLABLES : PySem.W.nsIn K mainGlobals "MOST_SYLLABLES" = some (some (.int 8 t_MOST_SYLLABLES)))
    (nn_MOST_VERSES : PySem.W.nsIn K mainGlobals "MOST_VERSES" = some (some (.int 40 t_MOST_VERSES)))
    (g_BadBook : PySem.W.nsIn K mainGlobals "BadBook" = some (some (.ref C_BadBook)))
    (kp_BadBook : PySem.W.keepIn K (.ref C_BadBook) = true)
    (sb_BadBook : PySem.W.subIn K (.ref C_BadBook) (.type "BaseException") = some true)
    (ty_BadBook : PySem.W.typeIn K (.ref C_BadBook) = some (.type "type"))
    (ic_BadBook : PySem.W.isClsIn K C_BadBook = true)
    (xi_BadBook : PySem.W.excIn K C_BadBook [.type "ValueError", .type "Exception", .type "BaseException", .type "object"] "ValueError.__new__" = true)
    (g_BadVerse : PySem.W.nsIn K mainGlobals "BadVerse" = some (some (.ref C_BadVerse)))
    (kp_BadVerse : PySem.W.keepIn K (.ref C_BadVerse) = true)
    (sb_BadVerse : PySem.W.subIn K (.ref C_BadVerse) (.type "BaseException") = some true)
    (ty_BadVerse : PySem.W.typeIn K (.ref C_BadVerse) = some (.type "type"))
    (ic_BadVerse : PySem.W.isClsIn K C_BadVerse = true)
    (xL_BadVerse : K.lookup C_BadVerse = some (PySem.excClassObj nm_BadVerse qq_BadVerse C_BadVerse N_BadVerse bs_BadVerse bm_BadVerse true sn_BadVerse sub_BadVerse ab_BadVerse col_BadVerse dd_BadVerse m0_BadVerse m1_BadVerse m2_BadVerse m3_BadVerse m5_BadVerse "ValueError.__new__"))
    (rf_BadVerse : PySem.HandSPX.refsVE bm_BadVerse = true)
    (sa_BadVerse : PySem.W.findIn K (.ref C_BadVerse) "__setattr__" = some (some (.builtin "object.__setattr__")))
    (a_BadVersed__initd_ : PySem.W.findIn K (.ref C_BadVerse) "__init__" = some (some (.ref f_BadVersed__initd_)))
    (l_BadVersed__initd_ : K.lookup f_BadVersed__initd_ = some ⟨oc_BadVersed__initd_, od_BadVersed__initd_, .func (PySem.W.fnOf "__init__" "BadVerse.__init__" (defArgs s_BadVersed__initd_) (defBody s_BadVersed__initd_) (defScope s_BadVersed__initd_) .none kV_BadVersed__initd_ dc_BadVersed__initd_ pm_BadVersed__initd_ an_BadVersed__initd_ cd_BadVersed__initd_ ct_BadVersed__initd_), sl_BadVersed__initd_⟩)
    (c_BadVersed__initd_ : PySem.W.codeIn K cd_BadVersed__initd_ "BadVerse.__init__" = true)
    (k_BadVersed__initd_ : PySem.W.keepIn K (.ref f_BadVersed__initd_) = true)
    (tf_BadVerse : PySem.W.typeIn K (.ref f_BadVersed__initd_) = some (.type "function"))
    (na_BadVerse_row : PySem.W.findIn K (.ref C_BadVerse) "row" = some none)
    (g_Alike : PySem.W.nsIn K mainGlobals "Alike" = some (some (.ref C_Alike)))
    (kp_Alike : PySem.W.keepIn K (.ref C_Alike) = true)
    (sb_Alike : PySem.W.subIn K (.ref C_Alike) (.type "BaseException") = some true)
    (ty_Alike : PySem.W.typeIn K (.ref C_Alike) = some (.type "type"))
    (ic_Alike : PySem.W.isClsIn K C_Alike = true)
    (xL_Alike : K.lookup C_Alike = some (PySem.excClassObj nm_Alike qq_Alike C_Alike N_Alike bs_Alike bm_Alike true sn_Alike sub_Alike ab_Alike col_Alike dd_Alike m0_Alike m1_Alike m2_Alike m3_Alike m5_Alike "ValueError.__new__"))
    (rf_Alike : PySem.HandSPX.refsVE bm_Alike = true)
    (sa_Alike : PySem.W.findIn K (.ref C_Alike) "__setattr__" = some (some (.builtin "object.__setattr__")))
    (a_Aliked__initd_ : PySem.W.findIn K (.ref C_Alike) "__init__" = some (some (.ref f_Aliked__initd_)))
    (l_Aliked__initd_ : K.lookup f_Aliked__initd_ = some ⟨oc_Aliked__initd_, od_Aliked__initd_, .func (PySem.W.fnOf "__init__" "Alike.__init__" (defArgs s_Aliked__initd_) (defBody s_Aliked__initd_) (defScope s_Aliked__initd_) .none kV_Aliked__initd_ dc_Aliked__initd_ pm_Aliked__initd_ an_Aliked__initd_ cd_Aliked__initd_ ct_Aliked__initd_), sl_Aliked__initd_⟩)
    (c_Aliked__initd_ : PySem.W.codeIn K cd_Aliked__initd_ "Alike.__init__" = true)
    (k_Aliked__initd_ : PySem.W.keepIn K (.ref f_Aliked__initd_) = true)
    (tf_Alike : PySem.W.typeIn K (.ref f_Aliked__initd_) = some (.type "function"))
    (na_Alike_one : PySem.W.findIn K (.ref C_Alike) "one" = some none)
    (na_Alike_other : PySem.W.findIn K (.ref C_Alike) "other" = some none)
    (g_NoVerse : PySem.W.nsIn K mainGlobals "NoVerse" = some (some (.ref C_NoVerse)))
    (kp_NoVerse : PySem.W.keepIn K (.ref C_NoVerse) = true)
    (sb_NoVerse : PySem.W.subIn K (.ref C_NoVerse) (.type "BaseException") = some true)
    (ty_NoVerse : PySem.W.typeIn K (.ref C_NoVerse) = some (.type "type"))
    (ic_NoVerse : PySem.W.isClsIn K C_NoVerse = true)
    (xi_NoVerse : PySem.W.excIn K C_NoVerse [.type "ValueError", .type "Exception", .type "BaseException", .type "object"] "ValueError.__new__" = true)
    (g_NoPart : PySem.W.nsIn K mainGlobals "NoPart" = some (some (.ref C_NoPart)))
    (kp_NoPart : PySem.W.keepIn K (.ref C_NoPart) = true)
    (sb_NoPart : PySem.W.subIn K (.ref C_NoPart) (.type "BaseException") = some true)
    (ty_NoPart : PySem.W.typeIn K (.ref C_NoPart) = some (.type "type"))
    (ic_NoPart : PySem.W.isClsIn K C_NoPart = true)
    (xi_NoPart : PySem.W.excIn K C_NoPart [.type "ValueError", .type "Exception", .type "BaseException", .type "object"] "ValueError.__new__" = true)
    (g_ReadAlready : PySem.W.nsIn K mainGlobals "ReadAlready" = some (some (.ref C_ReadAlready)))
    (kp_ReadAlready : PySem.W.keepIn K (.ref C_ReadAlready) = true)
    (sb_ReadAlready : PySem.W.subIn K (.ref C_ReadAlready) (.type "BaseException") = some true)
    (ty_ReadAlready : PySem.W.typeIn K (.ref C_ReadAlready) = some (.type "type"))
    (ic_ReadAlready : PySem.W.isClsIn K C_ReadAlready = true)
    (xi_ReadAlready : PySem.W.excIn K C_ReadAlready [.type "ValueError", .type "Exception", .type "BaseException", .type "object"] "ValueError.__new__" = true)
    (g_Book : PySem.W.nsIn K mainGlobals "Book" = some (some (.ref C_Book)))
    (pg_Book : PySem.W.plainGet K C_Book Str.empty = true)
    (hd_Book : PySem.W.hasDictIn K C_Book = true)
    (po_Book : PySem.W.plainOver K C_Book = true)
    (sa_Book : PySem.W.findIn K (.ref C_Book) "__setattr__" = some (some (.builtin "object.__setattr__")))
    (mk_Book : PySem.W.makesIn K C_Book = true)
    (kc_Book : PySem.W.keepIn K (.ref C_Book) = true)
    (na_Book_lines : PySem.W.findIn K (.ref C_Book) "lines" = some none)
    (a__law_numbers : PySem.W.nsIn K mainGlobals "_law_numbers" = some (some (.ref f__law_numbers)))
    (l__law_numbers : K.lookup f__law_numbers = some ⟨oc__law_numbers, od__law_numbers, .func (PySem.W.fnOf "_law_numbers" "_law_numbers" (defArgs s__law_numbers) (defBody s__law_numbers) (defScope s__law_numbers) .none kV__law_numbers dc__law_numbers pm__law_numbers an__law_numbers cd__law_numbers ct__law_numbers), sl__law_numbers⟩)
    (c__law_numbers : PySem.W.codeIn K cd__law_numbers "_law_numbers" = true)
    (k__law_numbers : PySem.W.keepIn K (.ref f__law_numbers) = true)
    (a__law_same : PySem.W.nsIn K mainGlobals "_law_same" = some (some (.ref f__law_same)))
    (l__law_same : K.lookup f__law_same = some ⟨oc__law_same, od__law_same, .func (PySem.W.fnOf "_law_same" "_law_same" (defArgs s__law_same) (defBody s__law_same) (defScope s__law_same) .none kV__law_same dc__law_same pm__law_same an__law_same cd__law_same ct__law_same), sl__law_same⟩)
    (c__law_same : PySem.W.codeIn K cd__law_same "_law_same" = true)
    (k__law_same : PySem.W.keepIn K (.ref f__law_same) = true)
    (a_is_syllable : PySem.W.nsIn K mainGlobals "is_syllable" = some (some (.ref f_is_syllable)))
    (l_is_syllable : K.lookup f_is_syllable = some ⟨oc_is_syllable, od_is_syllable, .func (PySem.W.fnOf "is_syllable" "is_syllable" (defArgs s_is_syllable) (defBody s_is_syllable) (defScope s_is_syllable) .none kV_is_syllable dc_is_syllable pm_is_syllable an_is_syllable cd_is_syllable ct_is_syllable), sl_is_syllable⟩)
    (c_is_syllable : PySem.W.codeIn K cd_is_syllable "is_syllable" = true)
    (k_is_syllable : PySem.W.keepIn K (.ref f_is_syllable) = true)
    (a_is_verse : PySem.W.nsIn K mainGlobals "is_verse" = some (some (.ref f_is_verse)))
    (l_is_verse : K.lookup f_is_verse = some ⟨oc_is_verse, od_is_verse, .func (PySem.W.fnOf "is_verse" "is_verse" (defArgs s_is_verse) (defBody s_is_verse) (defScope s_is_verse) .none kV_is_verse dc_is_verse pm_is_verse an_is_verse cd_is_verse ct_is_verse), sl_is_verse⟩)
    (c_is_verse : PySem.W.codeIn K cd_is_verse "is_verse" = true)
    (k_is_verse : PySem.W.keepIn K (.ref f_is_verse) = true)
    (a_begins : PySem.W.nsIn K mainGlobals "begins" = some (some (.ref f_begins)))
    (l_begins : K.lookup f_begins = some ⟨oc_begins, od_begins, .func (PySem.W.fnOf "begins" "begins" (defArgs s_begins) (defBody s_begins) (defScope s_begins) .none kV_begins dc_begins pm_begins an_begins cd_begins ct_begins), sl_begins⟩)
    (c_begins : PySem.W.codeIn K cd_begins "begins" = true)
    (k_begins : PySem.W.keepIn K (.ref f_begins) = true)
    (a_alike : PySem.W.nsIn K mainGlobals "alike" = some (some (.ref f_alike)))
    (l_alike : K.lookup f_alike = some ⟨oc_alike, od_alike, .func (PySem.W.fnOf "alike" "alike" (defArgs s_alike) (defBody s_alike) (defScope s_alike) .none kV_alike dc_alike pm_alike an_alike cd_alike ct_alike), sl_alike⟩)
    (c_alike : PySem.W.codeIn K cd_alike "alike" = true)
    (k_alike : PySem.W.keepIn K (.ref f_alike) = true)
    (a_need_verses : PySem.W.nsIn K mainGlobals "need_verses" = some (some (.ref f_need_verses)))
    (l_need_verses : K.lookup f_need_verses = some ⟨oc_need_verses, od_need_verses, .func (PySem.W.fnOf "need_verses" "need_verses" (defArgs s_need_verses) (defBody s_need_verses) (defScope s_need_verses) .none kV_need_verses dc_need_verses pm_need_verses an_need_verses cd_need_verses ct_need_verses), sl_need_verses⟩)
    (c_need_verses : PySem.W.codeIn K cd_need_verses "need_verses" = true)
    (k_need_verses : PySem.W.keepIn K (.ref f_need_verses) = true)
    (a_Bookd__initd_ : PySem.W.findIn K (.ref C_Book) "__init__" = some (some (.ref f_Bookd__initd_)))
    (l_Bookd__initd_ : K.lookup f_Bookd__initd_ = some ⟨oc_Bookd__initd_, od_Bookd__initd_, .func (PySem.W.fnOf "__init__" "Book.__init__" (defArgs s_Bookd__initd_) (defBody s_Bookd__initd_) (defScope s_Bookd__initd_) .none kV_Bookd__initd_ dc_Bookd__initd_ pm_Bookd__initd_ an_Bookd__initd_ cd_Bookd__initd_ ct_Bookd__initd_), sl_Bookd__initd_⟩)
    (c_Bookd__initd_ : PySem.W.codeIn K cd_Bookd__initd_ "Book.__init__" = true)
    (k_Bookd__initd_ : PySem.W.keepIn K (.ref f_Bookd__initd_) = true)
    (i_Bookd__initd_ : PySem.W.isFn K (.ref f_Bookd__initd_) = true)
    (a_Book_many : PySem.W.findIn K (.ref C_Book) "many" = some (some (.ref f_Book_many)))
    (l_Book_many : K.lookup f_Book_many = some ⟨oc_Book_many, od_Book_many, .func (PySem.W.fnOf "many" "Book.many" (defArgs s_Book_many) (defBody s_Book_many) (defScope s_Book_many) .none kV_Book_many dc_Book_many pm_Book_many an_Book_many cd_Book_many ct_Book_many), sl_Book_many⟩)
    (c_Book_many : PySem.W.codeIn K cd_Book_many "Book.many" = true)
    (k_Book_many : PySem.W.keepIn K (.ref f_Book_many) = true)
    (i_Book_many : PySem.W.isFn K (.ref f_Book_many) = true)
    (a_Book_verse : PySem.W.findIn K (.ref C_Book) "verse" = some (some (.ref f_Book_verse)))
    (l_Book_verse : K.lookup f_Book_verse = some ⟨oc_Book_verse, od_Book_verse, .func (PySem.W.fnOf "verse" "Book.verse" (defArgs s_Book_verse) (defBody s_Book_verse) (defScope s_Book_verse) .none kV_Book_verse dc_Book_verse pm_Book_verse an_Book_verse cd_Book_verse ct_Book_verse), sl_Book_verse⟩)
    (c_Book_verse : PySem.W.codeIn K cd_Book_verse "Book.verse" = true)
    (k_Book_verse : PySem.W.keepIn K (.ref f_Book_verse) = true)
    (i_Book_verse : PySem.W.isFn K (.ref f_Book_verse) = true)
    (a_Book_verses : PySem.W.findIn K (.ref C_Book) "verses" = some (some (.ref f_Book_verses)))
    (l_Book_verses : K.lookup f_Book_verses = some ⟨oc_Book_verses, od_Book_verses, .func (PySem.W.fnOf "verses" "Book.verses" (defArgs s_Book_verses) (defBody s_Book_verses) (defScope s_Book_verses) .none kV_Book_verses dc_Book_verses pm_Book_verses an_Book_verses cd_Book_verses ct_Book_verses), sl_Book_verses⟩)
    (c_Book_verses : PySem.W.codeIn K cd_Book_verses "Book.verses" = true)
    (k_Book_verses : PySem.W.keepIn K (.ref f_Book_verses) = true)
    (i_Book_verses : PySem.W.isFn K (.ref f_Book_verses) = true)
    (a__law_sound : PySem.W.nsIn K mainGlobals "_law_sound" = some (some (.ref f__law_sound)))
    (l__law_sound : K.lookup f__law_sound = some ⟨oc__law_sound, od__law_sound, .func (PySem.W.fnOf "_law_sound" "_law_sound" (defArgs s__law_sound) (defBody s__law_sound) (defScope s__law_sound) .none kV__law_sound dc__law_sound pm__law_sound an__law_sound cd__law_sound ct__law_sound), sl__law_sound⟩)
    (c__law_sound : PySem.W.codeIn K cd__law_sound "_law_sound" = true)
    (k__law_sound : PySem.W.keepIn K (.ref f__law_sound) = true)
    (a__law_pool : PySem.W.nsIn K mainGlobals "_law_pool" = some (some (.ref f__law_pool)))
    (l__law_pool : K.lookup f__law_pool = some ⟨oc__law_pool, od__law_pool, .func (PySem.W.fnOf "_law_pool" "_law_pool" (defArgs s__law_pool) (defBody s__law_pool) (defScope s__law_pool) .none kV__law_pool dc__law_pool pm__law_pool an__law_pool cd__law_pool ct__law_pool), sl__law_pool⟩)
    (c__law_pool : PySem.W.codeIn K cd__law_pool "_law_pool" = true)
    (k__law_pool : PySem.W.keepIn K (.ref f__law_pool) = true)
    (a__law_alike : PySem.W.nsIn K mainGlobals "_law_alike" = some (some (.ref f__law_alike)))
    (l__law_alike : K.lookup f__law_alike = some ⟨oc__law_alike, od__law_alike, .func (PySem.W.fnOf "_law_alike" "_law_alike" (defArgs s__law_alike) (defBody s__law_alike) (defScope s__law_alike) .none kV__law_alike dc__law_alike pm__law_alike an__law_alike cd__law_alike ct__law_alike), sl__law_alike⟩)
    (c__law_alike : PySem.W.codeIn K cd__law_alike "_law_alike" = true)
    (k__law_alike : PySem.W.keepIn K (.ref f__law_alike) = true)
    (a__law_verse : PySem.W.nsIn K mainGlobals "_law_verse" = some (some (.ref f__law_verse)))
    (l__law_verse : K.lookup f__law_verse = some ⟨oc__law_verse, od__law_verse, .func (PySem.W.fnOf "_law_verse" "_law_verse" (defArgs s__law_verse) (defBody s__law_verse) (defScope s__law_verse) .none kV__law_verse dc__law_verse pm__law_verse an__law_verse cd__law_verse ct__law_verse), sl__law_verse⟩)
    (c__law_verse : PySem.W.codeIn K cd__law_verse "_law_verse" = true)
    (k__law_verse : PySem.W.keepIn K (.ref f__law_verse) = true)
    (a__law_wide : PySem.W.nsIn K mainGlobals "_law_wide" = some (some (.ref f__law_wide)))
    (l__law_wide : K.lookup f__law_wide = some ⟨oc__law_wide, od__law_wide, .func (PySem.W.fnOf "_law_wide" "_law_wide" (defArgs s__law_wide) (defBody s__law_wide) (defScope s__law_wide) .none kV__law_wide dc__law_wide pm__law_wide an__law_wide cd__law_wide ct__law_wide), sl__law_wide⟩)
    (c__law_wide : PySem.W.codeIn K cd__law_wide "_law_wide" = true)
    (k__law_wide : PySem.W.keepIn K (.ref f__law_wide) = true)
    (a__law_book : PySem.W.nsIn K mainGlobals "_law_book" = some (some (.ref f__law_book)))
    (l__law_book : K.lookup f__law_book = some ⟨oc__law_book, od__law_book, .func (PySem.W.fnOf "_law_book" "_law_book" (defArgs s__law_book) (defBody s__law_book) (defScope s__law_book) .none kV__law_book dc__law_book pm__law_book an__law_book cd__law_book ct__law_book), sl__law_book⟩)
    (c__law_book : PySem.W.codeIn K cd__law_book "_law_book" = true)
    (k__law_book : PySem.W.keepIn K (.ref f__law_book) = true)
    (a_need_numbers : PySem.W.nsIn K mainGlobals "need_numbers" = some (some (.ref f_need_numbers)))
    (l_need_numbers : K.lookup f_need_numbers = some ⟨oc_need_numbers, od_need_numbers, .func (PySem.W.fnOf "need_numbers" "need_numbers" (defArgs s_need_numbers) (defBody s_need_numbers) (defScope s_need_numbers) .none kV_need_numbers dc_need_numbers pm_need_numbers an_need_numbers cd_need_numbers ct_need_numbers), sl_need_numbers⟩)
    (c_need_numbers : PySem.W.codeIn K cd_need_numbers "need_numbers" = true)
    (k_need_numbers : PySem.W.keepIn K (.ref f_need_numbers) = true)
    (a_left : PySem.W.nsIn K mainGlobals "left" = some (some (.ref f_left)))
    (l_left : K.lookup f_left = some ⟨oc_left, od_left, .func (PySem.W.fnOf "left" "left" (defArgs s_left) (defBody s_left) (defScope s_left) .none kV_left dc_left pm_left an_left cd_left ct_left), sl_left⟩)
    (c_left : PySem.W.codeIn K cd_left "left" = true)
    (k_left : PySem.W.keepIn K (.ref f_left) = true)
    (a__law_unread : PySem.W.nsIn K mainGlobals "_law_unread" = some (some (.ref f__law_unread)))
    (l__law_unread : K.lookup f__law_unread = some ⟨oc__law_unread, od__law_unread, .func (PySem.W.fnOf "_law_unread" "_law_unread" (defArgs s__law_unread) (defBody s__law_unread) (defScope s__law_unread) .none kV__law_unread dc__law_unread pm__law_unread an__law_unread cd__law_unread ct__law_unread), sl__law_unread⟩)
    (c__law_unread : PySem.W.codeIn K cd__law_unread "_law_unread" = true)
    (k__law_unread : PySem.W.keepIn K (.ref f__law_unread) = true)
    (a__law_copy : PySem.W.nsIn K mainGlobals "_law_copy" = some (some (.ref f__law_copy)))
    (l__law_copy : K.lookup f__law_copy = some ⟨oc__law_copy, od__law_copy, .func (PySem.W.fnOf "_law_copy" "_law_copy" (defArgs s__law_copy) (defBody s__law_copy) (defScope s__law_copy) .none kV__law_copy dc__law_copy pm__law_copy an__law_copy cd__law_copy ct__law_copy), sl__law_copy⟩)
    (c__law_copy : PySem.W.codeIn K cd__law_copy "_law_copy" = true)
    (k__law_copy : PySem.W.keepIn K (.ref f__law_copy) = true)
    (a_common : PySem.W.nsIn K mainGlobals "common" = some (some (.ref f_common)))
    (l_common : K.lookup f_common = some ⟨oc_common, od_common, .func (PySem.W.fnOf "common" "common" (defArgs s_common) (defBody s_common) (defScope s_common) .none kV_common dc_common pm_common an_common cd_common ct_common), sl_common⟩)
    (c_common : PySem.W.codeIn K cd_common "common" = true)
    (k_common : PySem.W.keepIn K (.ref f_common) = true)
    (a_sizes : PySem.W.nsIn K mainGlobals "sizes" = some (some (.ref f_sizes)))
    (l_sizes : K.lookup f_sizes = some ⟨oc_sizes, od_sizes, .func (PySem.W.fnOf "sizes" "sizes" (defArgs s_sizes) (defBody s_sizes) (defScope s_sizes) .none kV_sizes dc_sizes pm_sizes an_sizes cd_sizes ct_sizes), sl_sizes⟩)
    (c_sizes : PySem.W.codeIn K cd_sizes "sizes" = true)
    (k_sizes : PySem.W.keepIn K (.ref f_sizes) = true)
    (a__law_share : PySem.W.nsIn K mainGlobals "_law_share" = some (some (.ref f__law_share)))
    (l__law_share : K.lookup f__law_share = some ⟨oc__law_share, od__law_share, .func (PySem.W.fnOf "_law_share" "_law_share" (defArgs s__law_share) (defBody s__law_share) (defScope s__law_share) .none kV__law_share dc__law_share pm__law_share an__law_share cd__law_share ct__law_share), sl__law_share⟩)
    (c__law_share : PySem.W.codeIn K cd__law_share "_law_share" = true)
    (k__law_share : PySem.W.keepIn K (.ref f__law_share) = true)
    (a_measure : PySem.W.nsIn K mainGlobals "measure" = some (some (.ref f_measure)))
    (l_measure : K.lookup f_measure = some ⟨oc_measure, od_measure, .func (PySem.W.fnOf "measure" "measure" (defArgs s_measure) (defBody s_measure) (defScope s_measure) .none kV_measure dc_measure pm_measure an_measure cd_measure ct_measure), sl_measure⟩)
    (c_measure : PySem.W.codeIn K cd_measure "measure" = true)
    (k_measure : PySem.W.keepIn K (.ref f_measure) = true)
    (a_part : PySem.W.nsIn K mainGlobals "part" = some (some (.ref f_part)))
    (l_part : K.lookup f_part = some ⟨oc_part, od_part, .func (PySem.W.fnOf "part" "part" (defArgs s_part) (defBody s_part) (defScope s_part) .none kV_part dc_part pm_part an_part cd_part ct_part), sl_part⟩)
    (c_part : PySem.W.codeIn K cd_part "part" = true)
    (k_part : PySem.W.keepIn K (.ref f_part) = true)
    (a_plus : PySem.W.nsIn K mainGlobals "plus" = some (some (.ref f_plus)))
    (l_plus : K.lookup f_plus = some ⟨oc_plus, od_plus, .func (PySem.W.fnOf "plus" "plus" (defArgs s_plus) (defBody s_plus) (defScope s_plus) .none kV_plus dc_plus pm_plus an_plus cd_plus ct_plus), sl_plus⟩)
    (c_plus : PySem.W.codeIn K cd_plus "plus" = true)
    (k_plus : PySem.W.keepIn K (.ref f_plus) = true)
    (a__law_measure : PySem.W.nsIn K mainGlobals "_law_measure" = some (some (.ref f__law_measure)))
    (l__law_measure : K.lookup f__law_measure = some ⟨oc__law_measure, od__law_measure, .func (PySem.W.fnOf "_law_measure" "_law_measure" (defArgs s__law_measure) (defBody s__law_measure) (defScope s__law_measure) .none kV__law_measure dc__law_measure pm__law_measure an__law_measure cd__law_measure ct__law_measure), sl__law_measure⟩)
    (c__law_measure : PySem.W.codeIn K cd__law_measure "_law_measure" = true)
    (k__law_measure : PySem.W.keepIn K (.ref f__law_measure) = true)
    (a__law_part : PySem.W.nsIn K mainGlobals "_law_part" = some (some (.ref f__law_part)))
    (l__law_part : K.lookup f__law_part = some ⟨oc__law_part, od__law_part, .func (PySem.W.fnOf "_law_part" "_law_part" (defArgs s__law_part) (defBody s__law_part) (defScope s__law_part) .none kV__law_part dc__law_part pm__law_part an__law_part cd__law_part ct__law_part), sl__law_part⟩)
    (c__law_part : PySem.W.codeIn K cd__law_part "_law_part" = true)
    (k__law_part : PySem.W.keepIn K (.ref f__law_part) = true)
    (a__law_sum : PySem.W.nsIn K mainGlobals "_law_sum" = some (some (.ref f__law_sum)))
    (l__law_sum : K.lookup f__law_sum = some ⟨oc__law_sum, od__law_sum, .func (PySem.W.fnOf "_law_sum" "_law_sum" (defArgs s__law_sum) (defBody s__law_sum) (defScope s__law_sum) .none kV__law_sum dc__law_sum pm__law_sum an__law_sum cd__law_sum ct__law_sum), sl__law_sum⟩)
    (c__law_sum : PySem.W.codeIn K cd__law_sum "_law_sum" = true)
    (k__law_sum : PySem.W.keepIn K (.ref f__law_sum) = true)
    (a_need_unread : PySem.W.nsIn K mainGlobals "need_unread" = some (some (.ref f_need_unread)))
    (l_need_unread : K.lookup f_need_unread = some ⟨oc_need_unread, od_need_unread, .func (PySem.W.fnOf "need_unread" "need_unread" (defArgs s_need_unread) (defBody s_need_unread) (defScope s_need_unread) .none kV_need_unread dc_need_unread pm_need_unread an_need_unread cd_need_unread ct_need_unread), sl_need_unread⟩)
    (c_need_unread : PySem.W.codeIn K cd_need_unread "need_unread" = true)
    (k_need_unread : PySem.W.keepIn K (.ref f_need_unread) = true)
    (a_last_of : PySem.W.nsIn K mainGlobals "last_of" = some (some (.ref f_last_of)))
    (l_last_of : K.lookup f_last_of = some ⟨oc_last_of, od_last_of, .func (PySem.W.fnOf "last_of" "last_of" (defArgs s_last_of) (defBody s_last_of) (defScope s_last_of) .none kV_last_of dc_last_of pm_last_of an_last_of cd_last_of ct_last_of), sl_last_of⟩)
    (c_last_of : PySem.W.codeIn K cd_last_of "last_of" = true)
    (k_last_of : PySem.W.keepIn K (.ref f_last_of) = true)
    (a_mean_of : PySem.W.nsIn K mainGlobals "mean_of" = some (some (.ref f_mean_of)))
    (l_mean_of : K.lookup f_mean_of = some ⟨oc_mean_of, od_mean_of, .func (PySem.W.fnOf "mean_of" "mean_of" (defArgs s_mean_of) (defBody s_mean_of) (defScope s_mean_of) .none kV_mean_of dc_mean_of pm_mean_of an_mean_of cd_mean_of ct_mean_of), sl_mean_of⟩)
    (c_mean_of : PySem.W.codeIn K cd_mean_of "mean_of" = true)
    (k_mean_of : PySem.W.keepIn K (.ref f_mean_of) = true)
    (a_all_shared : PySem.W.nsIn K mainGlobals "all_shared" = some (some (.ref f_all_shared)))
    (l_all_shared : K.lookup f_all_shared = some ⟨oc_all_shared, od_all_shared, .func (PySem.W.fnOf "all_shared" "all_shared" (defArgs s_all_shared) (defBody s_all_shared) (defScope s_all_shared) .none kV_all_shared dc_all_shared pm_all_shared an_all_shared cd_all_shared ct_all_shared), sl_all_shared⟩)
    (c_all_shared : PySem.W.codeIn K cd_all_shared "all_shared" = true)
    (k_all_shared : PySem.W.keepIn K (.ref f_all_shared) = true)
    (a_decided_by : PySem.W.nsIn K mainGlobals "decided_by" = some (some (.ref f_decided_by)))
    (l_decided_by : K.lookup f_decided_by = some ⟨oc_decided_by, od_decided_by, .func (PySem.W.fnOf "decided_by" "decided_by" (defArgs s_decided_by) (defBody s_decided_by) (defScope s_decided_by) .none kV_decided_by dc_decided_by pm_decided_by an_decided_by cd_decided_by ct_decided_by), sl_decided_by⟩)
    (c_decided_by : PySem.W.codeIn K cd_decided_by "decided_by" = true)
    (k_decided_by : PySem.W.keepIn K (.ref f_decided_by) = true)
    (a_mean_decided : PySem.W.nsIn K mainGlobals "mean_decided" = some (some (.ref f_mean_decided)))
    (l_mean_decided : K.lookup f_mean_decided = some ⟨oc_mean_decided, od_mean_decided, .func (PySem.W.fnOf "mean_decided" "mean_decided" (defArgs s_mean_decided) (defBody s_mean_decided) (defScope s_mean_decided) .none kV_mean_decided dc_mean_decided pm_mean_decided an_mean_decided cd_mean_decided ct_mean_decided), sl_mean_decided⟩)
    (c_mean_decided : PySem.W.codeIn K cd_mean_decided "mean_decided" = true)
    (k_mean_decided : PySem.W.keepIn K (.ref f_mean_decided) = true)
    (a__law_chance : PySem.W.nsIn K mainGlobals "_law_chance" = some (some (.ref f__law_chance)))
    (l__law_chance : K.lookup f__law_chance = some ⟨oc__law_chance, od__law_chance, .func (PySem.W.fnOf "_law_chance" "_law_chance" (defArgs s__law_chance) (defBody s__law_chance) (defScope s__law_chance) .none kV__law_chance dc__law_chance pm__law_chance an__law_chance cd__law_chance ct__law_chance), sl__law_chance⟩)
    (c__law_chance : PySem.W.codeIn K cd__law_chance "_law_chance" = true)
    (k__law_chance : PySem.W.keepIn K (.ref f__law_chance) = true)
    (a__law_mean : PySem.W.nsIn K mainGlobals "_law_mean" = some (some (.ref f__law_mean)))
    (l__law_mean : K.lookup f__law_mean = some ⟨oc__law_mean, od__law_mean, .func (PySem.W.fnOf "_law_mean" "_law_mean" (defArgs s__law_mean) (defBody s__law_mean) (defScope s__law_mean) .none kV__law_mean dc__law_mean pm__law_mean an__law_mean cd__law_mean ct__law_mean), sl__law_mean⟩)
    (c__law_mean : PySem.W.codeIn K cd__law_mean "_law_mean" = true)
    (k__law_mean : PySem.W.keepIn K (.ref f__law_mean) = true)
    (a__law_once : PySem.W.nsIn K mainGlobals "_law_once" = some (some (.ref f__law_once)))
    (l__law_once : K.lookup f__law_once = some ⟨oc__law_once, od__law_once, .func (PySem.W.fnOf "_law_once" "_law_once" (defArgs s__law_once) (defBody s__law_once) (defScope s__law_once) .none kV__law_once dc__law_once pm__law_once an__law_once cd__law_once ct__law_once), sl__law_once⟩)
    (c__law_once : PySem.W.codeIn K cd__law_once "_law_once" = true)
    (k__law_once : PySem.W.keepIn K (.ref f__law_once) = true)
    (a_law : PySem.W.nsIn K mainGlobals "law" = some (some (.ref f_law)))
    (l_law : K.lookup f_law = some ⟨oc_law, od_law, .func (PySem.W.fnOf "law" "law" (defArgs s_law) (defBody s_law) (defScope s_law) .none kV_law dc_law pm_law an_law cd_law ct_law), sl_law⟩)
    (c_law : PySem.W.codeIn K cd_law "law" = true)
    (k_law : PySem.W.keepIn K (.ref f_law) = true)
    : ∃ fd : FuncData, (∀ (s : Shared) (v : Value), BindsTo s fd ⟨[v], []⟩ [("_law_script", v)]) ∧ ∀ base : Heap, K.In base → base.Ns mainGlobals mg → FnOk l.prog w K mg base (L2.CX l.prog w) 7 fa fd ["_law_script"] (spLaw K) := by
  have B : Bt mg := ⟨PySem.W.mg_none_of X G z_abs, PySem.W.mg_none_of X G z_all, PySem.W.mg_none_of X G z_any, PySem.W.mg_none_of X G z_dict, PySem.W.mg_none_of X G z_enumerate, PySem.W.mg_none_of X G z_int, PySem.W.mg_none_of X G z_isinstance, PySem.W.mg_none_of X G z_len, PySem.W.mg_none_of X G z_list, PySem.W.mg_none_of X G z_max, PySem.W.mg_none_of X G z_min, PySem.W.mg_none_of X G z_range, PySem.W.mg_none_of X G z_sorted, PySem.W.mg_none_of X G z_str, PySem.W.mg_none_of X G z_sum, PySem.W.mg_none_of X G z_tuple, PySem.W.mg_none_of X G z_zip, PySem.W.mg_none_of X G z_bool, PySem.W.mg_none_of X G z_set⟩
  have c_LETTERS : mg "LETTERS" = some (.str "abcdefghijklmnopqrstuvwxyz" t_LETTERS) := PySem.W.mg_of X G nn_LETTERS
  have c_MOST_SIGNS : mg "MOST_SIGNS" = some (.int 3 t_MOST_SIGNS) := PySem.W.mg_of X G nn_MOST_SIGNS
  have c_MOST_SYLLABLES : mg "MOST_SYLLABLES" = some (.int 8 t_MOST_SYLLABLES) := PySem.W.mg_of X G nn_MOST_SYLLABLES
  have c_MOST_VERSES : mg "MOST_VERSES" = some (.int 40 t_MOST_VERSES) := PySem.W.mg_of X G nn_MOST_VERSES
  have X_BadBook : Xc K mg "BadBook" C_BadBook := ⟨PySem.W.mg_of X G g_BadBook, xi_BadBook, kp_BadBook, sb_BadBook, ty_BadBook⟩
  have Tx_BadVerse : L2.OexC K C_BadVerse := ⟨⟨_, _, _, _, _, _, _, _, _, _, _, _, _, _, _, xL_BadVerse, rf_BadVerse⟩, sa_BadVerse, sb_BadVerse, ty_BadVerse, kp_BadVerse⟩
  have Tx_Alike : L2.OexC K C_Alike := ⟨⟨_, _, _, _, _, _, _, _, _, _, _, _, _, _, _, xL_Alike, rf_Alike⟩, sa_Alike, sb_Alike, ty_Alike, kp_Alike⟩
  have X_NoVerse : Xc K mg "NoVerse" C_NoVerse := ⟨PySem.W.mg_of X G g_NoVerse, xi_NoVerse, kp_NoVerse, sb_NoVerse, ty_NoVerse⟩
  have X_NoPart : Xc K mg "NoPart" C_NoPart := ⟨PySem.W.mg_of X G g_NoPart, xi_NoPart, kp_NoPart, sb_NoPart, ty_NoPart⟩
  have X_ReadAlready : Xc K mg "ReadAlready" C_ReadAlready := ⟨PySem.W.mg_of X G g_ReadAlready, xi_ReadAlready, kp_ReadAlready, sb_ReadAlready, ty_ReadAlready⟩
  have T_Book : TBook K mg C_Book := ⟨⟨pg_Book, hd_Book, po_Book, sa_Book⟩, PySem.W.mg_of X G g_Book, na_Book_lines⟩
  have D__law_numbers : Df K mg "_law_numbers" s__law_numbers ["_law_script", "_law_many"] := ⟨f__law_numbers, _, PySem.W.mg_of X G a__law_numbers, fun_mk l__law_numbers c__law_numbers k__law_numbers, (fun_mk l__law_numbers c__law_numbers k__law_numbers).binds fun _ _ _ _ _ _ us hl => match us, hl with | [_, _], _ => rfl⟩
  have D__law_same : Df K mg "_law_same" s__law_same ["_law_found", "_law_due"] := ⟨f__law_same, _, PySem.W.mg_of X G a__law_same, fun_mk l__law_same c__law_same k__law_same, (fun_mk l__law_same c__law_same k__law_same).binds fun _ _ _ _ _ _ us hl => match us, hl with | [_, _], _ => rfl⟩
  have D_is_syllable : Df K mg "is_syllable" s_is_syllable ["text"] := ⟨f_is_syllable, _, PySem.W.mg_of X G a_is_syllable, fun_mk l_is_syllable c_is_syllable k_is_syllable, (fun_mk l_is_syllable c_is_syllable k_is_syllable).binds fun _ _ _ _ _ _ us hl => match us, hl with | [_], _ => rfl⟩
  have D_is_verse : Df K mg "is_verse" s_is_verse ["line"] := ⟨f_is_verse, _, PySem.W.mg_of X G a_is_verse, fun_mk l_is_verse c_is_verse k_is_verse, (fun_mk l_is_verse c_is_verse k_is_verse).binds fun _ _ _ _ _ _ us hl => match us, hl with | [_], _ => rfl⟩
  have D_begins : Df K mg "begins" s_begins ["heard", "line"] := ⟨f_begins, _, PySem.W.mg_of X G a_begins, fun_mk l_begins c_begins k_begins, (fun_mk l_begins c_begins k_begins).binds fun _ _ _ _ _ _ us hl => match us, hl with | [_, _], _ => rfl⟩
  have D_alike : Df K mg "alike" s_alike ["one", "other"] := ⟨f_alike, _, PySem.W.mg_of X G a_alike, fun_mk l_alike c_alike k_alike, (fun_mk l_alike c_alike k_alike).binds fun _ _ _ _ _ _ us hl => match us, hl with | [_, _], _ => rfl⟩
  have D_need_verses : Df K mg "need_verses" s_need_verses ["verses"] := ⟨f_need_verses, _, PySem.W.mg_of X G a_need_verses, fun_mk l_need_verses c_need_verses k_need_verses, (fun_mk l_need_verses c_need_verses k_need_verses).binds fun _ _ _ _ _ _ us hl => match us, hl with | [_], _ => rfl⟩
  have D_Bookd__initd_ : Dm K C_Book "__init__" "Book.__init__" s_Bookd__initd_ ["self", "verses"] := ⟨T_Book.cl, f_Bookd__initd_, _, ⟨a_Bookd__initd_, i_Bookd__initd_, k_Bookd__initd_⟩, fun_mk l_Bookd__initd_ c_Bookd__initd_ k_Bookd__initd_, (fun_mk l_Bookd__initd_ c_Bookd__initd_ k_Bookd__initd_).binds fun _ _ _ _ _ _ us hl => match us, hl with | [_, _], _ => rfl⟩
  have D_Book_many : Dm K C_Book "many" "Book.many" s_Book_many ["self"] := ⟨T_Book.cl, f_Book_many, _, ⟨a_Book_many, i_Book_many, k_Book_many⟩, fun_mk l_Book_many c_Book_many k_Book_many, (fun_mk l_Book_many c_Book_many k_Book_many).binds fun _ _ _ _ _ _ us hl => match us, hl with | [_], _ => rfl⟩
  have D_Book_verse : Dm K C_Book "verse" "Book.verse" s_Book_verse ["self", "number"] := ⟨T_Book.cl, f_Book_verse, _, ⟨a_Book_verse, i_Book_verse, k_Book_verse⟩, fun_mk l_Book_verse c_Book_verse k_Book_verse, (fun_mk l_Book_verse c_Book_verse k_Book_verse).binds fun _ _ _ _ _ _ us hl => match us, hl with | [_, _], _ => rfl⟩
  have D_Book_verses : Dm K C_Book "verses" "Book.verses" s_Book_verses ["self"] := ⟨T_Book.cl, f_Book_verses, _, ⟨a_Book_verses, i_Book_verses, k_Book_verses⟩, fun_mk l_Book_verses c_Book_verses k_Book_verses, (fun_mk l_Book_verses c_Book_verses k_Book_verses).binds fun _ _ _ _ _ _ us hl => match us, hl with | [_], _ => rfl⟩
  have D__law_sound : Df K mg "_law_sound" s__law_sound ["_law_number"] := ⟨f__law_sound, _, PySem.W.mg_of X G a__law_sound, fun_mk l__law_sound c__law_sound k__law_sound, (fun_mk l__law_sound c__law_sound k__law_sound).binds fun _ _ _ _ _ _ us hl => match us, hl with | [_], _ => rfl⟩
  have D__law_pool : Df K mg "_law_pool" s__law_pool ["_law_d"] := ⟨f__law_pool, _, PySem.W.mg_of X G a__law_pool, fun_mk l__law_pool c__law_pool k__law_pool, (fun_mk l__law_pool c__law_pool k__law_pool).binds fun _ _ _ _ _ _ us hl => match us, hl with | [_], _ => rfl⟩
  have D__law_alike : Df K mg "_law_alike" s__law_alike ["_law_one", "_law_other"] := ⟨f__law_alike, _, PySem.W.mg_of X G a__law_alike, fun_mk l__law_alike c__law_alike k__law_alike, (fun_mk l__law_alike c__law_alike k__law_alike).binds fun _ _ _ _ _ _ us hl => match us, hl with | [_, _], _ => rfl⟩
  have D__law_verse : Df K mg "_law_verse" s__law_verse ["_law_verses", "_law_pool_here", "_law_d"] := ⟨f__law_verse, _, PySem.W.mg_of X G a__law_verse, fun_mk l__law_verse c__law_verse k__law_verse, (fun_mk l__law_verse c__law_verse k__law_verse).binds fun _ _ _ _ _ _ us hl => match us, hl with | [_, _, _], _ => rfl⟩
  have D__law_wide : Df K mg "_law_wide" s__law_wide ["_law_d", "_law_size"] := ⟨f__law_wide, _, PySem.W.mg_of X G a__law_wide, fun_mk l__law_wide c__law_wide k__law_wide, (fun_mk l__law_wide c__law_wide k__law_wide).binds fun _ _ _ _ _ _ us hl => match us, hl with | [_, _], _ => rfl⟩
  have D__law_book : Df K mg "_law_book" s__law_book ["_law_d", "_law_most"] := ⟨f__law_book, _, PySem.W.mg_of X G a__law_book, fun_mk l__law_book c__law_book k__law_book, (fun_mk l__law_book c__law_book k__law_book).binds fun _ _ _ _ _ _ us hl => match us, hl with | [_, _], _ => rfl⟩
  have D_need_numbers : Df K mg "need_numbers" s_need_numbers ["book", "numbers"] := ⟨f_need_numbers, _, PySem.W.mg_of X G a_need_numbers, fun_mk l_need_numbers c_need_numbers k_need_numbers, (fun_mk l_need_numbers c_need_numbers k_need_numbers).binds fun _ _ _ _ _ _ us hl => match us, hl with | [_, _], _ => rfl⟩
  have D_left : Df K mg "left" s_left ["book", "unread"] := ⟨f_left, _, PySem.W.mg_of X G a_left, fun_mk l_left c_left k_left, (fun_mk l_left c_left k_left).binds fun _ _ _ _ _ _ us hl => match us, hl with | [_, _], _ => rfl⟩
  have D__law_unread : Df K mg "_law_unread" s__law_unread ["_law_many", "_law_d"] := ⟨f__law_unread, _, PySem.W.mg_of X G a__law_unread, fun_mk l__law_unread c__law_unread k__law_unread, (fun_mk l__law_unread c__law_unread k__law_unread).binds fun _ _ _ _ _ _ us hl => match us, hl with | [_, _], _ => rfl⟩
  have D__law_copy : Df K mg "_law_copy" s__law_copy ["_law_rows"] := ⟨f__law_copy, _, PySem.W.mg_of X G a__law_copy, fun_mk l__law_copy c__law_copy k__law_copy, (fun_mk l__law_copy c__law_copy k__law_copy).binds fun _ _ _ _ _ _ us hl => match us, hl with | [_], _ => rfl⟩
  have D_common : Df K mg "common" s_common ["one", "other"] := ⟨f_common, _, PySem.W.mg_of X G a_common, fun_mk l_common c_common k_common, (fun_mk l_common c_common k_common).binds fun _ _ _ _ _ _ us hl => match us, hl with | [_, _], _ => rfl⟩
  have D_sizes : Df K mg "sizes" s_sizes ["book", "unread", "verse"] := ⟨f_sizes, _, PySem.W.mg_of X G a_sizes, fun_mk l_sizes c_sizes k_sizes, (fun_mk l_sizes c_sizes k_sizes).binds fun _ _ _ _ _ _ us hl => match us, hl with | [_, _, _], _ => rfl⟩
  have D__law_share : Df K mg "_law_share" s__law_share ["_law_verses", "_law_one", "_law_other"] := ⟨f__law_share, _, PySem.W.mg_of X G a__law_share, fun_mk l__law_share c__law_share k__law_share, (fun_mk l__law_share c__law_share k__law_share).binds fun _ _ _ _ _ _ us hl => match us, hl with | [_, _, _], _ => rfl⟩
  have D_measure : Df K mg "measure" s_measure ["one", "other"] := ⟨f_measure, _, PySem.W.mg_of X G a_measure, fun_mk l_measure c_measure k_measure, (fun_mk l_measure c_measure k_measure).binds fun _ _ _ _ _ _ us hl => match us, hl with | [_, _], _ => rfl⟩
  have D_part : Df K mg "part" s_part ["top", "bottom"] := ⟨f_part, _, PySem.W.mg_of X G a_part, fun_mk l_part c_part k_part, (fun_mk l_part c_part k_part).binds fun _ _ _ _ _ _ us hl => match us, hl with | [_, _], _ => rfl⟩
  have D_plus : Df K mg "plus" s_plus ["one", "other"] := ⟨f_plus, _, PySem.W.mg_of X G a_plus, fun_mk l_plus c_plus k_plus, (fun_mk l_plus c_plus k_plus).binds fun _ _ _ _ _ _ us hl => match us, hl with | [_, _], _ => rfl⟩
  have D__law_measure : Df K mg "_law_measure" s__law_measure ["_law_one", "_law_other"] := ⟨f__law_measure, _, PySem.W.mg_of X G a__law_measure, fun_mk l__law_measure c__law_measure k__law_measure, (fun_mk l__law_measure c__law_measure k__law_measure).binds fun _ _ _ _ _ _ us hl => match us, hl with | [_, _], _ => rfl⟩
  have D__law_part : Df K mg "_law_part" s__law_part ["_law_top", "_law_bottom"] := ⟨f__law_part, _, PySem.W.mg_of X G a__law_part, fun_mk l__law_part c__law_part k__law_part, (fun_mk l__law_part c__law_part k__law_part).binds fun _ _ _ _ _ _ us hl => match us, hl with | [_, _], _ => rfl⟩
  have D__law_sum : Df K mg "_law_sum" s__law_sum ["_law_one", "_law_other"] := ⟨f__law_sum, _, PySem.W.mg_of X G a__law_sum, fun_mk l__law_sum c__law_sum k__law_sum, (fun_mk l__law_sum c__law_sum k__law_sum).binds fun _ _ _ _ _ _ us hl => match us, hl with | [_, _], _ => rfl⟩
  have D_need_unread : Df K mg "need_unread" s_need_unread ["book", "unread", "verse"] := ⟨f_need_unread, _, PySem.W.mg_of X G a_need_unread, fun_mk l_need_unread c_need_unread k_need_unread, (fun_mk l_need_unread c_need_unread k_need_unread).binds fun _ _ _ _ _ _ us hl => match us, hl with | [_, _, _], _ => rfl⟩
  have D_last_of : Df K mg "last_of" s_last_of ["most", "size"] := ⟨f_last_of, _, PySem.W.mg_of X G a_last_of, fun_mk l_last_of c_last_of k_last_of, (fun_mk l_last_of c_last_of k_last_of).binds fun _ _ _ _ _ _ us hl => match us, hl with | [_, _], _ => rfl⟩
  have D_mean_of : Df K mg "mean_of" s_mean_of ["most"] := ⟨f_mean_of, _, PySem.W.mg_of X G a_mean_of, fun_mk l_mean_of c_mean_of k_mean_of, (fun_mk l_mean_of c_mean_of k_mean_of).binds fun _ _ _ _ _ _ us hl => match us, hl with | [_], _ => rfl⟩
  have D_all_shared : Df K mg "all_shared" s_all_shared ["book", "unread", "verse"] := ⟨f_all_shared, _, PySem.W.mg_of X G a_all_shared, fun_mk l_all_shared c_all_shared k_all_shared, (fun_mk l_all_shared c_all_shared k_all_shared).binds fun _ _ _ _ _ _ us hl => match us, hl with | [_, _, _], _ => rfl⟩
  have D_decided_by : Df K mg "decided_by" s_decided_by ["book", "unread", "verse", "size"] := ⟨f_decided_by, _, PySem.W.mg_of X G a_decided_by, fun_mk l_decided_by c_decided_by k_decided_by, (fun_mk l_decided_by c_decided_by k_decided_by).binds fun _ _ _ _ _ _ us hl => match us, hl with | [_, _, _, _], _ => rfl⟩
  have D_mean_decided : Df K mg "mean_decided" s_mean_decided ["book", "unread", "verse"] := ⟨f_mean_decided, _, PySem.W.mg_of X G a_mean_decided, fun_mk l_mean_decided c_mean_decided k_mean_decided, (fun_mk l_mean_decided c_mean_decided k_mean_decided).binds fun _ _ _ _ _ _ us hl => match us, hl with | [_, _, _], _ => rfl⟩
  have D__law_chance : Df K mg "_law_chance" s__law_chance ["_law_verses", "_law_others", "_law_verse_here", "_law_size"] := ⟨f__law_chance, _, PySem.W.mg_of X G a__law_chance, fun_mk l__law_chance c__law_chance k__law_chance, (fun_mk l__law_chance c__law_chance k__law_chance).binds fun _ _ _ _ _ _ us hl => match us, hl with | [_, _, _, _], _ => rfl⟩
  have D__law_mean : Df K mg "_law_mean" s__law_mean ["_law_verses", "_law_others", "_law_verse_here"] := ⟨f__law_mean, _, PySem.W.mg_of X G a__law_mean, fun_mk l__law_mean c__law_mean k__law_mean, (fun_mk l__law_mean c__law_mean k__law_mean).binds fun _ _ _ _ _ _ us hl => match us, hl with | [_, _, _], _ => rfl⟩
  have D__law_once : Df K mg "_law_once" s__law_once ["_law_many", "_law_unread_here"] := ⟨f__law_once, _, PySem.W.mg_of X G a__law_once, fun_mk l__law_once c__law_once k__law_once, (fun_mk l__law_once c__law_once k__law_once).binds fun _ _ _ _ _ _ us hl => match us, hl with | [_, _], _ => rfl⟩
  have D_law : Df K mg "law" s_law ["_law_script"] := ⟨f_law, _, PySem.W.mg_of X G a_law, fun_mk l_law c_law k_law, (fun_mk l_law c_law k_law).binds fun _ _ _ _ _ _ us hl => match us, hl with | [_], _ => rfl⟩
  have e := hfa.symm.trans (PySem.W.mg_of X G a_law)
  cases e
  refine ⟨PySem.W.fnOf "law" "law" (defArgs s_law) (defBody s_law) (defScope s_law) .none kV_law dc_law pm_law an_law cd_law ct_law, fun s v => .of_eq rfl, fun base _ _ => ?_⟩
  have X_BadVerse : Xi l.prog w K mg base "BadVerse" C_BadVerse ["row"] := ⟨PySem.W.mg_of X G g_BadVerse, Tx_BadVerse, f_BadVersed__initd_, _, ["self", "row"], a_BadVersed__initd_, tf_BadVerse, (fun_mk l_BadVersed__initd_ c_BadVersed__initd_ k_BadVersed__initd_).binds fun _ _ _ _ _ _ us hl => match us, hl with | [_, _], _ => rfl, okx_BadVerse Tx_BadVerse na_BadVerse_row (fun_mk l_BadVersed__initd_ c_BadVersed__initd_ k_BadVersed__initd_)⟩
  have X_Alike : Xi l.prog w K mg base "Alike" C_Alike ["one", "other"] := ⟨PySem.W.mg_of X G g_Alike, Tx_Alike, f_Aliked__initd_, _, ["self", "one", "other"], a_Aliked__initd_, tf_Alike, (fun_mk l_Aliked__initd_ c_Aliked__initd_ k_Aliked__initd_).binds fun _ _ _ _ _ _ us hl => match us, hl with | [_, _, _], _ => rfl, okx_Alike Tx_Alike na_Alike_one na_Alike_other (fun_mk l_Aliked__initd_ c_Aliked__initd_ k_Aliked__initd_)⟩
  have O__law_numbers := ok__law_numbers (P := l.prog) (w := w) (base := base) B D__law_numbers
  have O__law_same := ok__law_same (P := l.prog) (w := w) (base := base) B D__law_same
  have O_is_syllable := ok_is_syllable (P := l.prog) (w := w) (base := base) B c_LETTERS c_MOST_SIGNS D_is_syllable
  have O_is_verse := ok_is_verse (P := l.prog) (w := w) (base := base) B c_MOST_SYLLABLES O_is_syllable D_is_verse
  have O_begins := ok_begins (P := l.prog) (w := w) (base := base) B D_begins
  have O_alike := ok_alike (P := l.prog) (w := w) (base := base) B O_begins D_alike
  have O_need_verses := ok_need_verses (P := l.prog) (w := w) (base := base) (C_BadBook := C_BadBook) (C_BadVerse := C_BadVerse) (C_Alike := C_Alike) B c_MOST_VERSES X_BadBook X_BadVerse X_Alike O_is_verse O_alike D_need_verses
  have O_Bookd__initd_ := ok_Bookd__initd_ (P := l.prog) (w := w) (base := base) (C_Book := C_Book) B T_Book O_need_verses D_Bookd__initd_
  have O_Book := O_Bookd__initd_.make (PySem.W.mg_of X G g_Book) mk_Book kc_Book
  have O_Book_many := ok_Book_many (P := l.prog) (w := w) (base := base) (C_Book := C_Book) B T_Book D_Book_many
  have O_Book_verse := ok_Book_verse (P := l.prog) (w := w) (base := base) (C_Book := C_Book) (C_NoVerse := C_NoVerse) B T_Book X_NoVerse D_Book_verse
  have O_Book_verses := ok_Book_verses (P := l.prog) (w := w) (base := base) (C_Book := C_Book) B T_Book D_Book_verses
  have O__law_sound := ok__law_sound (P := l.prog) (w := w) (base := base) B D__law_sound
  have O__law_pool := ok__law_pool (P := l.prog) (w := w) (base := base) B O__law_sound D__law_pool
  have O__law_alike := ok__law_alike (P := l.prog) (w := w) (base := base) B D__law_alike
  have O__law_verse := ok__law_verse (P := l.prog) (w := w) (base := base) B D__law_verse
  have O__law_wide := ok__law_wide (P := l.prog) (w := w) (base := base) B D__law_wide
  have O__law_book := ok__law_book (P := l.prog) (w := w) (base := base) B O__law_pool O__law_verse O__law_wide O__law_alike D__law_book
  have O_need_numbers := ok_need_numbers (P := l.prog) (w := w) (base := base) (C_Book := C_Book) (C_NoVerse := C_NoVerse) B X_NoVerse O_Book_many D_need_numbers
  have O_left := ok_left (P := l.prog) (w := w) (base := base) (C_Book := C_Book) B O_Book_many O_need_numbers D_left
  have O__law_unread := ok__law_unread (P := l.prog) (w := w) (base := base) B D__law_unread
  have O__law_copy := ok__law_copy (P := l.prog) (w := w) (base := base) B D__law_copy
  have O_common := ok_common (P := l.prog) (w := w) (base := base) B D_common
  have O_sizes := ok_sizes (P := l.prog) (w := w) (base := base) (C_Book := C_Book) B O_Book_verse O_need_numbers O_left O_common D_sizes
  have O__law_share := ok__law_share (P := l.prog) (w := w) (base := base) B D__law_share
  have O_measure := ok_measure (P := l.prog) (w := w) (base := base) B D_measure
  have O_part := ok_part (P := l.prog) (w := w) (base := base) (C_NoPart := C_NoPart) B X_NoPart O_measure D_part
  have O_plus := ok_plus (P := l.prog) (w := w) (base := base) B O_part D_plus
  have O__law_measure := ok__law_measure (P := l.prog) (w := w) (base := base) B D__law_measure
  have O__law_part := ok__law_part (P := l.prog) (w := w) (base := base) B O__law_measure D__law_part
  have O__law_sum := ok__law_sum (P := l.prog) (w := w) (base := base) B O__law_part D__law_sum
  have O_need_unread := ok_need_unread (P := l.prog) (w := w) (base := base) (C_Book := C_Book) (C_ReadAlready := C_ReadAlready) B X_ReadAlready O_need_numbers D_need_unread
  have O_last_of := ok_last_of (P := l.prog) (w := w) (base := base) B O_part D_last_of
  have O_mean_of := ok_mean_of (P := l.prog) (w := w) (base := base) B O_part O_plus D_mean_of
  have O_all_shared := ok_all_shared (P := l.prog) (w := w) (base := base) (C_Book := C_Book) B O_sizes D_all_shared
  have O_decided_by := ok_decided_by (P := l.prog) (w := w) (base := base) (C_Book := C_Book) B O_all_shared O_last_of O_need_unread D_decided_by
  have O_mean_decided := ok_mean_decided (P := l.prog) (w := w) (base := base) (C_Book := C_Book) B O_all_shared O_mean_of O_need_unread D_mean_decided
  have O__law_chance := ok__law_chance (P := l.prog) (w := w) (base := base) B O__law_share D__law_chance
  have O__law_mean := ok__law_mean (P := l.prog) (w := w) (base := base) B O__law_chance O__law_sum D__law_mean
  have O__law_once := ok__law_once (P := l.prog) (w := w) (base := base) B D__law_once
  have O_law := ok_law (P := l.prog) (w := w) (base := base) (C_Book := C_Book) B O_Book O__law_book O__law_chance O__law_copy O__law_mean O__law_numbers O__law_once O__law_same O__law_unread O_decided_by O_mean_decided D_law
  exact Ok.fn O_law (PySem.W.mg_of X G a_law) (fun_mk l_law c_law k_law)
end Kj
open PySem PySem.W PyProof.Rows
set_option maxHeartbeats 0 in
theorem PySem.Challenge.cw_kimariji_k36_chances_by_rivals_holds : PySem.Challenge.rw_kimariji_k36_chances_by_rivals.Holds := by
  w_on; o_law; k_head; (case hw => w_witness2)
  k_fill
  refine L2.walk_of (l := PySem.Challenge.rw_kimariji_k36_chances_by_rivals) (n := 63) (k := 7) (x := "_law_script") (CX := fun w => L2.CX PySem.Challenge.rw_kimariji_k36_chances_by_rivals.prog w) (sp := fun w => Kj.spLaw _) rfl (by decide) rfl ⟨rfl, by decide, by decide⟩ (fun w h Y => PySem.W.kIn_of Y) ?F (fun _ _ a ns hl _ hS => ⟨a, ns, rfl, hS, hl, fun _ => rfl⟩) (fun _ _ _ _ _ h => Kj.cx_none h)
  case F =>
    intro w mg fa h KX G hmg
    refine' Kj.all_mk KX G hmg ?z_abs ?z_all ?z_any ?z_dict ?z_enumerate ?z_int ?z_isinstance ?z_len ?z_list ?z_max ?z_min ?z_range ?z_sorted ?z_str ?z_sum ?z_tuple ?z_zip ?z_bool ?z_set ?nn_LETTERS ?nn_MOST_SIGNS ?nn_MOST_SYLLABLES ?nn_MOST_VERSES ?g_BadBook ?kp_BadBook ?sb_BadBook ?ty_BadBook ?ic_BadBook ?xi_BadBook ?g_BadVerse ?kp_BadVerse ?sb_BadVerse ?ty_BadVerse ?ic_BadVerse ?xL_BadVerse ?rf_BadVerse ?sa_BadVerse ?a_BadVersed__initd_ ?l_BadVersed__initd_ ?c_BadVersed__initd_ ?k_BadVersed__initd_ ?tf_BadVerse ?na_BadVerse_row ?g_Alike ?kp_Alike ?sb_Alike ?ty_Alike ?ic_Alike ?xL_Alike ?rf_Alike ?sa_Alike ?a_Aliked__initd_ ?l_Aliked__initd_ ?c_Aliked__initd_ ?k_Aliked__initd_ ?tf_Alike ?na_Alike_one ?na_Alike_other ?g_NoVerse ?kp_NoVerse ?sb_NoVerse ?ty_NoVerse ?ic_NoVerse ?xi_NoVerse ?g_NoPart ?kp_NoPart ?sb_NoPart ?ty_NoPart ?ic_NoPart ?xi_NoPart ?g_ReadAlready ?kp_ReadAlready ?sb_ReadAlready ?ty_ReadAlready ?ic_ReadAlready ?xi_ReadAlready ?g_Book ?pg_Book ?hd_Book ?po_Book ?sa_Book ?mk_Book ?kc_Book ?na_Book_lines ?a__law_numbers ?l__law_numbers ?c__law_numbers ?k__law_numbers ?a__law_same ?l__law_same ?c__law_same ?k__law_same ?a_is_syllable ?l_is_syllable ?c_is_syllable ?k_is_syllable ?a_is_verse ?l_is_verse ?c_is_verse ?k_is_verse ?a_begins ?l_begins ?c_begins ?k_begins ?a_alike ?l_alike ?c_alike ?k_alike ?a_need_verses ?l_need_verses ?c_need_verses ?k_need_verses ?a_Bookd__initd_ ?l_Bookd__initd_ ?c_Bookd__initd_ ?k_Bookd__initd_ ?i_Bookd__initd_ ?a_Book_many ?l_Book_many ?c_Book_many ?k_Book_many ?i_Book_many ?a_Book_verse ?l_Book_verse ?c_Book_verse ?k_Book_verse ?i_Book_verse ?a_Book_verses ?l_Book_verses ?c_Book_verses ?k_Book_verses ?i_Book_verses ?a__law_sound ?l__law_sound ?c__law_sound ?k__law_sound ?a__law_pool ?l__law_pool ?c__law_pool ?k__law_pool ?a__law_alike ?l__law_alike ?c__law_alike ?k__law_alike ?a__law_verse ?l__law_verse ?c__law_verse ?k__law_verse ?a__law_wide ?l__law_wide ?c__law_wide ?k__law_wide ?a__law_book ?l__law_book ?c__law_book ?k__law_book ?a_need_numbers ?l_need_numbers ?c_need_numbers ?k_need_numbers ?a_left ?l_left ?c_left ?k_left ?a__law_unread ?l__law_unread ?c__law_unread ?k__law_unread ?a__law_copy ?l__law_copy ?c__law_copy ?k__law_copy ?a_common ?l_common ?c_common ?k_common ?a_sizes ?l_sizes ?c_sizes ?k_sizes ?a__law_share ?l__law_share ?c__law_share ?k__law_share ?a_measure ?l_measure ?c_measure ?k_measure ?a_part ?l_part ?c_part ?k_part ?a_plus ?l_plus ?c_plus ?k_plus ?a__law_measure ?l__law_measure ?c__law_measure ?k__law_measure ?a__law_part ?l__law_part ?c__law_part ?k__law_part ?a__law_sum ?l__law_sum ?c__law_sum ?k__law_sum ?a_need_unread ?l_need_unread ?c_need_unread ?k_need_unread ?a_last_of ?l_last_of ?c_last_of ?k_last_of ?a_mean_of ?l_mean_of ?c_mean_of ?k_mean_of ?a_all_shared ?l_all_shared ?c_all_shared ?k_all_shared ?a_decided_by ?l_decided_by ?c_decided_by ?k_decided_by ?a_mean_decided ?l_mean_decided ?c_mean_decided ?k_mean_decided ?a__law_chance ?l__law_chance ?c__law_chance ?k__law_chance ?a__law_mean ?l__law_mean ?c__law_mean ?k__law_mean ?a__law_once ?l__law_once ?c__law_once ?k__law_once ?a_law ?l_law ?c_law ?k_law
    (case z_abs => k_is)
    (case z_all => k_is)
    (case z_any => k_is)
    (case z_dict => k_is)
    (case z_enumerate => k_is)
    (case z_int => k_is)
    (case z_isinstance => k_is)
    (case z_len => k_is)
    (case z_list => k_is)
    (case z_max => k_is)
    (case z_min => k_is)
    (case z_range => k_is)
    (case z_sorted => k_is)
    (case z_str => k_is)
    (case z_sum => k_is)
    (case z_tuple => k_is)
    (case z_zip => k_is)
    (case z_bool => k_is)
    (case z_set => k_is)
    (case nn_LETTERS => k_is)
    (case nn_MOST_SIGNS => k_is)
    (case nn_MOST_SYLLABLES => k_is)
    (case nn_MOST_VERSES => k_is)
    (case g_BadBook => k_is)
    (case kp_BadBook => k_is)
    (case sb_BadBook => k_is)
    (case ty_BadBook => k_is)
    (case ic_BadBook => k_is)
    (case xi_BadBook => k_exc)
    (case g_BadVerse => k_is)
    (case kp_BadVerse => k_is)
    (case sb_BadVerse => k_is)
    (case ty_BadVerse => k_is)
    (case ic_BadVerse => k_is)
    (case xL_BadVerse => k_is)
    (case rf_BadVerse => first | rfl | decide +kernel | k_is)
    (case sa_BadVerse => k_is)
    (case a_BadVersed__initd_ => k_is)
    (case l_BadVersed__initd_ => k_is)
    (case c_BadVersed__initd_ => k_is)
    (case k_BadVersed__initd_ => k_is)
    (case tf_BadVerse => k_is)
    (case na_BadVerse_row => k_is)
    (case g_Alike => k_is)
    (case kp_Alike => k_is)
    (case sb_Alike => k_is)
    (case ty_Alike => k_is)
    (case ic_Alike => k_is)
    (case xL_Alike => k_is)
    (case rf_Alike => first | rfl | decide +kernel | k_is)
    (case sa_Alike => k_is)
    (case a_Aliked__initd_ => k_is)
    (case l_Aliked__initd_ => k_is)
    (case c_Aliked__initd_ => k_is)
    (case k_Aliked__initd_ => k_is)
    (case tf_Alike => k_is)
    (case na_Alike_one => k_is)
    (case na_Alike_other => k_is)
    (case g_NoVerse => k_is)
    (case kp_NoVerse => k_is)
    (case sb_NoVerse => k_is)
    (case ty_NoVerse => k_is)
    (case ic_NoVerse => k_is)
    (case xi_NoVerse => k_exc)
    (case g_NoPart => k_is)
    (case kp_NoPart => k_is)
    (case sb_NoPart => k_is)
    (case ty_NoPart => k_is)
    (case ic_NoPart => k_is)
    (case xi_NoPart => k_exc)
    (case g_ReadAlready => k_is)
    (case kp_ReadAlready => k_is)
    (case sb_ReadAlready => k_is)
    (case ty_ReadAlready => k_is)
    (case ic_ReadAlready => k_is)
    (case xi_ReadAlready => k_exc)
    (case g_Book => k_is)
    (case pg_Book => k_is)
    (case hd_Book => k_is)
    (case po_Book => k_is)
    (case sa_Book => k_is)
    (case mk_Book => k_is)
    (case kc_Book => k_is)
    (case na_Book_lines => k_is)
    (case a__law_numbers => k_is)
    (case l__law_numbers => k_is)
    (case c__law_numbers => k_is)
    (case k__law_numbers => k_is)
    (case a__law_same => k_is)
    (case l__law_same => k_is)
    (case c__law_same => k_is)
    (case k__law_same => k_is)
    (case a_is_syllable => k_is)
    (case l_is_syllable => k_is)
    (case c_is_syllable => k_is)
    (case k_is_syllable => k_is)
    (case a_is_verse => k_is)
    (case l_is_verse => k_is)
    (case c_is_verse => k_is)
    (case k_is_verse => k_is)
    (case a_begins => k_is)
    (case l_begins => k_is)
    (case c_begins => k_is)
    (case k_begins => k_is)
    (case a_alike => k_is)
    (case l_alike => k_is)
    (case c_alike => k_is)
    (case k_alike => k_is)
    (case a_need_verses => k_is)
    (case l_need_verses => k_is)
    (case c_need_verses => k_is)
    (case k_need_verses => k_is)
    (case a_Bookd__initd_ => k_is)
    (case l_Bookd__initd_ => k_is)
    (case c_Bookd__initd_ => k_is)
    (case k_Bookd__initd_ => k_is)
    (case i_Bookd__initd_ => k_is)
    (case a_Book_many => k_is)
    (case l_Book_many => k_is)
    (case c_Book_many => k_is)
    (case k_Book_many => k_is)
    (case i_Book_many => k_is)
    (case a_Book_verse => k_is)
    (case l_Book_verse => k_is)
    (case c_Book_verse => k_is)
    (case k_Book_verse => k_is)
    (case i_Book_verse => k_is)
    (case a_Book_verses => k_is)
    (case l_Book_verses => k_is)
    (case c_Book_verses => k_is)
    (case k_Book_verses => k_is)
    (case i_Book_verses => k_is)
    (case a__law_sound => k_is)
    (case l__law_sound => k_is)
    (case c__law_sound => k_is)
    (case k__law_sound => k_is)
    (case a__law_pool => k_is)
    (case l__law_pool => k_is)
    (case c__law_pool => k_is)
    (case k__law_pool => k_is)
    (case a__law_alike => k_is)
    (case l__law_alike => k_is)
    (case c__law_alike => k_is)
    (case k__law_alike => k_is)
    (case a__law_verse => k_is)
    (case l__law_verse => k_is)
    (case c__law_verse => k_is)
    (case k__law_verse => k_is)
    (case a__law_wide => k_is)
    (case l__law_wide => k_is)
    (case c__law_wide => k_is)
    (case k__law_wide => k_is)
    (case a__law_book => k_is)
    (case l__law_book => k_is)
    (case c__law_book => k_is)
    (case k__law_book => k_is)
    (case a_need_numbers => k_is)
    (case l_need_numbers => k_is)
    (case c_need_numbers => k_is)
    (case k_need_numbers => k_is)
    (case a_left => k_is)
    (case l_left => k_is)
    (case c_left => k_is)
    (case k_left => k_is)
    (case a__law_unread => k_is)
    (case l__law_unread => k_is)
    (case c__law_unread => k_is)
    (case k__law_unread => k_is)
    (case a__law_copy => k_is)
    (case l__law_copy => k_is)
    (case c__law_copy => k_is)
    (case k__law_copy => k_is)
    (case a_common => k_is)
    (case l_common => k_is)
    (case c_common => k_is)
    (case k_common => k_is)
    (case a_sizes => k_is)
    (case l_sizes => k_is)
    (case c_sizes => k_is)
    (case k_sizes => k_is)
    (case a__law_share => k_is)
    (case l__law_share => k_is)
    (case c__law_share => k_is)
    (case k__law_share => k_is)
    (case a_measure => k_is)
    (case l_measure => k_is)
    (case c_measure => k_is)
    (case k_measure => k_is)
    (case a_part => k_is)
    (case l_part => k_is)
    (case c_part => k_is)
    (case k_part => k_is)
    (case a_plus => k_is)
    (case l_plus => k_is)
    (case c_plus => k_is)
    (case k_plus => k_is)
    (case a__law_measure => k_is)
    (case l__law_measure => k_is)
    (case c__law_measure => k_is)
    (case k__law_measure => k_is)
    (case a__law_part => k_is)
    (case l__law_part => k_is)
    (case c__law_part => k_is)
    (case k__law_part => k_is)
    (case a__law_sum => k_is)
    (case l__law_sum => k_is)
    (case c__law_sum => k_is)
    (case k__law_sum => k_is)
    (case a_need_unread => k_is)
    (case l_need_unread => k_is)
    (case c_need_unread => k_is)
    (case k_need_unread => k_is)
    (case a_last_of => k_is)
    (case l_last_of => k_is)
    (case c_last_of => k_is)
    (case k_last_of => k_is)
    (case a_mean_of => k_is)
    (case l_mean_of => k_is)
    (case c_mean_of => k_is)
    (case k_mean_of => k_is)
    (case a_all_shared => k_is)
    (case l_all_shared => k_is)
    (case c_all_shared => k_is)
    (case k_all_shared => k_is)
    (case a_decided_by => k_is)
    (case l_decided_by => k_is)
    (case c_decided_by => k_is)
    (case k_decided_by => k_is)
    (case a_mean_decided => k_is)
    (case l_mean_decided => k_is)
    (case c_mean_decided => k_is)
    (case k_mean_decided => k_is)
    (case a__law_chance => k_is)
    (case l__law_chance => k_is)
    (case c__law_chance => k_is)
    (case k__law_chance => k_is)
    (case a__law_mean => k_is)
    (case l__law_mean => k_is)
    (case c__law_mean => k_is)
    (case k__law_mean => k_is)
    (case a__law_once => k_is)
    (case l__law_once => k_is)
    (case c__law_once => k_is)
    (case k__law_once => k_is)
    (case a_law => k_is)
    (case l_law => k_is)
    (case c_law => k_is)
    (case k_law => k_is)
#print axioms PySem.Challenge.cw_kimariji_k36_chances_by_rivals_holds
