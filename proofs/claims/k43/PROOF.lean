import PyProof.Rows.All
import Wide.All
import OpenK.AllK
import Wide.FinOn
import PySem.Challenge.RW_kimariji_k43_tables_opened
import HandS.ForMost
import HandS.ForExc
import HandS.Evl
import HandS.Wide
import HandS.IsInst
import HandS.TryMany
import HandS.TryOnly
import HandS.SortInts
import HandS.Deep
import HandS.RaiseMore
import HandS.Conv
import HandS.Zip
import HandS.ExcInit
import HandS.ExcField
import HandS.TupAny
import HandS.Style
import HandS.SortKw
import KE.DatumOrd
import KE.KDictZip
import KE.KItemsList
import HandS.ListItems
import HandS.SetFor
import HandS.DictTup
import HandS.Strs
import HandS.Dict
import HandS.Lambda
import HandS.Defaults
import HandS.Head0
import HandS.Head1
import HandS.Head2
import HandS.HeadEnd
import HandS.HeadHook1
import HandS.HeadHook2
import HandS.HeadHook3
import HandS.HeadHook4
import HandS.HeadWalk
set_option Elab.async false
set_option linter.all false
set_option maxRecDepth 100000
set_option maxHeartbeats 2000000
/-! Kj0: one rule a construct, whatever the kinds of its values; defs, methods and classes by their promises alone. -/
namespace Kj
open PySem PySem.Spec PyProof.Rows L2 Evl
/-! ### operators, whatever the kinds -/
section
variable {X : Cx}
def rAddS : R2 := fun x y H Q => ∃ i j, x = .str i ∧ y = .str j ∧ i.length + j.length ≤ sizeLine ∧ Q (.str (i ++ j)) H
def rAddU (K : PySem.W.Frag) : R2 := fun x y H Q => (rI0 (fun i j => .int (i + j)) x y H Q ∨ rAddS x y H Q) ∨ (rCat x y H Q ∨ rCatT K x y H Q)
theorem op_addU : OpR X (binaryOp .Add) (rAddU X.K) := (OpR.or op_add op_add_str).or (OpR.or op_cat op_catT)
def rMulS : R2 := fun x y H Q => ∃ a n, x = .str a ∧ y = .int n ∧ MulOk a n ∧ Q (.str (Txt.mul a n)) H
theorem op_mulS : OpR X (binaryOp .Mult) rMulS := by
  intro pins s σ H x y v u Q I rx ry h
  obtain ⟨a, n, rfl, rfl, hc, q⟩ := h
  obtain ⟨t, rfl⟩ := rx
  obtain ⟨t', rfl⟩ := ry
  exact SB.mul hc fun t' k => ⟨.str (Txt.mul a n), H, I.tok _, ⟨_, rfl⟩, q⟩
def rMulU : R2 := fun x y H Q => (rI CMulW (fun i j => .int (i * j)) x y H Q ∨ rRep x y H Q) ∨ rMulS x y H Q
theorem op_mulU : OpR X (binaryOp .Mult) rMulU := (OpR.or op_mulW op_rep).or op_mulS
def rEqU (K : PySem.W.Frag) : R2 := fun x y H Q => rEq x y H Q ∨ rEqD K x y H Q
def rNeU (K : PySem.W.Frag) : R2 := fun x y H Q => rNe x y H Q ∨ rNeD K x y H Q
theorem op_eqU (hu : X.A.units + 65 < cLine) : OpR X (compareOp .Eq) (rEqU X.K) := OpR.or op_eq (op_eqD (by omega))
theorem op_neU (hu : X.A.units + 65 < cLine) : OpR X (compareOp .NotEq) (rNeU X.K) := OpR.or op_ne (op_neD (by omega))
def rSign : R2 := fun x y H Q => ∃ (c : Nat) (z : Str), x = .str ⟨#[c]⟩ ∧ y = .str z ∧ Q (.bl (decide (c ∈ z.cps.toList))) H
def rNotSign : R2 := fun x y H Q => ∃ (c : Nat) (z : Str), x = .str ⟨#[c]⟩ ∧ y = .str z ∧ Q (.bl (!decide (c ∈ z.cps.toList))) H
def rInU (K : PySem.W.Frag) : R2 := fun x y H Q => (rIn K false x y H Q ∨ rSign x y H Q) ∨ rInD K x y H Q
def rNotInU (K : PySem.W.Frag) : R2 := fun x y H Q => (rIn K true x y H Q ∨ rNotSign x y H Q) ∨ rNotInD K x y H Q
theorem op_inU (hu : X.A.units + 65 < cLine) : OpR X (compareOp .In) (rInU X.K) := (OpR.or op_in_seq op_in_sign).or (op_inD hu)
theorem op_notinU (hu : X.A.units + 65 < cLine) : OpR X (compareOp .NotIn) (rNotInU X.K) := (OpR.or op_notIn_seq op_notIn_sign).or (op_notInD hu)
def rSlU (K : PySem.W.Frag) : V → Option Int → Option Int → Hp → VK → Prop := fun x lo hi H Q => (rSlL K x lo hi H Q ∨ rSlA K x lo hi H Q) ∨ rSlS x lo hi H Q
theorem sl_U : SlR X (rSlU X.K) := (SlR.or sl_list sl_tupA).or sl_str
def rLenU (K : PySem.W.Frag) : List V → Hp → VK → Prop := fun xs H Q => rLenS K xs H Q ∨ ∃ z, xs = [V.str z] ∧ z.length ≤ sizeLine ∧ Q (.int z.length) H
theorem call_lenU : CallR X (.builtin "len") (rLenU X.K) := CallR.or call_len_seq call_len_str
end
/-! ### the same, the written part told by name (a try's body and a comprehension's block have contexts of their own) -/
section
variable {X : Cx} (K : PySem.W.Frag)
theorem k_op {f : Value → Value → Sem Value} {r : PySem.W.Frag → R2} (h : OpR X f (r X.K)) (hK : X.K = K) : OpR X f (r K) := hK ▸ h
theorem op_addK (hK : X.K = K := by rfl) : OpR X (binaryOp .Add) (rAddU K) := k_op K op_addU hK
theorem op_eqK (hu : X.A.units + 65 < cLine) (hK : X.K = K := by rfl) : OpR X (compareOp .Eq) (rEqU K) := k_op K (op_eqU hu) hK
theorem op_neK (hu : X.A.units + 65 < cLine) (hK : X.K = K := by rfl) : OpR X (compareOp .NotEq) (rNeU K) := k_op K (op_neU hu) hK
theorem op_inK (hu : X.A.units + 65 < cLine) (hK : X.K = K := by rfl) : OpR X (compareOp .In) (rInU K) := k_op K (op_inU hu) hK
theorem op_notinK (hu : X.A.units + 65 < cLine) (hK : X.K = K := by rfl) : OpR X (compareOp .NotIn) (rNotInU K) := k_op K (op_notinU hu) hK
theorem ix_seqK (hK : X.K = K := by rfl) : IxR X (rIx K) := by subst hK; exact ix_seq
theorem sl_K (hK : X.K = K := by rfl) : SlR X (rSlU K) := by subst hK; exact sl_U
theorem call_lenK (hK : X.K = K := by rfl) : CallR X (.builtin "len") (rLenU K) := by subst hK; exact call_lenU
theorem cr_allK (hc : X.calm = true) (hK : X.K = K := by rfl) : CallR X (.builtin "all") (rAll K) := by subst hK; exact cr_all hc
def rIsiU (K : PySem.W.Frag) : List V → Hp → VK → Prop := fun xs H Q => rIsi K xs H Q ∨ rIsiT K xs H Q
theorem call_isiK' (hK : X.K = K := by rfl) : CallR X (.builtin "isinstance") (rIsiU K) := by subst hK; exact CallR.or call_isi call_isiT
theorem call_listK (hK : X.K = K := by rfl) : CallR X (.type "list") (rListS K) := by subst hK; exact call_list_of
theorem mt_indexK (hK : X.K = K := by rfl) : MtR X "list.index" (rIndex K) := by subst hK; exact mt_index
def rJoin (K : PySem.W.Frag) : V → List V → Hp → VK → Prop := fun x xs H Q => ∃ a p, ∃ ys : List Str, x = .str a ∧ xs = [.ref p] ∧ (SqL K H p (ys.map V.str) ∨ SqT K H p (ys.map V.str)) ∧ (ys.map (·.length)).sum + ys.length * a.length ≤ 16777216 ∧ Q (.str (Txt.join a ys)) H
theorem mt_joinK (hK : X.K = K := by rfl) : MtR X "str.join" (rJoin K) := by subst hK; exact mt_join
theorem pi_listK {tg l : Expr} {tl : TE} (hl : PE X l tl) (hK : X.K = K := by rfl) : PI X tg l (iList K tl) := by subst hK; exact pi_list hl
theorem pi_enumK {e : Expr} {ta : TA} {p pos tpos : Pos} {elts : List Expr} {kk : Nat} (hg : Gl X "enumerate") (hm : X.mg "enumerate" = none) (ha : PA X [e] ta) (hs : starEach [e] X.env = [(false, eval e X.env)] := by rfl) (hK : X.K = K := by rfl) :
    PI X (.Tuple elts kk tpos) (.Call (.Name "enumerate" p) [e] [] pos) (iEnum K ta) := by subst hK; exact pi_enum hg hm ha hs
theorem pi_zipK {e e2 : Expr} {ta : TA} {p pos tpos : Pos} {elts : List Expr} {kk : Nat} (hg : Gl X "zip") (hm : X.mg "zip" = none) (ha : PA X [e, e2] ta)
    (hs : starEach [e, e2] X.env = (false, eval e X.env) :: starEach [e2] X.env := by rfl) (hpl : (backTo pos (starEach [e2] X.env)).any (·.1) = false := by rfl) (hK : X.K = K := by rfl) :
    PI X (.Tuple elts kk tpos) (.Call (.Name "zip" p) [e, e2] [] pos) (RZ.iZipA K ta) := by subst hK; exact RZ.pi_zipA hg hm ha hs hpl
theorem pg_tupK {es : List Expr} {k : Nat} {t : TGs} {n : Nat} {pos : Pos} (hc : X.calm = true) (h : PGs X es t)
    (hn : (assignEach es X.env).length = n := by rfl) (hst : (assignEach es X.env).findIdx? (·.1) = none := by rfl) (hK : X.K = K := by rfl) : PG X (.Tuple es k pos) (gTup K n t) := by subst hK; exact pg_tup hc h hn hst
theorem pe_fldK {e : Expr} {f : Str} {ta : TE} {pos : Pos} (he : PE X e ta) (hb : attributeBase e f X.env (eval e X.env) = eval e X.env := by rfl) (hK : X.K = K := by rfl) : PE X (.Attribute e f pos) (tFld K ta f) := by subst hK; exact pe_fld he hb
theorem pe_bmK {o e : Expr} {es : List Expr} {name : Str} {T id : String} {r : V → List V → Hp → VK → Prop} {to : TE} {t : TA} {apos cpos : Pos} (pa : PlainAttrs T) (slot : Slot T name id) (hty : typeOf (.builtin id) = pure (.type "method_descriptor")) (hm : MtR X id r) (ho : PE X o to) (ha : PA X (e :: es) t)
    (hbase : attributeBase o name X.env (eval o X.env) = eval o X.env := by rfl)
    (hfew : ((backTo cpos (starEach (e :: es) X.env)).all (fun x => !x.1) && (backToKw cpos (keywordEach [] X.env)).all (fun x => x.1.isSome)
      && decide ((e :: es).length + ([] : List Keyword).length + (if ([] : List Keyword).isEmpty then 0 else 1) < 30)) = true := by rfl)
    (hline : (apos.endLine == cpos.line) = true := by rfl) (hs : starEach (e :: es) X.env = (false, eval e X.env) :: starEach es X.env := by rfl) (hplain : (backTo cpos (starEach es X.env)).any (·.1) = false := by rfl) (hK : X.K = K := by rfl) :
    PE X (.Call (.Attribute o name apos) (e :: es) [] cpos) (tBM K T r to t) := by subst hK; exact pe_bm pa slot hty hm ho ha hbase hfew hline hs hplain
theorem ps_fldK {o value : Expr} {f : Str} {ta tv : TE} {pos pos' : Pos} (ha : PE X o ta) (hv : PE X value tv) (hs : swapsWith value (some (.Attribute o f pos')) pos.line X.env = pure false := by rfl) (hK : X.K = K := by rfl) : PS X (.Assign [.Attribute o f pos'] value pos) (sFld K ta tv f) := by subst hK; exact ps_fld ha hv hs
end
/-! ### room -/
theorem hu65 {A : Around} {k : Nat} (hr : Room k A) : A.units + 65 < cLine := by have := hr.un; omega
/-! ### builtin names that the text leaves as they are -/
structure Bt (mg : Str → Option Value) : Prop where
  abs : mg "abs" = none
  all : mg "all" = none
  any : mg "any" = none
  dict : mg "dict" = none
  enumerate : mg "enumerate" = none
  int : mg "int" = none
  isinstance : mg "isinstance" = none
  len : mg "len" = none
  list : mg "list" = none
  max : mg "max" = none
  min : mg "min" = none
  range : mg "range" = none
  sorted : mg "sorted" = none
  str : mg "str" = none
  sum : mg "sum" = none
  tuple : mg "tuple" = none
  zip : mg "zip" = none
  bool : mg "bool" = none
  set : mg "set" = none
theorem boot_b_all : bootBuiltins "all" = some (.builtin "all") := by decide +kernel
theorem boot_b_len : bootBuiltins "len" = some (.builtin "len") := by decide +kernel
theorem boot_b_min : bootBuiltins "min" = some (.builtin "min") := by decide +kernel
theorem boot_b_isinstance : bootBuiltins "isinstance" = some (.builtin "isinstance") := by decide +kernel
theorem boot_ty_int : bootBuiltins "int" = some (.type "int") := by decide +kernel
theorem boot_ty_list : bootBuiltins "list" = some (.type "list") := by decide +kernel
theorem boot_ty_str : bootBuiltins "str" = some (.type "str") := by decide +kernel
theorem boot_ty_tuple : bootBuiltins "tuple" = some (.type "tuple") := by decide +kernel
theorem boot_ty_bool : bootBuiltins "bool" = some (.type "bool") := by decide +kernel
/-! ### defs by their promises -/
/-- the def that stands behind the name x keeps sp -/
structure Ok (P : Program) (w : World) (K : PySem.W.Frag) (mg : Str → Option Value) (base : Heap) (k : Nat) (x : Str) (ps : List Str) (sp : Sp) : Prop where
  ex : ∃ f fd, mg x = some (.ref f) ∧ PySem.W.keepIn K (.ref f) = true ∧ Binds K fd ps [] ∧ FnOk P w K mg base (L2.CX P w) k f fd ps sp ∧ ∃ oc od osl, K.lookup f = some ⟨oc, od, .func fd, osl⟩
/-- a def of the text -/
structure Df (K : PySem.W.Frag) (mg : Str → Option Value) (x : Str) (st : Stmt) (ps : List Str) : Prop where
  ex : ∃ f fd, mg x = some (.ref f) ∧ Fun K x x st f fd ∧ Binds K fd ps []
/-- the method m of the class at C keeps sp -/
structure OkM (P : Program) (w : World) (K : PySem.W.Frag) (mg : Str → Option Value) (base : Heap) (k : Nat) (C : Addr) (m : Str) (ps : List Str) (sp : Sp) : Prop where
  cls : Cls K C
  ex : ∃ f fd, Meth K C m f ∧ Binds K fd ps [] ∧ FnOk P w K mg base (L2.CX P w) k f fd ps sp
/-- a method of the text -/
structure Dm (K : PySem.W.Frag) (C : Addr) (m q : Str) (st : Stmt) (ps : List Str) : Prop where
  cls : Cls K C
  ex : ∃ f fd, Meth K C m f ∧ Fun K m q st f fd ∧ Binds K fd ps []
/-- the class behind the name x is made by an __init__ that keeps sp -/
structure OkC (P : Program) (w : World) (K : PySem.W.Frag) (mg : Str → Option Value) (base : Heap) (k : Nat) (C : Addr) (x : Str) (ps : List Str) (sp : Sp) : Prop where
  g : mg x = some (.ref C)
  ex : ∃ f fd, Mk K C f ∧ Binds K fd ps [] ∧ FnOk P w K mg base (L2.CX P w) k f fd ps sp
section
variable {P : Program} {w : World} {K : PySem.W.Frag} {mg : Str → Option Value} {base : Heap}
theorem Df.ok {x : Str} {st : Stmt} {N ps : List Str} {k : Nat} {sp : Sp} (D : Df K mg x st ps) (S : FnScope N ps (defScope st)) (len : ∀ vs H Q E, sp vs H Q E → vs.length = ps.length)
    (hbody : ∀ (f : Addr) (cdv : Value) (A : Around) (outer : List Env) (s : Shared) (H : Hp) (vs : List V) (Q : VK) (E : XK), Room k (A.deeper (envOfC x (defScope st) s.heap.objs.size f cdv)) → sp vs H Q E →
      ∃ t, PSs (cxOf (L2.CX P w) P w K mg base N x (defScope st) f cdv A outer s H E) (defBody st) t ∧ t { nx := fun _ H' => Q .non H', rt := Q } (start N vs) H) : Ok P w K mg base (k + 1) x ps sp := by
  obtain ⟨f, fd, g, F, b⟩ := D.ex
  obtain ⟨oc, od, kV, doc, pm, an, cdv, ct, osl, hfd, lk, hcd⟩ := F.ex
  exact ⟨f, fd, g, F.kp, b, F.okX S len fun cdv A outer s H vs Q E hr h => hbody f cdv A outer s H vs Q E hr h, oc, od, osl, lk⟩
theorem Dm.ok {C : Addr} {m q : Str} {st : Stmt} {N ps : List Str} {k : Nat} {sp : Sp} (D : Dm K C m q st ps) (S : FnScope N ps (defScope st)) (len : ∀ vs H Q E, sp vs H Q E → vs.length = ps.length)
    (hbody : ∀ (f : Addr) (cdv : Value) (A : Around) (outer : List Env) (s : Shared) (H : Hp) (vs : List V) (Q : VK) (E : XK), Room k (A.deeper (envOfC q (defScope st) s.heap.objs.size f cdv)) → sp vs H Q E →
      ∃ t, PSs (cxOf (L2.CX P w) P w K mg base N q (defScope st) f cdv A outer s H E) (defBody st) t ∧ t { nx := fun _ H' => Q .non H', rt := Q } (start N vs) H) : OkM P w K mg base (k + 1) C m ps sp := by
  obtain ⟨f, fd, g, F, b⟩ := D.ex
  exact ⟨D.cls, f, fd, g, b, F.okX S len fun cdv A outer s H vs Q E hr h => hbody f cdv A outer s H vs Q E hr h⟩
theorem OkM.make {C : Addr} {ps : List Str} {k : Nat} {sp : Sp} {x : Str} (O : OkM P w K mg base k C "__init__" ps sp) (g : mg x = some (.ref C)) (mk : PySem.W.makesIn K C = true) (kc : PySem.W.keepIn K (.ref C) = true) : OkC P w K mg base k C x ps sp := by
  obtain ⟨f, fd, m, b, F⟩ := O.ex
  exact ⟨g, f, fd, ⟨mk, m.at_, m.fn, kc⟩, b, F⟩
theorem Ok.mono {x : Str} {ps : List Str} {j k : Nat} {sp : Sp} (O : Ok P w K mg base j x ps sp) (h : j ≤ k) : Ok P w K mg base k x ps sp := by
  obtain ⟨f, fd, g, kp, b, F, l⟩ := O.ex
  exact ⟨f, fd, g, kp, b, F.mono h, l⟩
theorem Ok.imp {x : Str} {ps : List Str} {k : Nat} {sp sp' : Sp} (O : Ok P w K mg base k x ps sp) (h : ∀ vs H Q E, sp' vs H Q E → sp vs H Q E) : Ok P w K mg base k x ps sp' := by
  obtain ⟨f, fd, g, kp, b, F, l⟩ := O.ex
  exact ⟨f, fd, g, kp, b, F.imp h, l⟩
end
section
variable {X : Cx} {W : WX} {k : Nat} {C : Addr} {ps : List Str} {sp : Sp} {x m : Str} {p pos apos : Pos} {e o : Expr} {es : List Expr} {ta : TE} {t : TA}
/-- f(e, ..) -/
theorem pe_callO (O : Ok X.prog X.w X.K X.mg X.base k x ps sp) (hr : Room k X.A) (hg : Gl X x) (tk : Takes X W) (ha : PA X (e :: es) t) (hdb : (x == ("__debug__" : Str)) = false := by decide)
    (he : starEach (e :: es) X.env = (false, eval e X.env) :: starEach es X.env := by rfl) (hpl : (backTo pos (starEach es X.env)).any (·.1) = false := by rfl) :
    PE X (.Call (.Name x p) (e :: es) [] pos) (tCallS sp (WE W) t) := by
  obtain ⟨f, fd, g, kp, b, F, _⟩ := O.ex
  exact pe_callS F hr hg g kp b (fun σ => passAt tk σ) ha hdb he hpl
/-- o.m(e, ..) -/
def tMethS (C : Addr) (m : Str) (sp : Sp) (E : L2.St → XK) (ta : TE) (t : TA) : TE := fun σ H Q => ta σ H fun x H1 => ∃ a dx fs, x = .ref a ∧ H1 a = some (.ins C dx fs) ∧ fs.lookup m = none ∧ t σ H1 fun vs H2 => sp (x :: vs) H2 Q (E σ)
theorem pe_methO {pl : Sem Bool} (O : OkM X.prog X.w X.K X.mg X.base k C m ps sp) (he : PE X o ta) (hr : Room k X.A) (tk : Takes X W) (ha : PA X (e :: es) t)
    (hst : starEach (e :: es) X.env = (false, eval e X.env) :: starEach es X.env := by rfl) (hpl : (backTo pos (starEach es X.env)).any (·.1) = false := by rfl)
    (ht : eval (.Call (.Attribute o m apos) (e :: es) [] pos) X.env = (do
      let ov ← eval o X.env
      standAt apos.atName
      let (f, first) ← holding [ov] (getMethod ov m pl)
      callWith pos f first (backTo pos (starEach (e :: es) X.env)) (backToKw pos (keywordEach [] X.env))) := by rfl) :
    PE X (.Call (.Attribute o m apos) (e :: es) [] pos) (tMethS C m sp (WE W) ta t) := by
  obtain ⟨f, fd, hm, b, F⟩ := O.ex
  refine ⟨fun pins s σ H Q I h => ?_⟩
  refine PySem.W.methodCall_KW (pl := pl) (thn (he.run pins s σ H _ I h) fun u s1 ⟨x, H1, I1, rx, a, dx, fs, ex, ea, l, q⟩ => ?_) ht
  subst ex
  obtain rfl : u = Value.ref a := rx
  refine getmeth_ok I1 ea O.cls hm l ?_
  refine PySem.W.callWith_K (first := [.ref a]) (h₀ := X.base) I.ok.mod.kin hm.kp (thn (ha.run pos pins s1 σ H1 _ I1 q) fun us s2 ⟨vs, H2, I2, r, q2⟩ => ⟨I2.kIn, ?_⟩) hst hpl
  exact run_fnS (us := .ref a :: us) (vs := .ref a :: vs) F hr b (passAt tk σ) I2 (.cons rfl r) q2
theorem pe_methO0 {pl : Sem Bool} (O : OkM X.prog X.w X.K X.mg X.base k C m ps sp) (he : PE X o ta) (hr : Room k X.A) (tk : Takes X W)
    (ht : eval (.Call (.Attribute o m apos) [] [] pos) X.env = (do
      let ov ← eval o X.env
      standAt apos.atName
      let (f, first) ← holding [ov] (getMethod ov m pl)
      callWith pos f first (backTo pos (starEach [] X.env)) (backToKw pos (keywordEach [] X.env))) := by rfl) :
    PE X (.Call (.Attribute o m apos) [] [] pos) (tMethS C m sp (WE W) ta tNil) := by
  obtain ⟨f, fd, hm, b, F⟩ := O.ex
  refine ⟨fun pins s σ H Q I h => ?_⟩
  refine PySem.W.methodCall_KW (pl := pl) (thn (he.run pins s σ H _ I h) fun u s1 ⟨x, H1, I1, rx, a, dx, fs, ex, ea, l, q⟩ => ?_) ht
  subst ex
  obtain rfl : u = Value.ref a := rx
  refine getmeth_ok I1 ea O.cls hm l ?_
  exact PySem.W.callWith_K0 (first := [.ref a]) I1.kIn hm.kp (run_fnS (us := [.ref a]) (vs := [.ref a]) F hr b (passAt tk σ) I1 (.cons rfl .nil) q)
end
/-! ### a new instance, by an __init__ that may raise -/
section
variable {X : Cx} {W : WX} {k : Nat} {C : Addr} {ps : List Str} {sp : Sp} {x m : Str} {p pos apos : Pos} {e o : Expr} {es : List Expr} {ta : TE} {t : TA}
def tMakeS (C : Addr) (sp : Sp) (E : L2.St → XK) (t : TA) : TE := fun σ H Q => t σ H fun vs H1 => ∀ x dx, H1 x = none → H1 dx = none → dx ≠ x →
  sp (.ref x :: vs) (upd (upd H1 dx (.own x)) x (.ins C dx [])) (fun v H2 => v = .non ∧ Q (.ref x) H2) (E σ)
theorem run_makeS {pins : List (Addr × Obj)} {σ : L2.St} {H : Hp} {s : Shared} {Q : VK} {us : List Value} {vs : List V} {f : Addr} {fd : FuncData} (M : Mk X.K C f) (F : FnOk X.prog X.w X.K X.mg X.base (L2.CX X.prog X.w) k f fd ps sp) (hr : Room (k + 1) X.A) (hb : Binds X.K fd ps [])
    (tk : Takes X W) (I : Inv X pins σ H s) (r : Vals vs us)
    (h : ∀ x dx, H x = none → H dx = none → dx ≠ x → sp (.ref x :: vs) (upd (upd H dx (.own x)) x (.ins C dx [])) (fun v H2 => v = .non ∧ Q (.ref x) H2) (WE W σ)) :
    wpAny (model X.prog X.w) X.A (call (.ref C) us) (EP X pins σ Q) X.xe s := by
  have hq := h (s.heap.objs.size + 1) s.heap.objs.size (I.hok.fresh (Nat.le_succ _)) (I.hok.fresh (Nat.le_refl _)) (Nat.ne_of_lt (Nat.lt_succ_self _))
  have I2 := Inv.made (C := C) I
  have r2 : Vals (V.ref (s.heap.objs.size + 1) :: vs) (Value.ref (s.heap.objs.size + 1) :: us) := .cons rfl r
  have hl : (Value.ref (s.heap.objs.size + 1) :: us).length = ps.length := by
    have e := r2.length
    rw [F.len _ _ _ _ hq] at e
    exact e.symm
  refine wpAny_call (make_map (f := f) I.kIn M.makes M.init (beq_iff_eq.mp M.fn) (codeAny_mono (F.run _ X.stack _ _ ⟨Value.ref (s.heap.objs.size + 1) :: us, []⟩ (Value.ref (s.heap.objs.size + 1) :: us) _ _ (WE W σ) (hr.make C us [])
    (I2.env0.make C us []) (by have z := hb _ (Value.ref (s.heap.objs.size + 1) :: us) I2.kIn (by rw [List.append_nil]; exact hl); rw [List.append_nil] at z; exact z) r2 hq) fun r s' hq' => ?_))
  cases r with
  | error e => exact passAt tk σ pins _ _ e s' I2 hq'
  | ok fl =>
    cases fl with
    | ret u =>
      obtain ⟨v, H', I3, rv, ev, q3⟩ := I2.after hq'
      subst ev
      exact ⟨rv, ⟨V.ref (s.heap.objs.size + 1), H', I3, rfl, q3⟩⟩
    | next => exact False.elim hq'
    | brk => exact False.elim hq'
    | cont => exact False.elim hq'
theorem pe_makeO (O : OkC X.prog X.w X.K X.mg X.base k C x ps sp) (hr : Room (k + 1) X.A) (hg : Gl X x) (tk : Takes X W) (ha : PA X (e :: es) t) (hdb : (x == ("__debug__" : Str)) = false := by decide)
    (he : starEach (e :: es) X.env = (false, eval e X.env) :: starEach es X.env := by rfl) (hpl : (backTo pos (starEach es X.env)).any (·.1) = false := by rfl) :
    PE X (.Call (.Name x p) (e :: es) [] pos) (tMakeS C sp (WE W) t) := by
  obtain ⟨f, fd, M, b, F⟩ := O.ex
  refine ⟨fun pins s σ H Q I h => ?_⟩
  refine wpAny_Call_Name_kw (ld_glob I hg O.g ?_ hdb)
  refine PySem.W.callWith_K (h₀ := X.base) I.ok.mod.kin M.kp (thn (ha.run pos pins s σ H _ I h) fun us s1 ⟨vs, H1, I1, r, q⟩ => ⟨I1.kIn, ?_⟩) he hpl
  exact run_makeS M F hr b tk I1 r q
end
/-! ### own exceptions without an __init__ of their own -/
/-- x, at C, is an exception of one's own (under ValueError), made with a text -/
structure Xc (K : PySem.W.Frag) (mg : Str → Option Value) (x : Str) (C : Addr) : Prop where
  g : mg x = some (.ref C)
  xi : PySem.W.excIn K C [.type "ValueError", .type "Exception", .type "BaseException", .type "object"] "ValueError.__new__" = true
  kp : PySem.W.keepIn K (.ref C) = true
  sb : PySem.W.subIn K (.ref C) (.type "BaseException") = some true
  ty : PySem.W.typeIn K (.ref C) = some (.type "type")
theorem pmk_ex {X : Cx} {x m : Str} {C : Addr} {j : Nat} {p p2 pos : Pos} (c : Xc X.K X.mg x C) (hg : Gl X x) (hdb : (x == ("__debug__" : Str)) = false := by decide) : PMk X (.Call (.Name x p) [.Constant (.str m) j p2] [] pos) (fun _ H Q => Q (.ref C) none H) :=
  pmk_own PySem.F.excBase_ValueError c.xi c.g c.kp (raises_own c.sb c.ty) hg hdb
end Kj

/-! Kj1: what an expression is worth, with the new part of the heap that it makes; parts of the heap that stand apart. -/
namespace Kj
open PySem PySem.Spec PyProof.Rows L2 Evl
/-! ### parts of a heap -/
/-- all of N is new beside H -/
def Fr (H N : Hp) : Prop := ∀ a, N a ≠ none → H a = none
def emp : Hp := fun _ => none
def sing (p : Addr) (o : HO) : Hp := fun a => if a = p then some o else none
def uni (N M : Hp) : Hp := fun a => match M a with | some o => some o | none => N a
theorem sing_at {p : Addr} {o : HO} : sing p o p = some o := by unfold sing; rw [if_pos rfl]
theorem sing_ne {p a : Addr} {o : HO} (h : a ≠ p) : sing p o a = none := by unfold sing; rw [if_neg h]
theorem emp_ex {H : Hp} : Ex emp H := fun _ _ h => nomatch h
theorem emp_fr {H : Hp} : Fr H emp := fun _ h => absurd rfl h
theorem sing_ex {H : Hp} {p : Addr} {o : HO} (h : H p = some o) : Ex (sing p o) H := fun a u e => by
  by_cases q : a = p
  · subst q
    rw [sing_at] at e
    cases e
    exact h
  · rw [sing_ne q] at e
    cases e
theorem sing_fr {H : Hp} {p : Addr} {o : HO} (h : H p = none) : Fr H (sing p o) := fun a e => by
  by_cases q : a = p
  · subst q
    exact h
  · exact absurd (sing_ne q) e
theorem Fr.back {H H' N : Hp} (e : Ex H H') (f : Fr H' N) : Fr H N := fun a h => fresh_back e (f a h)
theorem Fr.of {H N M : Hp} (f : Fr H N) (e : Ex M N) : Fr H M := fun a h => f a fun z => by
  cases q : M a with
  | none => exact h q
  | some o => rw [e a o q] at z; cases z
theorem ex_none {N H : Hp} {a : Addr} (e : Ex N H) (h : H a = none) : N a = none := fresh_back e h
theorem uni_r {N M : Hp} : Ex M (uni N M) := fun a o h => by unfold uni; rw [h]
theorem uni_l {N M : Hp} (d : ∀ a, M a ≠ none → N a = none) : Ex N (uni N M) := fun a o h => by
  unfold uni
  cases q : M a with
  | none => exact h
  | some u => rw [d a (by rw [q]; exact fun z => nomatch z)] at h; cases h
theorem uni_ex {N M H : Hp} (h1 : Ex N H) (h2 : Ex M H) : Ex (uni N M) H := fun a o h => by
  unfold uni at h
  cases q : M a with
  | none => rw [q] at h; exact h1 a o h
  | some u => rw [q] at h; cases h; exact h2 a _ q
theorem uni_some {N M : Hp} {a : Addr} (h : uni N M a ≠ none) : N a ≠ none ∨ M a ≠ none := by
  unfold uni at h
  cases q : M a with
  | none => rw [q] at h; exact .inl h
  | some u => exact .inr (fun z => nomatch z)
theorem uni_fr {N M H : Hp} (h1 : Fr H N) (h2 : Fr H M) : Fr H (uni N M) := fun a h => (uni_some h).elim (h1 a) (h2 a)
/-! ### data -/
mutual
theorem dp_mono {K : PySem.W.Frag} {H H' : Hp} (e : Ex H H') : ∀ {v : V} {d : PyData}, Dp K H v d → Dp K H' v d
  | _, _, .non => .non
  | _, _, .bl b => .bl b
  | _, _, .int i => .int i
  | _, _, .str x => .str x
  | _, _, .lst h r => .lst (ex_l e h) (dpa_mono e r)
  | _, _, .tup h r => .tup (ex_t e h) (dpa_mono e r)
theorem dpa_mono {K : PySem.W.Frag} {H H' : Hp} (e : Ex H H') : ∀ {vs : List V} {ds : List PyData}, DpAll K H vs ds → DpAll K H' vs ds
  | _, _, .nil => .nil
  | _, _, .cons h r => .cons (dp_mono e h) (dpa_mono e r)
end
/-! ### how a call may end -/
inductive Res where
  | ok (P : Hp → V → Prop)
  | err (x : Str) (fs : List (Str × V))
def RetNew (H : Hp) (Q : VK) (P : Hp → V → Prop) : Prop := ∀ v H' N, Ex H H' → Ex N H' → Fr H N → P N v → Q v H'
def RaiseX (mg : Str → Option Value) (x : Str) (fs : List (Str × V)) (H : Hp) (E : XK) : Prop :=
  ∀ H' C d, Ex H H' → mg x = some (.ref C) → (fs = [] ∧ d = none ∨ ∃ a, d = some a ∧ H' a = some (.xd fs) ∧ H a = none ∧ fs ≠ []) → E (.ref C) d H'
def Out (mg : Str → Option Value) (r : Res) (H : Hp) (Q : VK) (E : XK) : Prop := match r with
  | .ok P => RetNew H Q P
  | .err x fs => RaiseX mg x fs H E
/-- a promise: from the arguments in a heap to the end; whatever else the heap holds -/
structure Rl where
  R : List V → Hp → Res → Prop
  mono : ∀ {vs H H' r}, Ex H H' → R vs H r → R vs H' r
def Rl.sp (S : Rl) (mg : Str → Option Value) : Sp := fun vs H Q E => ∃ r, S.R vs H r ∧ Out mg r H Q E
/-- what is told of a value alone -/
abbrev is (v : V) : Hp → V → Prop := fun _ x => x = v
/-! ### what an expression is worth -/
def EvP (te : TE) (σ : L2.St) (H : Hp) (P : Hp → V → Prop) : Prop := ∀ H1, Ex H H1 → ∀ Q : VK, RetNew H1 Q P → te σ H1 Q
def EvErr (mg : Str → Option Value) (W : WX) (x : Str) (fs : List (Str × V)) (te : TE) (σ : L2.St) (H : Hp) : Prop := ∀ H1, Ex H H1 → RaiseX mg x fs H1 (WE W σ) → ∀ Q : VK, te σ H1 Q
/-- arguments, each with its own new part -/
def All2 (H : Hp) : List (Hp → V → Prop) → List V → Prop := Paired fun P v => ∃ N, Ex N H ∧ P N v
def EvPs (ta : TA) (σ : L2.St) (H : Hp) (Ps : List (Hp → V → Prop)) : Prop := ∀ H1, Ex H H1 → ∀ Q : List V → Hp → Prop, (∀ vs H2, Ex H1 H2 → All2 H2 Ps vs → Q vs H2) → ta σ H1 Q
section
variable {K : PySem.W.Frag} {mg : Str → Option Value} {σ : L2.St} {H H' : Hp} {ta tb te tx : TE} {tr : TA} {t u : TT} {x y z v : V} {r : R2} {P P' : Hp → V → Prop} {S : Rl} {E : L2.St → XK} {W : WX} {vs : List V} {Ps : List (Hp → V → Prop)} {xn : Str} {fs : List (Str × V)}
theorem RetNew.fwd {Q : VK} (e : Ex H H') (k : RetNew H Q P) : RetNew H' Q P := fun v H1 N e1 e2 f p => k v H1 N (e.trans e1) e2 (f.back e) p
theorem RaiseX.fwd {E : XK} (e : Ex H H') (k : RaiseX mg xn fs H E) : RaiseX mg xn fs H' E := fun H1 C d e1 g c => k H1 C d (e.trans e1) g (c.imp id fun ⟨a, h1, h2, h3, h4⟩ => ⟨a, h1, h2, fresh_back e h3, h4⟩)
theorem EvP.mono (e : Ex H H') (h : EvP te σ H P) : EvP te σ H' P := fun H1 a Q q => h H1 (e.trans a) Q q
theorem EvErr.mono (e : Ex H H') (h : EvErr mg W xn fs te σ H) : EvErr mg W xn fs te σ H' := fun H1 a q Q => h H1 (e.trans a) q Q
theorem ep_v (h : Ev te σ H v) : EvP te σ H (is v) := fun H1 e Q q => h H1 e Q fun H2 e2 => q v H2 emp e2 emp_ex emp_fr rfl
theorem ev_p (h : EvP te σ H (is v)) : Ev te σ H v := fun H1 e Q q => h H1 e Q fun x H2 _ e2 _ _ p => by
  have p : x = v := p
  subst p
  exact q H2 e2
theorem ep_imp (h : EvP te σ H P) (i : ∀ N v, P N v → P' N v) : EvP te σ H P' := fun H1 e Q q => h H1 e Q fun v H2 N e2 e3 f p => q v H2 N e2 e3 f (i N v p)
theorem ep_l {xs : List V} (h : EvL te σ H xs) : EvP te σ H (fun N v => ∃ p, v = .ref p ∧ N p = some (.lst xs)) := fun H1 e Q q => h H1 e Q fun p H2 hp e2 h2 => q (.ref p) H2 (sing p (.lst xs)) e2 (sing_ex h2) (sing_fr hp) ⟨p, rfl, sing_at⟩
theorem ep_u {xs : List V} (h : EvU te σ H xs) : EvP te σ H (fun N v => ∃ p, v = .ref p ∧ N p = some (.tup xs)) := fun H1 e Q q => h H1 e Q fun p H2 hp e2 h2 => q (.ref p) H2 (sing p (.tup xs)) e2 (sing_ex h2) (sing_fr hp) ⟨p, rfl, sing_at⟩
theorem eps_nil : EvPs tNil σ H [] := fun H1 _ Q q => q [] H1 (Ex.refl H1) .nil
theorem All2.mono (e : Ex H H') (h : All2 H Ps vs) : All2 H' Ps vs := by
  unfold All2 at h ⊢
  induction h with
  | nil => exact .nil
  | cons h _ ih =>
    obtain ⟨N, h1, h2⟩ := h
    exact .cons ⟨N, h1.trans e, h2⟩ ih
theorem eps_cons (h : EvP te σ H P) (hr : EvPs tr σ H Ps) : EvPs (tCons te tr) σ H (P :: Ps) := fun H1 e Q q =>
  h H1 e _ fun v H2 N e2 e3 _ p => hr H2 (e.trans e2) _ fun vs H3 e4 a => q (v :: vs) H3 (e2.trans e4) (.cons ⟨N, e3.trans e4, p⟩ a)
/-! ### calls -/
theorem ep_call (ha : EvA tr σ H vs) (hR : S.R vs H (.ok P)) : EvP (tCallS (S.sp mg) E tr) σ H P := fun H1 e Q q => ha H1 e _ fun H2 e2 => ⟨.ok P, S.mono (e.trans e2) hR, q.fwd e2⟩
theorem ep_callN (ha : EvPs tr σ H Ps) (hR : ∀ vs H1, Ex H H1 → All2 H1 Ps vs → S.R vs H1 (.ok P)) : EvP (tCallS (S.sp mg) E tr) σ H P := fun H1 e Q q => ha H1 e _ fun vs H2 e2 a => ⟨.ok P, hR vs H2 (e.trans e2) a, q.fwd e2⟩
theorem ev_callO (ha : EvA tr σ H vs) (hR : S.R vs H (.ok (is v))) : Ev (tCallS (S.sp mg) E tr) σ H v := ev_p (ep_call ha hR)
theorem ev_callN (ha : EvPs tr σ H Ps) (hR : ∀ vs H1, Ex H H1 → All2 H1 Ps vs → S.R vs H1 (.ok (is v))) : Ev (tCallS (S.sp mg) E tr) σ H v := ev_p (ep_callN ha hR)
theorem er_call (ha : EvA tr σ H vs) (hR : S.R vs H (.err xn fs)) : EvErr mg W xn fs (tCallS (S.sp mg) (WE W) tr) σ H := fun H1 e q Q => ha H1 e _ fun H2 e2 => ⟨.err xn fs, S.mono (e.trans e2) hR, q.fwd e2⟩
theorem er_callN (ha : EvPs tr σ H Ps) (hR : ∀ vs H1, Ex H H1 → All2 H1 Ps vs → S.R vs H1 (.err xn fs)) : EvErr mg W xn fs (tCallS (S.sp mg) (WE W) tr) σ H := fun H1 e q Q => ha H1 e _ fun vs H2 e2 a => ⟨.err xn fs, hR vs H2 (e.trans e2) a, q.fwd e2⟩
/-- o.m(..) -/
theorem ep_meth {C a dx : Addr} {m : Str} {gs : List (Str × V)} (ho : Ev ta σ H (.ref a)) (h : H a = some (.ins C dx gs)) (hl : gs.lookup m = none) (ha : EvA tr σ H vs) (hR : S.R (.ref a :: vs) H (.ok P)) : EvP (tMethS C m (S.sp mg) E ta tr) σ H P :=
  fun H1 e Q q => ho H1 e _ fun H2 e2 => ⟨a, dx, gs, rfl, e2 _ _ (e _ _ h), hl, ha H2 (e.trans e2) _ fun H3 e3 => ⟨.ok P, S.mono ((e.trans e2).trans e3) hR, q.fwd (e2.trans e3)⟩⟩
theorem er_meth {C a dx : Addr} {m : Str} {gs : List (Str × V)} (ho : Ev ta σ H (.ref a)) (h : H a = some (.ins C dx gs)) (hl : gs.lookup m = none) (ha : EvA tr σ H vs) (hR : S.R (.ref a :: vs) H (.err xn fs)) : EvErr mg W xn fs (tMethS C m (S.sp mg) (WE W) ta tr) σ H :=
  fun H1 e q Q => ho H1 e _ fun H2 e2 => ⟨a, dx, gs, rfl, e2 _ _ (e _ _ h), hl, ha H2 (e.trans e2) _ fun H3 e3 => ⟨.err xn fs, S.mono ((e.trans e2).trans e3) hR, q.fwd (e2.trans e3)⟩⟩
/-! ### fields of an instance -/
theorem ev_fld {C a dx : Addr} {f : Str} {gs : List (Str × V)} (ho : Ev ta σ H (.ref a)) (h : H a = some (.ins C dx gs)) (c : Cls K C) (n : NoAttr K C f) (hl : gs.lookup f = some v) : Ev (tFld K ta f) σ H v := fun H1 e Q q =>
  ho H1 e _ fun H2 e2 => ⟨a, C, dx, gs, v, rfl, e2 _ _ (e _ _ h), c, n, hl, q H2 e2⟩
/-! ### operators -/
theorem rv_addI {i j : Int} : RV (rAddU K) (.int i) (.int j) H (.int (i + j)) := fun H1 _ _ q => .inl (.inl ⟨i, j, rfl, rfl, q H1 (Ex.refl H1)⟩)
theorem rv_mulI {i j : Int} (h : CMulW i j) : RV rMulU (.int i) (.int j) H (.int (i * j)) := fun H1 _ _ q => .inl (.inl ⟨i, j, rfl, rfl, h, q H1 (Ex.refl H1)⟩)
theorem rv_eqS (h : scal x y = true) : RV (rEqU K) x y H (.bl (decide (x = y))) := fun H1 _ _ q => .inl ⟨h, q H1 (Ex.refl H1)⟩
theorem rv_neS (h : scal x y = true) : RV (rNeU K) x y H (.bl (!decide (x = y))) := fun H1 _ _ q => .inl ⟨h, q H1 (Ex.refl H1)⟩
theorem rv_eqI {i j : Int} : RV (rEqU K) (.int i) (.int j) H (.bl (decide (i = j))) := fun H1 _ _ q => .inl ⟨rfl, by
  have e : decide (V.int i = V.int j) = decide (i = j) := by
    by_cases h : i = j
    · subst h; simp
    · rw [decide_eq_false h, decide_eq_false (fun z => h (V.int.inj z))]
  rw [e]
  exact q H1 (Ex.refl H1)⟩
theorem rv_neI {i j : Int} : RV (rNeU K) (.int i) (.int j) H (.bl (!decide (i = j))) := fun H1 _ _ q => .inl ⟨rfl, by
  have e : decide (V.int i = V.int j) = decide (i = j) := by
    by_cases h : i = j
    · subst h; simp
    · rw [decide_eq_false h, decide_eq_false (fun z => h (V.int.inj z))]
  rw [e]
  exact q H1 (Ex.refl H1)⟩
theorem rv_eqT {a b : Str} : RV (rEqU K) (.str a) (.str b) H (.bl (decide (a = b))) := fun H1 _ _ q => .inl ⟨rfl, by
  have e : decide (V.str a = V.str b) = decide (a = b) := by
    by_cases h : a = b
    · subst h; simp
    · rw [decide_eq_false h, decide_eq_false (fun z => h (V.str.inj z))]
  rw [e]
  exact q H1 (Ex.refl H1)⟩
theorem rv_neT {a b : Str} : RV (rNeU K) (.str a) (.str b) H (.bl (!decide (a = b))) := fun H1 _ _ q => .inl ⟨rfl, by
  have e : decide (V.str a = V.str b) = decide (a = b) := by
    by_cases h : a = b
    · subst h; simp
    · rw [decide_eq_false h, decide_eq_false (fun z => h (V.str.inj z))]
  rw [e]
  exact q H1 (Ex.refl H1)⟩
theorem rv_eqD {d e : PyData} (h1 : Dp K H x d) (h2 : Dp K H y e) (s1 : SeqAt.shaped d = true) (s2 : SeqAt.shaped e = true) : RV (rEqU K) x y H (.bl (PyData.eqv d e)) := fun H1 a _ q => .inr ⟨d, e, dp_mono a h1, dp_mono a h2, s1, s2, q H1 (Ex.refl H1)⟩
theorem rv_neD {d e : PyData} (h1 : Dp K H x d) (h2 : Dp K H y e) (s1 : SeqAt.shaped d = true) (s2 : SeqAt.shaped e = true) : RV (rNeU K) x y H (.bl (!PyData.eqv d e)) := fun H1 a _ q => .inr ⟨d, e, dp_mono a h1, dp_mono a h2, s1, s2, q H1 (Ex.refl H1)⟩
/-- both sides new, or data: == by what they hold -/
theorem ev_opN {P1 P2 : Hp → V → Prop} (ha : EvP ta σ H P1) (hb : EvP tb σ H P2) (hr : ∀ v1 v2 N1 N2 H1, Ex H H1 → Ex N1 H1 → Ex N2 H1 → P1 N1 v1 → P2 N2 v2 → RV r v1 v2 H1 z) : Ev (tOp r ta tb) σ H z := fun H1 e Q q =>
  ha H1 e _ fun v1 H2 N1 e2 i1 _ p1 => hb H2 (e.trans e2) _ fun v2 H3 N2 e3 i2 _ p2 => hr v1 v2 N1 N2 H3 ((e.trans e2).trans e3) (i1.trans e3) i2 p1 p2 H3 (Ex.refl H3) Q fun H4 e4 => q H4 ((e2.trans e3).trans e4)
theorem rv_ixLs {p : Addr} {xs : List V} {i : Int} (h : SqL K H p xs) (ha : atI xs i = some v) : RV (rIx K) (.ref p) (.int i) H v := fun H1 e _ q => .inl ⟨p, xs, i, v, rfl, rfl, ex_l e h, ha, q H1 (Ex.refl H1)⟩
theorem rv_ixTs {p : Addr} {xs : List V} {i : Int} (h : SqT K H p xs) (ha : atI xs i = some v) : RV (rIx K) (.ref p) (.int i) H v := fun H1 e _ q => .inr (.inl ⟨p, xs, i, v, rfl, rfl, ex_t e h, ha, q H1 (Ex.refl H1)⟩)
theorem rv_ixSs {w : Str} {i : Int} {c : Nat} (h : w.length ≤ 100000) (ha : atI w.cps.toList i = some c) : RV (rIx K) (.str w) (.int i) H (.str ⟨#[c]⟩) := fun H1 _ _ q => .inr (.inr ⟨w, i, c, rfl, rfl, sz_of h, ha, q H1 (Ex.refl H1)⟩)
theorem rv_inLs {p : Addr} {xs : List V} (h : SqL K H p xs) (hx : flatV x = true) (ha : xs.all flatV = true) : RV (rInU K) x (.ref p) H (.bl (inV x xs)) := fun H1 e _ q => .inl (.inl ⟨p, xs, rfl, Or.inl (ex_l e h), hx, ha, q H1 (Ex.refl H1)⟩)
theorem rv_sign {c : Nat} {w : Str} : RV (rInU K) (.str ⟨#[c]⟩) (.str w) H (.bl (decide (c ∈ w.cps.toList))) := fun H1 _ _ q => .inl (.inr ⟨c, w, rfl, rfl, q H1 (Ex.refl H1)⟩)
theorem rv_isN : RV (fun x y H Q => y = .non ∧ Q (.bl (decide (x = .non))) H) x .non H (.bl (decide (x = .non))) := fun H1 _ _ q => ⟨rfl, q H1 (Ex.refl H1)⟩
theorem rv_isnN : RV (fun x y H Q => y = .non ∧ Q (.bl (!decide (x = .non))) H) x .non H (.bl (!decide (x = .non))) := fun H1 _ _ q => ⟨rfl, q H1 (Ex.refl H1)⟩
/-! ### slices, len -/
theorem el_sl' {tl th : TO} {a : Addr} {xs : List V} {lo hi : Option Int} (h : Ev te σ H (.ref a)) (h1 : EvO tl σ H lo) (h2 : EvO th σ H hi) (hs : SqL K H a xs) : EvL (tSl (rSlU K) te tl th) σ H (cutV xs lo hi) := fun H1 e _ q =>
  h H1 e _ fun H2 e2 => h1 H2 (e.trans e2) _ fun H3 e3 => h2 H3 ((e.trans e2).trans e3) _ fun H4 e4 =>
    .inl (.inl ⟨a, xs, rfl, ex_l (((e.trans e2).trans e3).trans e4) hs, fun p hp => q p _ (fresh_back ((e2.trans e3).trans e4) hp) (((e2.trans e3).trans e4).trans (Ex.new hp)) upd_same⟩)
theorem rc_lenL {p : Addr} {xs : List V} (h : SqL K H p xs) : RC (rLenU K) [.ref p] H (.int (xs.length : Int)) := fun H1 e _ q => .inl ⟨p, xs, rfl, .inl (ex_l e h), q H1 (Ex.refl H1)⟩
theorem rc_lenT {p : Addr} {xs : List V} (h : SqT K H p xs) : RC (rLenU K) [.ref p] H (.int (xs.length : Int)) := fun H1 e _ q => .inl ⟨p, xs, rfl, .inr (ex_t e h), q H1 (Ex.refl H1)⟩
theorem rc_lenS {w : Str} (h : w.length ≤ 100000) : RC (rLenU K) [.str w] H (.int (w.length : Int)) := fun H1 _ _ q => .inr ⟨w, rfl, sz_of h, q H1 (Ex.refl H1)⟩
theorem rc_abs {i : Int} : RC (fun xs H Q => ∃ i, xs = [.int i] ∧ Q (.int (if i < 0 then -i else i)) H) [.int i] H (.int (i.natAbs : Int)) := fun H1 _ _ q => ⟨i, rfl, by
  have e : (if i < 0 then -i else i) = (i.natAbs : Int) := by
    split <;> omega
  rw [e]
  exact q H1 (Ex.refl H1)⟩
end
/-! ### parts that stand apart in a heap -/
def Dj (N M : Hp) : Prop := ∀ a, N a ≠ none → M a = none
theorem Dj.symm {N M : Hp} (d : Dj N M) : Dj M N := fun a h => by
  cases q : N a with
  | none => rfl
  | some o => exact absurd (d a (by rw [q]; exact fun z => nomatch z)) h
def Own : List Hp → Hp → Prop
  | [], _ => True
  | N :: r, H => Ex N H ∧ (∀ M ∈ r, Dj N M) ∧ Own r H
theorem Own.mono {H H' : Hp} (e : Ex H H') : ∀ {Ns : List Hp}, Own Ns H → Own Ns H'
  | [], _ => trivial
  | _ :: _, ⟨a, b, c⟩ => ⟨a.trans e, b, c.mono e⟩
theorem Own.exm {H N : Hp} : ∀ {Ns : List Hp}, Own Ns H → N ∈ Ns → Ex N H
  | _ :: _, ⟨a, b, c⟩, h => by
    rcases List.mem_cons.mp h with h | h
    · subst h; exact a
    · exact c.exm h
theorem Own.ix {H N : Hp} {i : Nat} {Ns : List Hp} (o : Own Ns H) (h : Ns[i]? = some N) : Ex N H := o.exm (List.mem_of_getElem? h)
theorem Own.e0 {H N : Hp} {r : List Hp} (o : Own (N :: r) H) : Ex N H := o.1
theorem Own.e1 {H N M : Hp} {r : List Hp} (o : Own (M :: N :: r) H) : Ex N H := o.2.2.1
theorem Own.e2 {H N M M2 : Hp} {r : List Hp} (o : Own (M2 :: M :: N :: r) H) : Ex N H := o.2.2.2.2.1
theorem Own.e3 {H N M M2 M3 : Hp} {r : List Hp} (o : Own (M3 :: M2 :: M :: N :: r) H) : Ex N H := o.2.2.2.2.2.2.1
theorem Own.e4 {H N M M2 M3 M4 : Hp} {r : List Hp} (o : Own (M4 :: M3 :: M2 :: M :: N :: r) H) : Ex N H := o.2.2.2.2.2.2.2.2.1
theorem Own.dj {H N M : Hp} {i j : Nat} : ∀ {Ns : List Hp}, Own Ns H → i < j → Ns[i]? = some N → Ns[j]? = some M → Dj N M
  | N' :: r, ⟨a, b, c⟩, hij, hi, hj => by
    cases j with
    | zero => exact absurd hij (Nat.not_lt_zero _)
    | succ j =>
      cases i with
      | zero =>
        have e : N' = N := Option.some.inj hi
        subst e
        exact b M (List.mem_of_getElem? hj)
      | succ i => exact c.dj (Nat.lt_of_succ_lt_succ hij) hi hj
theorem Own.add {H H' N : Hp} {Ns : List Hp} (o : Own Ns H) (e : Ex H H') (n : Ex N H') (f : Fr H N) : Own (N :: Ns) H' :=
  ⟨n, fun M hM a h => ex_none (o.exm hM) (f a h), o.mono e⟩
theorem Own.one (H : Hp) : Own [H] H := ⟨Ex.refl H, (fun _ h => nomatch h), trivial⟩
theorem Own.tail {H N : Hp} {r : List Hp} (o : Own (N :: r) H) : Own r H := o.2.2
theorem Own.set {H : Hp} {l : Addr} {u u' : HO} : ∀ {Ns : List Hp} {j : Nat}, Own Ns H → Ns[j]? = some (sing l u) → Own (Ns.set j (sing l u')) (upd H l u')
  | N :: r, 0, ⟨a, b, c⟩, h => by
    have e : N = sing l u := Option.some.inj h
    subst e
    have hl : ∀ M ∈ r, M l = none := fun M hM => b M hM l (by rw [sing_at]; exact fun z => nomatch z)
    refine ⟨sing_ex upd_same, fun M hM x hx => ?_, ?_⟩
    · by_cases q : x = l
      · subst q; exact hl M hM
      · exact absurd (sing_ne q) hx
    · clear a b h
      induction r with
      | nil => trivial
      | cons M r ih =>
        obtain ⟨c1, c2, c3⟩ := c
        refine ⟨fun x o' hx => ?_, c2, ih c3 fun M' hM' => hl M' (List.mem_cons_of_mem _ hM')⟩
        have ne : x ≠ l := fun z => by
          rw [z, hl M List.mem_cons_self] at hx
          cases hx
        rw [upd_ne ne]
        exact c1 x o' hx
  | N :: r, j + 1, ⟨a, b, c⟩, h => by
    have hN : N l = none := by
      have d := b (sing l u) (List.mem_of_getElem? h)
      exact d.symm l (by rw [sing_at]; exact fun z => nomatch z)
    refine ⟨fun x o' hx => ?_, fun M hM => ?_, c.set h⟩
    · have ne : x ≠ l := fun z => by
        rw [z, hN] at hx
        cases hx
      rw [upd_ne ne]
      exact a x o' hx
    · rcases List.mem_or_eq_of_mem_set hM with h1 | h1
      · exact b M h1
      · subst h1
        intro x hx
        by_cases q : x = l
        · subst q; exact absurd hN hx
        · exact sing_ne q
theorem Own.at {H : Hp} {l : Addr} {u : HO} {Ns : List Hp} {j : Nat} (o : Own Ns H) (h : Ns[j]? = some (sing l u)) : H l = some u := o.ix h _ _ sing_at
/-- the part N and the part M told as one -/
theorem Own.merge {H N M : Hp} {r : List Hp} (o : Own (N :: M :: r) H) : Own (uni M N :: r) H :=
  ⟨uni_ex o.2.2.1 o.1, fun M' hM' a h => (uni_some h).elim (o.2.2.2.1 M' hM' a) (o.2.1 M' (List.mem_cons_of_mem _ hM') a), o.2.2.2.2⟩
theorem Own.swap {H N M : Hp} {r : List Hp} (o : Own (N :: M :: r) H) : Own (M :: N :: r) H :=
  ⟨o.2.2.1, fun M' hM' => by
    rcases List.mem_cons.mp hM' with h | h
    · subst h; exact (o.2.1 M List.mem_cons_self).symm
    · exact o.2.2.2.1 M' h, o.1, fun M' hM' => o.2.1 M' (List.mem_cons_of_mem _ hM'), o.2.2.2.2⟩
/-- what is handed back: N is new beside G -/
theorem Own.ret {H N G : Hp} {Ns : List Hp} {i j : Nat} {Q : VK} {P : Hp → V → Prop} {v : V} (o : Own Ns H) (k : RetNew G Q P) (hi : Ns[i]? = some N) (hj : Ns[j]? = some G) (hp : P N v) (hij : i < j := by decide) : Q v H :=
  k v H N (o.ix hj) (o.ix hi) (o.dj hij hi hj) hp
theorem Own.retV {H G : Hp} {Ns : List Hp} {j : Nat} {Q : VK} {P : Hp → V → Prop} {v : V} (o : Own Ns H) (k : RetNew G Q P) (hj : Ns[j]? = some G) (hp : P emp v) : Q v H := k v H emp (o.ix hj) emp_ex emp_fr hp
end Kj
namespace Kj
open PySem PySem.Spec PyProof.Rows L2 Evl
abbrev pTup (xs : List V) : Hp → V → Prop := fun N v => ∃ p, v = .ref p ∧ N p = some (.tup xs)
abbrev pLst (xs : List V) : Hp → V → Prop := fun N v => ∃ p, v = .ref p ∧ N p = some (.lst xs)
section
variable {K : PySem.W.Frag} {mg : Str → Option Value} {σ : L2.St} {H H' : Hp} {ta tb te tx : TE} {tr : TA} {t u : TT} {x y z v : V} {P : Hp → V → Prop} {vs : List V}
theorem ep_tup (h : EvA tr σ H vs) (hl : vs.length ≤ 100000 := by exact Nat.le_of_ble_eq_true rfl) : EvP (tTup tr) σ H (pTup vs) := ep_u (eu_tup h hl)
theorem ep_lst (h : EvA tr σ H vs) (hl : vs.length ≤ 100000 := by exact Nat.le_of_ble_eq_true rfl) : EvP (tLst tr) σ H (pLst vs) := ep_l (el_lst h hl)
/-- the first operand, or the thing asked, is new -/
theorem ev_op1 {r : R2} (ha : EvP ta σ H P) (hb : Ev tb σ H y) (hr : ∀ v N H1, Ex H H1 → Ex N H1 → P N v → RV r v y H1 z) : Ev (tOp r ta tb) σ H z :=
  ev_opN ha (ep_v hb) fun v1 v2 N1 N2 H1 e i1 _ p1 p2 => by
    have p2 : v2 = y := p2
    subst p2
    exact hr v1 N1 H1 e i1 p1
theorem ev_cb1 {r : List V → Hp → VK → Prop} (ha : EvP ta σ H P) (hr : ∀ v N H1, Ex H H1 → Ex N H1 → P N v → RC r [v] H1 z) : Ev (tCB r (tCons ta tNil)) σ H z := fun H1 e Q q =>
  ha H1 e _ fun v H2 N e2 i1 _ p => hr v N H2 (e.trans e2) i1 p H2 (Ex.refl H2) Q fun H3 e3 => q H3 (e2.trans e3)
end
end Kj
namespace Kj
open PySem PySem.Spec PyProof.Rows L2 Evl
theorem cmul_small {i j : Int} (h1 : -18446744073709551616 < i ∧ i < 18446744073709551616) (h2 : -18446744073709551616 < j ∧ j < 18446744073709551616) : CMulW i j := by
  have a : i.natAbs < 2 ^ 64 := by
    have e : (2 : Nat) ^ 64 = 18446744073709551616 := by decide
    rw [e]
    omega
  have b : j.natAbs < 2 ^ 64 := by
    have e : (2 : Nat) ^ 64 = 18446744073709551616 := by decide
    rw [e]
    omega
  exact wide_mul a b (by decide) (by decide) (by decide)
theorem cutV_take {xs : List V} (n : Nat) : cutV xs none (some (n : Int)) = xs.take n := by
  unfold cutV
  rw [HT.sIx_none, HT.sIx_nat]
  by_cases h : n ≤ xs.length
  · rw [Nat.min_eq_left h]
    rfl
  · rw [Nat.min_eq_right (by omega)]
    show (xs.drop 0).take (xs.length - 0) = _
    rw [List.drop_zero, Nat.sub_zero, List.take_length, List.take_of_length_le (by omega)]
end Kj
namespace Kj
open PySem PySem.Spec PyProof.Rows L2 Evl
/-- the law's own promise -/
def spLaw (K : PySem.W.Frag) : Sp := fun vs H Q _ => ∃ (a : Addr) (ns : List Int), vs = [.ref a] ∧ SqL K H a (ns.map V.int) ∧ ns.length ≤ 63 ∧ ∀ H', Q (.bl true) H'
theorem cx_none {P : Program} {w : World} {o : List Env} {H : Hp} {s : Shared} {e : Value} {s' : Shared} (h : L2.CX P w o H s (fun _ _ _ => False) e s') : False := by
  obtain ⟨_, _, _, _, _, _, _, _, _, _, _, _, z⟩ := h
  exact z
/-- the promise of the very def that the name stands for -/
theorem Ok.fn {P : Program} {w : World} {K : PySem.W.Frag} {mg : Str → Option Value} {base : Heap} {k : Nat} {x : Str} {ps : List Str} {sp : Sp} {st : Stmt} {f : Addr} {fd : FuncData} (O : Ok P w K mg base k x ps sp) (g : mg x = some (.ref f)) (F : Fun K x x st f fd) : FnOk P w K mg base (L2.CX P w) k f fd ps sp := by
  obtain ⟨f', fd', g', kp, b, F', oc', od', osl', lk'⟩ := O.ex
  obtain ⟨oc, od, kV, doc, pm, an, cdv, ct, osl, hfd, lk, hcd⟩ := F.ex
  rw [g] at g'
  cases g'
  rw [lk] at lk'
  cases lk'
  exact F'
end Kj

/-! Kj2: statements, over parts of the heap that stand apart. s: the last of a block; q: something behind. -/
namespace Kj
open PySem PySem.Spec PyProof.Rows L2 Evl
section
variable {K : PySem.W.Frag} {mg : Str → Option Value} {σ : L2.St} {H G : Hp} {Ns : List Hp} {ta tb te tx : TE} {tr : TA} {t u : TT} {v : V} {P : Hp → V → Prop} {W : WX} {xn : Str} {fs : List (Str × V)} {D : Ends} {tu tw tz : TS} {g : TG}
theorem s_v {i : Nat} (o : Own Ns H) (h : Ev te σ H v) (k : ∀ H1, Own Ns H1 → D.nx (σ.set i (some v)) H1) : tAsg te (gName i) D σ H := h H (Ex.refl H) _ fun H1 e => k H1 (o.mono e)
theorem q_v {i : Nat} (o : Own Ns H) (h : Ev te σ H v) (k : ∀ H1, Own Ns H1 → tz D (σ.set i (some v)) H1) : tSeq (tAsg te (gName i)) tz D σ H := s_v (D := { D with nx := tz D }) o h k
theorem s_n {i : Nat} (o : Own Ns H) (h : EvP te σ H P) (k : ∀ v H1 N, Own (N :: Ns) H1 → P N v → D.nx (σ.set i (some v)) H1) : tAsg te (gName i) D σ H := h H (Ex.refl H) _ fun v H1 N e e2 f p => k v H1 N (o.add e e2 f) p
theorem q_n {i : Nat} (o : Own Ns H) (h : EvP te σ H P) (k : ∀ v H1 N, Own (N :: Ns) H1 → P N v → tz D (σ.set i (some v)) H1) : tSeq (tAsg te (gName i)) tz D σ H := s_n (D := { D with nx := tz D }) o h k
theorem s_l {i : Nat} {xs : List V} (o : Own Ns H) (h : EvL te σ H xs) (k : ∀ p H1, Own (sing p (.lst xs) :: Ns) H1 → D.nx (σ.set i (some (.ref p))) H1) : tAsg te (gName i) D σ H := h H (Ex.refl H) _ fun p H1 hp e h1 => k p H1 (o.add e (sing_ex h1) (sing_fr hp))
theorem q_l {i : Nat} {xs : List V} (o : Own Ns H) (h : EvL te σ H xs) (k : ∀ p H1, Own (sing p (.lst xs) :: Ns) H1 → tz D (σ.set i (some (.ref p))) H1) : tSeq (tAsg te (gName i)) tz D σ H := s_l (D := { D with nx := tz D }) o h k
theorem s_er (h : EvErr mg W xn fs te σ H) (k : RaiseX mg xn fs H (WE W σ)) : tAsg te g D σ H := h H (Ex.refl H) k _
theorem s_dv (o : Own Ns H) (h : EvP te σ H P) (k : ∀ H1, Own Ns H1 → D.nx σ H1) : tDrop te D σ H := h H (Ex.refl H) _ fun v H1 N e _ _ _ => k H1 (o.mono e)
theorem q_dv (o : Own Ns H) (h : EvP te σ H P) (k : ∀ H1, Own Ns H1 → tz D σ H1) : tSeq (tDrop te) tz D σ H := s_dv (D := { D with nx := tz D }) o h k
theorem s_der (h : EvErr mg W xn fs te σ H) (k : RaiseX mg xn fs H (WE W σ)) : tDrop te D σ H := h H (Ex.refl H) k _
theorem q_der (h : EvErr mg W xn fs te σ H) (k : RaiseX mg xn fs H (WE W σ)) : tSeq (tDrop te) tz D σ H := s_der (D := { D with nx := tz D }) h k
theorem s_fi {b : Bool} (o : Own Ns H) (h : EvT t σ H b) (h1 : b = true → ∀ H1, Own Ns H1 → tu D σ H1) (h2 : b = false → ∀ H1, Own Ns H1 → tw D σ H1) : tIfS t tu tw D σ H := h H (Ex.refl H) _ fun H1 e => by
  cases b with
  | true =>
    show tu D σ H1
    exact h1 rfl H1 (o.mono e)
  | false =>
    show tw D σ H1
    exact h2 rfl H1 (o.mono e)
theorem q_fi {b : Bool} (o : Own Ns H) (h : EvT t σ H b) (h1 : b = true → ∀ H1, Own Ns H1 → tu { D with nx := tz D } σ H1) (h2 : b = false → ∀ H1, Own Ns H1 → tw { D with nx := tz D } σ H1) : tSeq (tIfS t tu tw) tz D σ H := s_fi (D := { D with nx := tz D }) o h h1 h2
theorem q_wh {b : Bool} (o : Own Ns H) (h : EvT t σ H b) (h1 : b = true → ∀ H1, Own Ns H1 → tu { D with nx := tz D } σ H1) (h2 : b = false → ∀ H1, Own Ns H1 → tz D σ H1) : tSeq (tIfS t tu tNext) tz D σ H := s_fi (D := { D with nx := tz D }) o h h1 h2
theorem s_wh {b : Bool} (o : Own Ns H) (h : EvT t σ H b) (h1 : b = true → ∀ H1, Own Ns H1 → tu D σ H1) (h2 : b = false → ∀ H1, Own Ns H1 → D.nx σ H1) : tIfS t tu tNext D σ H := s_fi o h h1 h2
theorem s_rv (o : Own Ns H) (h : Ev te σ H v) (k : ∀ H1, Own Ns H1 → D.rt v H1) : tRet te D σ H := h H (Ex.refl H) _ fun H1 e => k H1 (o.mono e)
theorem s_rn (o : Own Ns H) (h : EvP te σ H P) (k : ∀ v H1 N, Own (N :: Ns) H1 → P N v → D.rt v H1) : tRet te D σ H := h H (Ex.refl H) _ fun v H1 N e e2 f p => k v H1 N (o.add e e2 f) p
theorem s_rer (h : EvErr mg W xn fs te σ H) (k : RaiseX mg xn fs H (WE W σ)) : tRet te D σ H := h H (Ex.refl H) k _
theorem s_app {l : Addr} {xs : List V} {j : Nat} (o : Own Ns H) (hj : Ns[j]? = some (sing l (.lst xs))) (ha : Ev ta σ H (.ref l)) (h : Ev te σ H v) (hz : xs.length < 100000) (k : ∀ H1, Own (Ns.set j (sing l (.lst (xs ++ [v])))) H1 → D.nx σ H1) : tDrop (tBM K "list" rAppend ta (tCons te tNil)) D σ H := Evl.s_app (o.at hj) ha h hz fun H1 e => k _ ((o.mono e).set hj)
theorem q_app {l : Addr} {xs : List V} {j : Nat} (o : Own Ns H) (hj : Ns[j]? = some (sing l (.lst xs))) (ha : Ev ta σ H (.ref l)) (h : Ev te σ H v) (hz : xs.length < 100000) (k : ∀ H1, Own (Ns.set j (sing l (.lst (xs ++ [v])))) H1 → tz D σ H1) : tSeq (tDrop (tBM K "list" rAppend ta (tCons te tNil))) tz D σ H := s_app (D := { D with nx := tz D }) o hj ha h hz k
theorem s_appN {l : Addr} {xs : List V} {j : Nat} (o : Own Ns H) (hj : Ns[j]? = some (sing l (.lst xs))) (ha : Ev ta σ H (.ref l)) (h : EvP te σ H P) (hz : xs.length < 100000) (k : ∀ v H1 N, Own (N :: Ns.set j (sing l (.lst (xs ++ [v])))) H1 → P N v → D.nx σ H1) : tDrop (tBM K "list" rAppend ta (tCons te tNil)) D σ H := ha H (Ex.refl H) _ fun H1 e1 =>
  ⟨Or.inl ⟨rfl, xs, sq_of (e1 l _ (o.at hj))⟩, h H1 e1 _ fun v H2 N e2 e3 f p => ⟨l, xs, v, rfl, rfl, e2 l _ (e1 l _ (o.at hj)), sz_lt hz, k v _ N (((o.mono e1).add e2 e3 f).set (j := j + 1) hj) p⟩⟩
/-- for x in range(n) -/
theorem s_rg {j : Nat} {n : Int} (o : Own Ns H) (h : EvA tr σ H [.int n]) (hn : n ≤ 100000) (Pv : Nat → L2.St → Hp → Prop) (h0 : ∀ H1, Own Ns H1 → Pv 0 σ H1)
    (hs : ∀ (i : Nat) σ' H', (i : Int) < n → Pv i σ' H' → tu { D with nx := Pv (i + 1), ct := Pv (i + 1), bk := D.nx } (σ'.set j (some (.int (i : Int)))) H') (hd : ∀ σ' H', Pv n.toNat σ' H' → D.nx σ' H') (hm : -100000 ≤ n := by omega) : tFor (iRng1 tr) (gName j) tu D σ H :=
  h H (Ex.refl H) _ fun H1 e => ⟨n, rfl, by omega, by omega, for_range (lo := 0) (n := n.toNat) Pv (h0 H1 (o.mono e)) (fun i σ' H' hi p => by
    have e0 : (0 : Int) + (i : Int) = (i : Int) := Int.zero_add _
    show tu { D with nx := Pv (i + 1), ct := Pv (i + 1), bk := D.nx } (σ'.set j (some (.int ((0 : Int) + (i : Int))))) H'
    rw [e0]
    exact hs i σ' H' (by omega) p) hd⟩
/-- for x in a new list -/
theorem s_fn {xs : List V} {tl : TE} {j : Nat} (o : Own Ns H) (h : EvL tl σ H xs) (Pv : Nat → Addr → L2.St → Hp → Prop) (h0 : ∀ p H1, Own (sing p (.lst xs) :: Ns) H1 → Pv 0 p σ H1) (hl : ∀ i p σ' H', i ≤ xs.length → Pv i p σ' H' → H' p = some (.lst xs))
    (hs : ∀ i p x σ' H', xs[i]? = some x → Pv i p σ' H' → tu { D with nx := Pv (i + 1) p, ct := Pv (i + 1) p, bk := D.nx } (σ'.set j (some x)) H') (hd : ∀ p σ' H', Pv xs.length p σ' H' → D.nx σ' H') : tFor (iList K tl) (gName j) tu D σ H :=
  h H (Ex.refl H) _ fun p H1 hp e h1 => ⟨p, rfl, ⟨xs, sq_of h1⟩, for_list (fun i σ' H' => Pv i p σ' H') (h0 p H1 (o.add e (sing_ex h1) (sing_fr hp))) (fun i σ' H' hi q => sq_of (hl i p σ' H' hi q)) (fun i x σ' H' hx q => hs i p x σ' H' hx q) (fun σ' H' q => hd p σ' H' q)⟩
theorem q_fn {xs : List V} {tl : TE} {j : Nat} (o : Own Ns H) (h : EvL tl σ H xs) (Pv : Nat → Addr → L2.St → Hp → Prop) (h0 : ∀ p H1, Own (sing p (.lst xs) :: Ns) H1 → Pv 0 p σ H1) (hl : ∀ i p σ' H', i ≤ xs.length → Pv i p σ' H' → H' p = some (.lst xs))
    (hs : ∀ i p x σ' H', xs[i]? = some x → Pv i p σ' H' → tu { D with nx := Pv (i + 1) p, ct := Pv (i + 1) p, bk := tz D } (σ'.set j (some x)) H') (hd : ∀ p σ' H', Pv xs.length p σ' H' → tz D σ' H') : tSeq (tFor (iList K tl) (gName j) tu) tz D σ H :=
  s_fn (D := { D with nx := tz D }) o h Pv h0 hl hs hd
/-- while, by a word and a measure -/
theorem q_wl (Pv : Nat → L2.St → Hp → Prop) (m0 : Nat) (h0 : Pv m0 σ H)
    (hs : ∀ m σ' H', Pv m σ' H' → ∃ b, EvT t σ' H' b ∧ (b = true → ∀ H1, Ex H' H1 → tu { D with nx := fun σ2 H2 => ∃ m', m' < m ∧ Pv m' σ2 H2, ct := fun σ2 H2 => ∃ m', m' < m ∧ Pv m' σ2 H2, bk := tz D } σ' H1) ∧ (b = false → ∀ H1, Ex H' H1 → tz D σ' H1)) : tSeq (tWhile t tu) tz D σ H :=
  q_while Pv m0 h0 fun m σ' H' p => by
    obtain ⟨b, h1, h2, h3⟩ := hs m σ' H' p
    exact ⟨b, h1, fun hb H1 e => ⟨_, fun _ _ q => q, h2 hb H1 e⟩, h3⟩
end
end Kj
namespace Kj
open PySem PySem.Spec PyProof.Rows L2 Evl
section
variable {K : PySem.W.Frag} {mg : Str → Option Value} {Wout : WX} {D : Ends} {l : List (Value × (Addr → Value → Option Addr → TS))} {ts : Addr → Value → Option Addr → TS} {σ : L2.St} {H : Hp} {xn : Str} {fs : List (Str × V)} {C : Addr} {c : Value}
/-- the clause at hand takes the error, or lets it by -/
theorem raise_hit (hC : mg xn = some (.ref C)) (h : PySem.W.exmOne K (.ref C) c = some true) (k : ∀ H' d a, Ex H H' → H' a = none → (fs = [] ∧ d = none ∨ ∃ a, d = some a ∧ H' a = some (.xd fs) ∧ H a = none ∧ fs ≠ []) → ts a (.ref C) d D σ H') :
    RaiseX mg xn fs H (WE (wMany K Wout D ((c, ts) :: l)) σ) := fun H' C' d e g cc => by
  have e1 : C' = C := by
    rw [hC] at g
    cases g
    rfl
  subst e1
  exact ⟨true, h, fun _ a ha => k H' d a e ha cc, fun z => nomatch z⟩
end
end Kj

/-! Kj3: what is walked: an iterator by what it draws; loops and comprehensions over it. -/
namespace Kj
open PySem PySem.Spec PyProof.Rows L2 Evl
/-- J draws n items, the i-th told by Y, in every heap that holds G -/
structure Drw (J : L2.It) (G : Hp) (n : Nat) (Y : Nat → V → Hp → Prop) : Prop where
  go : ∀ i H', Ex G H' → i < n → J.go i H'
  stop : ∀ H', Ex G H' → J.stop n H'
  yld : ∀ i H' x H'', Ex G H' → i < n → J.yld i H' x H'' → Ex H' H'' ∧ Y i x H''
theorem Drw.mono {J : L2.It} {G G' : Hp} {n : Nat} {Y : Nat → V → Hp → Prop} (e : Ex G G') (d : Drw J G n Y) : Drw J G' n Y :=
  ⟨fun i H' a h => d.go i H' (e.trans a) h, fun H' a => d.stop H' (e.trans a), fun i H' x H'' a h y => d.yld i H' x H'' (e.trans a) h y⟩
/-- the iterable is worth an iterator that draws so; G: the part that it reads -/
def EvI (wi : TI) (σ : L2.St) (H G : Hp) (n : Nat) (Y : Nat → V → Hp → Prop) : Prop := ∀ H1, Ex H H1 → ∀ R : L2.It → Hp → Prop, (∀ J H2, Ex H1 H2 → Drw J G n Y → R J H2) → wi σ H1 R
theorem drw_list {K : PySem.W.Frag} {G : Hp} {a : Addr} {xs : List V} (h : SqL K G a xs) : Drw (Itl K a) G xs.length fun i x _ => xs[i]? = some x where
  go := fun i H' e hi => ⟨xs, xs[i], ex_l e h, by simp [hi]⟩
  stop := fun H' e => ⟨xs, ex_l e h, Nat.le_refl _⟩
  yld := fun i H' x H'' e hi y => by
    obtain ⟨e1, y⟩ := y
    subst e1
    exact ⟨Ex.refl _, y xs (ex_l e h)⟩
theorem drw_rng {G : Hp} {lo : Int} {n : Nat} : Drw (Itr lo n) G n fun i x _ => x = .int (lo + i) where
  go := fun i H' _ hi => hi
  stop := fun H' _ => Nat.le_refl _
  yld := fun i H' x H'' _ hi y => by
    obtain ⟨e1, y⟩ := y
    subst e1
    exact ⟨Ex.refl _, y⟩
theorem drw_str {G : Hp} {w : Str} : Drw (Its w) G w.cps.size fun i x _ => ∃ c, w.cps[i]? = some c ∧ x = .str ⟨#[c]⟩ where
  go := fun i H' _ hi => hi
  stop := fun H' _ => Nat.le_refl _
  yld := fun i H' x H'' _ hi y => by
    obtain ⟨e1, y⟩ := y
    subst e1
    exact ⟨Ex.refl _, y⟩
theorem drw_enum {K : PySem.W.Frag} {G : Hp} {a : Addr} {xs : List V} (h : SqL K G a xs) : Drw (Ite K a) G xs.length fun i x H' => ∃ T y, x = .ref T ∧ H' T = some (.tup [.int (i : Nat), y]) ∧ xs[i]? = some y where
  go := fun i H' e hi => ⟨xs, xs[i], ex_l e h, by simp [hi]⟩
  stop := fun H' e => ⟨xs, ex_l e h, Nat.le_refl _⟩
  yld := fun i H' x H'' e hi y => by
    obtain ⟨T, z, e1, e2, e3, y⟩ := y
    subst e3
    exact ⟨Ex.new e2, T, z, e1, upd_same, y xs (ex_l e h)⟩
theorem drw_zip {K : PySem.W.Frag} {G : Hp} {a b : Addr} {xs ys : List V} (h : SqL K G a xs) (h2 : SqL K G b ys) (hl : xs.length = ys.length) : Drw (Itz K a b) G xs.length fun i x H' => ∃ T y z, x = .ref T ∧ H' T = some (.tup [y, z]) ∧ xs[i]? = some y ∧ ys[i]? = some z where
  go := fun i H' e hi => ⟨xs, ys, xs[i], ys[i], ex_l e h, ex_l e h2, by simp [hi], by simp⟩
  stop := fun H' e => ⟨xs, ys, ex_l e h, ex_l e h2, .inl (Nat.le_refl _)⟩
  yld := fun i H' x H'' e hi y => by
    obtain ⟨T, z, z2, e1, e2, e3, y, y2⟩ := y
    subst e3
    exact ⟨Ex.new e2, T, z, z2, e1, upd_same, y xs (ex_l e h), y2 ys (ex_l e h2)⟩
theorem drw_zipT {K : PySem.W.Frag} {G : Hp} {a b : Addr} {xs ys : List V} (h : SqT K G a xs) (h2 : SqT K G b ys) (hl : xs.length = ys.length) : Drw (RZ.ItzT K a b) G xs.length fun i x H' => ∃ T y z, x = .ref T ∧ H' T = some (.tup [y, z]) ∧ xs[i]? = some y ∧ ys[i]? = some z where
  go := fun i H' e hi => ⟨xs, ys, xs[i], ys[i], ex_t e h, ex_t e h2, by simp [hi], by simp⟩
  stop := fun H' e => ⟨xs, ys, ex_t e h, ex_t e h2, .inl (Nat.le_refl _)⟩
  yld := fun i H' x H'' e hi y => by
    obtain ⟨T, z, z2, e1, e2, e3, y, y2⟩ := y
    subst e3
    exact ⟨Ex.new e2, T, z, z2, e1, upd_same, y xs (ex_t e h), y2 ys (ex_t e h2)⟩
section
variable {K : PySem.W.Frag} {mg : Str → Option Value} {σ : L2.St} {H G : Hp} {Ns : List Hp} {ta tb te tx : TE} {tr : TA} {t tt : TT} {v : V} {P : Hp → V → Prop} {W : WX} {D : Ends} {tu tw tz : TS} {g : TG} {wi : TI} {n : Nat} {Y : Nat → V → Hp → Prop}
theorem ei_list {a : Addr} {xs : List V} (h : Ev te σ H (.ref a)) (hx : SqL K G a xs) (eg : Ex G H) : EvI (iList K te) σ H G xs.length fun i x _ => xs[i]? = some x := fun H1 e R q => h H1 e _ fun H2 e2 => ⟨a, rfl, ⟨xs, ex_l ((eg.trans e).trans e2) hx⟩, q _ H2 e2 (drw_list hx)⟩
theorem ei_rng1 {m : Int} (h : EvA tr σ H [.int m]) (hm : -100000 ≤ m ∧ m ≤ 100000) : EvI (iRng1 tr) σ H G m.toNat fun i x _ => x = .int (i : Nat) := fun H1 e R q => h H1 e _ fun H2 e2 => ⟨m, rfl, by omega, by omega, q _ H2 e2 ⟨drw_rng.go, drw_rng.stop (G := G), fun i H' x H'' a hi y => by
  obtain ⟨z1, z2⟩ := (drw_rng (G := G)).yld i H' x H'' a hi y
  exact ⟨z1, by rw [z2, Int.zero_add]⟩⟩⟩
theorem ei_rng2 {l m : Int} (h : EvA tr σ H [.int l, .int m]) (hm : -100000 ≤ m ∧ m ≤ 100000) (hl : -100000 ≤ l ∧ l ≤ 100000) : EvI (iRng2 tr) σ H G (m - l).toNat fun i x _ => x = .int (l + (i : Nat)) := fun H1 e R q => h H1 e _ fun H2 e2 => ⟨l, m, rfl, ⟨by omega, by omega, by omega, by omega⟩, q _ H2 e2 drw_rng⟩
theorem ei_str {w : Str} (h : Ev te σ H (.str w)) : EvI (iStr te) σ H G w.cps.size fun i x _ => ∃ c, w.cps[i]? = some c ∧ x = .str ⟨#[c]⟩ := fun H1 e R q => h H1 e _ fun H2 e2 => ⟨w, rfl, q _ H2 e2 drw_str⟩
theorem ei_enum {a : Addr} {xs : List V} (h : EvA tr σ H [.ref a]) (hx : SqL K G a xs) (eg : Ex G H) : EvI (iEnum K tr) σ H G xs.length fun i x H' => ∃ T y, x = .ref T ∧ H' T = some (.tup [.int (i : Nat), y]) ∧ xs[i]? = some y := fun H1 e R q => h H1 e _ fun H2 e2 => ⟨a, xs, rfl, ex_l ((eg.trans e).trans e2) hx, q _ H2 e2 (drw_enum hx)⟩
theorem ei_zip {a b : Addr} {xs ys : List V} (h : EvA tr σ H [.ref a, .ref b]) (hx : SqL K G a xs) (hy : SqL K G b ys) (hl : xs.length = ys.length) (eg : Ex G H) : EvI (RZ.iZipA K tr) σ H G xs.length fun i x H' => ∃ T y z, x = .ref T ∧ H' T = some (.tup [y, z]) ∧ xs[i]? = some y ∧ ys[i]? = some z := fun H1 e R q =>
  h H1 e _ fun H2 e2 => ⟨a, b, xs, ys, rfl, .inl ⟨ex_l ((eg.trans e).trans e2) hx, ex_l ((eg.trans e).trans e2) hy, q _ H2 e2 (drw_zip hx hy hl)⟩⟩
theorem ei_zipT {a b : Addr} {xs ys : List V} (h : EvA tr σ H [.ref a, .ref b]) (hx : SqT K G a xs) (hy : SqT K G b ys) (hl : xs.length = ys.length) (eg : Ex G H) : EvI (RZ.iZipA K tr) σ H G xs.length fun i x H' => ∃ T y z, x = .ref T ∧ H' T = some (.tup [y, z]) ∧ xs[i]? = some y ∧ ys[i]? = some z := fun H1 e R q =>
  h H1 e _ fun H2 e2 => ⟨a, b, xs, ys, rfl, .inr ⟨ex_t ((eg.trans e).trans e2) hx, ex_t ((eg.trans e).trans e2) hy, q _ H2 e2 (drw_zipT hx hy hl)⟩⟩
/-- any new list, its items told by what holds of the list -/
theorem ej_listP {X : List V → Hp → Prop} (h : EvP te σ H (fun N v => ∃ p xs, v = .ref p ∧ N p = some (.lst xs) ∧ X xs N)) : ∀ H1, Ex H H1 → ∀ R : L2.It → Hp → Prop, (∀ J H2 N xs, Ex H1 H2 → Ex N H2 → Fr H1 N → X xs N → Drw J N xs.length (fun i x _ => xs[i]? = some x) → R J H2) → iList K te σ H1 R := fun H1 e R q =>
  h H1 e _ fun v H2 N e2 e3 f ⟨p, xs, ev, hp, hX⟩ => ⟨p, ev, ⟨xs, sq_of (e3 _ _ hp)⟩, q _ H2 N xs e2 e3 f hX (drw_list (sq_of hp))⟩
/-! ### loops -/
theorem for_drw {J : L2.It} (d : Drw J G n Y) (Pv : Nat → L2.St → Hp → Prop) (h0 : Pv 0 σ H) (hG : ∀ i σ' H', i ≤ n → Pv i σ' H' → Ex G H')
    (hs : ∀ i x σ' H' H'', i < n → Pv i σ' H' → Ex H' H'' → Y i x H'' → g x σ' H'' fun σ2 H2 => tu { D with nx := Pv (i + 1), ct := Pv (i + 1), bk := D.nx } σ2 H2) (hd : ∀ σ' H', Pv n σ' H' → D.nx σ' H') :
    ∃ W : Nat → Nat → L2.St → Hp → Prop, (∃ m, W 0 m σ H) ∧ ∀ i m σ H, W i m σ H →
      (J.stop i H ∧ D.nx σ H) ∨ (J.go i H ∧ ∃ N : L2.St → Hp → Prop, (∀ σ' H', N σ' H' → ∃ m', m' < m ∧ W (i + 1) m' σ' H') ∧ ∀ x H', J.yld i H x H' → g x σ H' fun σ2 H2 => tu { D with nx := N, ct := N, bk := D.nx } σ2 H2) := by
  refine ⟨fun i m σ H => m = n - i ∧ i ≤ n ∧ Pv i σ H, ⟨n, by simp, Nat.zero_le _, h0⟩, ?_⟩
  rintro i m σ H ⟨rfl, hi, p⟩
  have eG := hG i σ H hi p
  by_cases hlt : i < n
  · refine .inr ⟨d.go i H eG hlt, Pv (i + 1), fun σ' H' p' => ⟨n - (i + 1), by omega, rfl, hlt, p'⟩, fun x H' y => ?_⟩
    obtain ⟨e, y⟩ := d.yld i H x H' eG hlt y
    exact hs i x σ H H' hlt p e y
  · have e : i = n := by omega
    subst e
    exact .inl ⟨d.stop H eG, hd σ H p⟩
theorem s_for (o : Own Ns H) (hi : EvI wi σ H G n Y) (Pv : Nat → L2.St → Hp → Prop) (h0 : ∀ H1, Own Ns H1 → Pv 0 σ H1) (hG : ∀ i σ' H', i ≤ n → Pv i σ' H' → Ex G H')
    (hs : ∀ i x σ' H' H'', i < n → Pv i σ' H' → Ex H' H'' → Y i x H'' → g x σ' H'' fun σ2 H2 => tu { D with nx := Pv (i + 1), ct := Pv (i + 1), bk := D.nx } σ2 H2) (hd : ∀ σ' H', Pv n σ' H' → D.nx σ' H') : tFor wi g tu D σ H :=
  hi H (Ex.refl H) _ fun J H1 e d => for_drw d Pv (h0 H1 (o.mono e)) hG hs hd
theorem q_for (o : Own Ns H) (hi : EvI wi σ H G n Y) (Pv : Nat → L2.St → Hp → Prop) (h0 : ∀ H1, Own Ns H1 → Pv 0 σ H1) (hG : ∀ i σ' H', i ≤ n → Pv i σ' H' → Ex G H')
    (hs : ∀ i x σ' H' H'', i < n → Pv i σ' H' → Ex H' H'' → Y i x H'' → g x σ' H'' fun σ2 H2 => tu { D with nx := Pv (i + 1), ct := Pv (i + 1), bk := tz D } σ2 H2) (hd : ∀ σ' H', Pv n σ' H' → tz D σ' H') : tSeq (tFor wi g tu) tz D σ H :=
  s_for (D := { D with nx := tz D }) o hi Pv h0 hG hs hd
/-! ### comprehensions -/
theorem lc_drw {J : L2.It} {vs : List Nat} {H1 : Hp} {Dl : Addr} {Qd : Hp → Prop} (d : Drw J G n Y) (Pv : Nat → Hp → Prop) (h0 : Pv 0 (upd H1 Dl (.lst []))) (hG : ∀ i H', i ≤ n → Pv i H' → Ex G H')
    (hs : ∀ i x H' H'', i < n → Pv i H' → Ex H' H'' → Y i x H'' → g x (wipe σ vs) H'' fun σ2 H2 => wipe σ2 vs = wipe σ vs ∧ tt σ2 H2 fun b H3 =>
      if b = true then te σ2 H3 fun y H4 => ∃ acc, H4 Dl = some (.lst acc) ∧ acc.length < sizeLine ∧ Pv (i + 1) (upd H4 Dl (.lst (acc ++ [y]))) else Pv (i + 1) H3) (hd : ∀ H', Pv n H' → Qd H') :
    ∃ W : Nat → Nat → Hp → Prop, (∃ m, W 0 m (upd H1 Dl (.lst []))) ∧ ∀ i m H, W i m H →
      (J.stop i H ∧ Qd H) ∨ (J.go i H ∧ ∃ Nx : Hp → Prop, (∀ H', Nx H' → ∃ m', m' < m ∧ W (i + 1) m' H') ∧ ∀ x H', J.yld i H x H' → g x (wipe σ vs) H' fun σ2 H2 => wipe σ2 vs = wipe σ vs ∧ tt σ2 H2 fun b H3 =>
        if b = true then te σ2 H3 fun y H4 => ∃ acc, H4 Dl = some (.lst acc) ∧ acc.length < sizeLine ∧ Nx (upd H4 Dl (.lst (acc ++ [y]))) else Nx H3) := by
  refine ⟨fun i m H => m = n - i ∧ i ≤ n ∧ Pv i H, ⟨n, by simp, Nat.zero_le _, h0⟩, ?_⟩
  rintro i m H ⟨rfl, hi, p⟩
  have eG := hG i H hi p
  by_cases hlt : i < n
  · refine .inr ⟨d.go i H eG hlt, Pv (i + 1), fun H' p' => ⟨n - (i + 1), by omega, rfl, hlt, p'⟩, fun x H' y => ?_⟩
    obtain ⟨e, y⟩ := d.yld i H x H' eG hlt y
    exact hs i x H H' hlt p e y
  · have e : i = n := by omega
    subst e
    exact .inl ⟨d.stop H eG, hd H p⟩
/-- the places that are taken -/
def picks (n : Nat) (f : Nat → Bool) : List Nat := (List.range n).filter f
theorem picks_yes {i : Nat} {f : Nat → Bool} (h : f i = true) : picks (i + 1) f = picks i f ++ [i] := by
  unfold picks
  rw [List.range_succ, List.filter_append, List.filter_cons, if_pos h]
  rfl
theorem picks_no {i : Nat} {f : Nat → Bool} (h : f i = false) : picks (i + 1) f = picks i f := by
  unfold picks
  rw [List.range_succ, List.filter_append, List.filter_cons, if_neg (by rw [h]; decide)]
  exact List.append_nil _
theorem picks_len (n : Nat) (f : Nat → Bool) : (picks n f).length ≤ n := by
  have h := List.length_filter_le f (List.range n)
  rw [List.length_range] at h
  exact h
theorem paired_snoc {α β : Type} {R : α → β → Prop} : ∀ {xs : List α} {ys : List β} {x : α} {y : β}, Paired R xs ys → R x y → Paired R (xs ++ [x]) (ys ++ [y])
  | _, _, _, _, .nil, h => .cons h .nil
  | _, _, _, _, .cons a r, h => .cons a (paired_snoc r h)
theorem paired_imp {α β : Type} {R R' : α → β → Prop} (i : ∀ x y, R x y → R' x y) : ∀ {xs : List α} {ys : List β}, Paired R xs ys → Paired R' xs ys
  | _, _, .nil => .nil
  | _, _, .cons a r => .cons (i _ _ a) (paired_imp i r)
/-- flat values -/
theorem el_lc {vs : List Nat} (S : Nat → L2.St) (f : Nat → Bool) (v : Nat → V) (hi : EvI wi σ H G n Y) (eG : Ex G H) (hn : n ≤ 50000) (hg : ∀ i x H', i < n → Y i x H' → ∀ Q : L2.St → Hp → Prop, Q (S i) H' → g x (wipe σ vs) H' Q) (hw : ∀ i, i < n → wipe (S i) vs = wipe σ vs)
    (ht : ∀ i H1, Ex H H1 → i < n → EvT tt (S i) H1 (f i)) (he : ∀ i H1, Ex H H1 → i < n → f i = true → Ev te (S i) H1 (v i)) : EvL (tLc wi g tt te vs) σ H ((picks n f).map v) := fun H0 e Q q =>
  hi H0 e _ fun J H1 e1 d Dl hD => lc_drw d (fun i H' => Ex H1 H' ∧ H' Dl = some (.lst ((picks i f).map v))) ⟨Ex.new hD, upd_same⟩ (fun i H' _ p => ((eG.trans e).trans e1).trans p.1) (fun i x H' H'' hlt p e2 hy => hg i x H'' hlt hy _ ⟨hw i hlt, by
    refine ht i H'' (((e.trans e1).trans p.1).trans e2) hlt H'' (Ex.refl _) _ fun H3 e3 => ?_
    cases hf : f i with
    | true =>
      show te (S i) H3 _
      refine he i H3 ((((e.trans e1).trans p.1).trans e2).trans e3) hlt hf H3 (Ex.refl _) _ fun H4 e4 => ⟨_, e4 _ _ (e3 _ _ (e2 _ _ p.2)), ?_, Ex.mut (((p.1.trans e2).trans e3).trans e4) hD, ?_⟩
      · rw [List.length_map]
        exact sz_lt (by have := picks_len i f; omega)
      · rw [upd_same, picks_yes hf, List.map_append]
        rfl
    | false =>
      show Ex H1 H3 ∧ H3 Dl = _
      refine ⟨(p.1.trans e2).trans e3, ?_⟩
      rw [picks_no hf]
      exact e3 _ _ (e2 _ _ p.2)⟩) (fun H' p => q Dl H' (fresh_back e1 hD) (e1.trans p.1) p.2)
/-- new values: the list and its items are one new part -/
theorem ep_lc {vs : List Nat} (S : Nat → L2.St) (f : Nat → Bool) (Pe : Nat → Hp → V → Prop) (pm : ∀ i N N' v, Ex N N' → Pe i N v → Pe i N' v) (hi : EvI wi σ H G n Y) (eG : Ex G H) (hn : n ≤ 50000) (hg : ∀ i x H', i < n → Y i x H' → ∀ Q : L2.St → Hp → Prop, Q (S i) H' → g x (wipe σ vs) H' Q) (hw : ∀ i, i < n → wipe (S i) vs = wipe σ vs)
    (ht : ∀ i H1, Ex H H1 → i < n → EvT tt (S i) H1 (f i)) (he : ∀ i H1, Ex H H1 → i < n → f i = true → EvP te (S i) H1 (Pe i)) :
    EvP (tLc wi g tt te vs) σ H (fun N v => ∃ p xs, v = .ref p ∧ N p = some (.lst xs) ∧ Paired (fun i x => Pe i N x) (picks n f) xs) := fun H0 e Q q =>
  hi H0 e _ fun J H1 e1 d Dl hD => lc_drw d (fun i H' => ∃ N xs, Own [sing Dl (.lst xs), N, H1] H' ∧ Paired (fun i x => Pe i N x) (picks i f) xs ∧ xs.length ≤ i)
    ⟨emp, [], ⟨sing_ex upd_same, fun M hM a ha => by
      rcases List.mem_cons.mp hM with z | z
      · subst z; rfl
      · have z : M = H1 := by simpa using z
        subst z
        by_cases qa : a = Dl
        · subst qa; exact hD
        · exact absurd (sing_ne qa) ha, emp_ex, (fun _ _ a ha => absurd rfl ha), Ex.new hD, (fun _ h => nomatch h), trivial⟩, .nil, Nat.le_refl _⟩
    (fun i H' _ ⟨N, xs, o, _⟩ => ((eG.trans e).trans e1).trans o.e2) (fun i x H' H'' hlt ⟨N, xs, o, pr, hl⟩ e2 hy => hg i x H'' hlt hy _ ⟨hw i hlt, by
      have o2 := o.mono e2
      refine ht i H'' ((e.trans e1).trans o2.e2) hlt H'' (Ex.refl _) _ fun H3 e3 => ?_
      have o3 := o2.mono e3
      cases hf : f i with
      | true =>
        show te (S i) H3 _
        refine he i H3 ((e.trans e1).trans o3.e2) hlt hf H3 (Ex.refl _) _ fun y H4 N2 e4 i2 f2 py => ?_
        have o4 : Own [N2, sing Dl (.lst xs), N, H1] H4 := o3.add e4 i2 f2
        refine ⟨xs, o4.at (j := 1) rfl, sz_lt (by omega), uni N N2, xs ++ [y], ?_, ?_, ?_⟩
        · have o5 : Own [N2, sing Dl (.lst (xs ++ [y])), N, H1] (upd H4 Dl (.lst (xs ++ [y]))) := o4.set (j := 1) rfl
          have o6 : Own [sing Dl (.lst (xs ++ [y])), N2, N, H1] (upd H4 Dl (.lst (xs ++ [y]))) := o5.swap
          have o7 : Own [uni N N2, H1] (upd H4 Dl (.lst (xs ++ [y]))) := o6.tail.merge
          refine ⟨o6.1, fun M hM a ha => ?_, o7⟩
          rcases List.mem_cons.mp hM with z | z
          · subst z
            have d1 := o6.dj (i := 0) (j := 1) (by decide) rfl rfl
            have d2 := o6.dj (i := 0) (j := 2) (by decide) rfl rfl
            unfold uni
            rw [d1 a ha]
            exact d2 a ha
          · exact o6.2.1 M (List.mem_cons_of_mem _ (List.mem_cons_of_mem _ z)) a ha
        · rw [picks_yes hf]
          have dN : ∀ a, N2 a ≠ none → N a = none := o4.dj (i := 0) (j := 2) (by decide) rfl rfl
          exact paired_snoc (paired_imp (fun j z h => pm j _ _ _ (uni_l dN) h) pr) (pm i _ _ _ uni_r py)
        · rw [List.length_append, List.length_singleton]
          omega
      | false =>
        show ∃ N xs, _
        refine ⟨N, xs, o3, ?_, by omega⟩
        rw [picks_no hf]
        exact pr⟩) (fun H' ⟨N, xs, o, pr, _⟩ => q (.ref Dl) H' (uni N (sing Dl (.lst xs))) (e1.trans o.e2) (uni_ex o.e1 o.e0) (uni_fr (Fr.back e1 (o.dj (i := 1) (j := 2) (by decide) rfl rfl)) (sing_fr (fresh_back e1 hD))) ⟨Dl, xs, rfl, uni_r _ _ sing_at, paired_imp (fun j z h => pm j _ _ _ (uni_l (o.dj (i := 0) (j := 1) (by decide) rfl rfl)) h) pr⟩)
end
end Kj
namespace Kj
open PySem PySem.Spec PyProof.Rows L2 Evl
/-! ### by the items themselves -/
theorem picks_items {α β : Type} (d : α) (t : α → Bool) (f : α → β) : ∀ xs : List α, (picks xs.length fun i => t (xs.getD i d)).map (fun i => f (xs.getD i d)) = (xs.filter t).map f := by
  intro xs
  have key : ∀ n, n ≤ xs.length → (picks n fun i => t (xs.getD i d)).map (fun i => f (xs.getD i d)) = ((xs.take n).filter t).map f := by
    intro n
    induction n with
    | zero => intro _; rfl
    | succ n ih =>
      intro hn
      have hlt : n < xs.length := hn
      have e1 : xs.take (n + 1) = xs.take n ++ [xs[n]] := List.take_succ_eq_append_getElem hlt
      have e2 : xs.getD n d = xs[n] := by
        rw [List.getD_eq_getElem?_getD, List.getElem?_eq_getElem hlt]
        rfl
      cases ht : t (xs.getD n d) with
      | true =>
        rw [picks_yes (f := fun i => t (xs.getD i d)) ht, List.map_append, ih (by omega), e1, List.filter_append, List.map_append]
        congr 1
        rw [List.filter_cons, if_pos (by rw [← e2]; exact ht), ← e2]
        rfl
      | false =>
        rw [picks_no (f := fun i => t (xs.getD i d)) ht, ih (by omega), e1, List.filter_append, List.map_append]
        rw [List.filter_cons, if_neg (by rw [← e2, ht]; decide)]
        exact (List.append_nil _).symm
  have h := key xs.length (Nat.le_refl _)
  rw [List.take_length] at h
  exact h
section
variable {K : PySem.W.Frag} {mg : Str → Option Value} {σ : L2.St} {H G : Hp} {te : TE} {tr : TA} {tt : TT} {g : TG} {wi : TI}
theorem getD_of {xs : List V} {i : Nat} {x : V} (h : xs[i]? = some x) : xs.getD i .non = x := by
  rw [List.getD_eq_getElem?_getD, h]
  rfl
theorem get_of {xs : List V} {i : Nat} (h : i < xs.length) : xs[i]? = some (xs.getD i .non) := by
  rw [List.getD_eq_getElem?_getD, List.getElem?_eq_getElem h]
  rfl
theorem el_lcX {xs : List V} {vs : List Nat} (S : V → L2.St) (t : V → Bool) (f : V → V) (hi : EvI wi σ H G xs.length fun i x _ => xs[i]? = some x) (eG : Ex G H) (hn : xs.length ≤ 50000) (hg : ∀ x H', x ∈ xs → ∀ Q : L2.St → Hp → Prop, Q (S x) H' → g x (wipe σ vs) H' Q) (hw : ∀ x, wipe (S x) vs = wipe σ vs)
    (ht : ∀ x H1, Ex H H1 → x ∈ xs → EvT tt (S x) H1 (t x)) (he : ∀ x H1, Ex H H1 → x ∈ xs → t x = true → Ev te (S x) H1 (f x)) : EvL (tLc wi g tt te vs) σ H ((xs.filter t).map f) := by
  have m : ∀ {i}, i < xs.length → xs.getD i .non ∈ xs := fun h => List.mem_of_getElem? (get_of h)
  have h := el_lc (fun i => S (xs.getD i .non)) (fun i => t (xs.getD i .non)) (fun i => f (xs.getD i .non)) hi eG hn (fun i x H' hlt hx Q q => by rw [getD_of hx] at q; exact hg x H' (List.mem_of_getElem? hx) Q q) (fun i _ => hw _) (fun i H1 e hlt => ht _ H1 e (m hlt)) (fun i H1 e hlt h => he _ H1 e (m hlt) h)
  rw [picks_items] at h
  exact h
theorem paired_picks {R : V → V → Prop} {t : V → Bool} : ∀ {xs ys : List V}, Paired (fun (i : Nat) y => R (xs.getD i .non) y) (picks xs.length fun i => t (xs.getD i .non)) ys → Paired R (xs.filter t) ys := by
  intro xs ys h
  have e : xs.filter t = (picks xs.length fun i => t (xs.getD i .non)).map fun i => xs.getD i .non := by
    rw [picks_items (f := fun x : V => x)]
    simp
  rw [e]
  generalize (picks xs.length fun i => t (xs.getD i .non)) = is at h
  induction h with
  | nil => exact .nil
  | cons a _ ih => exact .cons a ih
theorem ep_lcX {xs : List V} {vs : List Nat} (S : V → L2.St) (t : V → Bool) (Pe : V → Hp → V → Prop) (pm : ∀ x N N' v, Ex N N' → Pe x N v → Pe x N' v) (hi : EvI wi σ H G xs.length fun i x _ => xs[i]? = some x) (eG : Ex G H) (hn : xs.length ≤ 50000) (hg : ∀ x H', x ∈ xs → ∀ Q : L2.St → Hp → Prop, Q (S x) H' → g x (wipe σ vs) H' Q) (hw : ∀ x, wipe (S x) vs = wipe σ vs)
    (ht : ∀ x H1, Ex H H1 → x ∈ xs → EvT tt (S x) H1 (t x)) (he : ∀ x H1, Ex H H1 → x ∈ xs → t x = true → EvP te (S x) H1 (Pe x)) :
    EvP (tLc wi g tt te vs) σ H (fun N v => ∃ p ys, v = .ref p ∧ N p = some (.lst ys) ∧ Paired (fun x y => Pe x N y) (xs.filter t) ys) := by
  have m : ∀ {i}, i < xs.length → xs.getD i .non ∈ xs := fun h => List.mem_of_getElem? (get_of h)
  refine ep_imp (ep_lc (fun i => S (xs.getD i .non)) (fun i => t (xs.getD i .non)) (fun i => Pe (xs.getD i .non)) (fun i N N' v e h => pm _ N N' v e h) hi eG hn (fun i x H' hlt hx Q q => by rw [getD_of hx] at q; exact hg x H' (List.mem_of_getElem? hx) Q q) (fun i _ => hw _) (fun i H1 e hlt => ht _ H1 e (m hlt)) (fun i H1 e hlt h => he _ H1 e (m hlt) h)) ?_
  rintro N v ⟨p, ys, e, h1, h2⟩
  exact ⟨p, ys, e, h1, paired_picks h2⟩
def signs (w : Str) : List V := w.cps.toList.map fun c => .str ⟨#[c]⟩
theorem signs_len (w : Str) : (signs w).length = w.length := by
  unfold signs
  rw [List.length_map]
  simp [Str.length]
theorem ei_strX {w : Str} (h : Ev te σ H (.str w)) : EvI (iStr te) σ H G (signs w).length fun i x _ => (signs w)[i]? = some x := fun H1 e R q => ei_str (G := G) h H1 e R fun J H2 e2 d => q J H2 e2 ⟨fun i H' a hi => d.go i H' a (by rw [signs_len] at hi; exact hi), fun H' a => by rw [signs_len]; exact d.stop H' a, fun i H' x H'' a hi y => by
  obtain ⟨e3, c, hc, rfl⟩ := d.yld i H' x H'' a (by rw [signs_len] at hi; exact hi) y
  refine ⟨e3, ?_⟩
  unfold signs
  rw [List.getElem?_map, Array.getElem?_toList, hc]
  rfl⟩
def rngV (n : Nat) : List V := (List.range n).map fun i => .int (i : Nat)
theorem rngV_len (n : Nat) : (rngV n).length = n := by simp [rngV]
theorem ei_rngX {m : Int} (h : EvA tr σ H [.int m]) (hm : -100000 ≤ m ∧ m ≤ 100000) : EvI (iRng1 tr) σ H G (rngV m.toNat).length fun i x _ => (rngV m.toNat)[i]? = some x := fun H1 e R q => ei_rng1 (G := G) h hm H1 e R fun J H2 e2 d => q J H2 e2 ⟨fun i H' a hi => d.go i H' a (by rw [rngV_len] at hi; exact hi), fun H' a => by rw [rngV_len]; exact d.stop H' a, fun i H' x H'' a hi y => by
  rw [rngV_len] at hi
  obtain ⟨e3, rfl⟩ := d.yld i H' x H'' a hi y
  refine ⟨e3, ?_⟩
  unfold rngV
  rw [List.getElem?_map, List.getElem?_range hi]
  rfl⟩
def rngV2 (l : Int) (n : Nat) : List V := (List.range n).map fun i => .int (l + (i : Nat))
theorem rngV2_len (l : Int) (n : Nat) : (rngV2 l n).length = n := by simp [rngV2]
theorem ei_rngX2 {l m : Int} (h : EvA tr σ H [.int l, .int m]) (hm : -100000 ≤ m ∧ m ≤ 100000) (hl : -100000 ≤ l ∧ l ≤ 100000) : EvI (iRng2 tr) σ H G (rngV2 l (m - l).toNat).length fun i x _ => (rngV2 l (m - l).toNat)[i]? = some x := fun H1 e R q => ei_rng2 (G := G) h hm hl H1 e R fun J H2 e2 d => q J H2 e2 ⟨fun i H' a hi => d.go i H' a (by rw [rngV2_len] at hi; exact hi), fun H' a => by rw [rngV2_len]; exact d.stop H' a, fun i H' x H'' a hi y => by
  rw [rngV2_len] at hi
  obtain ⟨e3, rfl⟩ := d.yld i H' x H'' a hi y
  refine ⟨e3, ?_⟩
  unfold rngV2
  rw [List.getElem?_map, List.getElem?_range hi]
  rfl⟩
theorem et_yes : EvT tYes σ H true := fun H1 _ _ q => q H1 (Ex.refl H1)
end
end Kj
namespace Kj
open PySem PySem.Spec PyProof.Rows L2 Evl
section
variable {K : PySem.W.Frag} {σ : L2.St} {H G : Hp} {Ns : List Hp} {D : Ends} {tu tz : TS} {wi : TI} {n j : Nat} {Y : Nat → V → Hp → Prop}
/-! ### the loop's target is a name -/
theorem s_forN (o : Own Ns H) (hi : EvI wi σ H G n Y) (Pv : Nat → L2.St → Hp → Prop) (h0 : ∀ H1, Own Ns H1 → Pv 0 σ H1) (hG : ∀ i σ' H', i ≤ n → Pv i σ' H' → Ex G H')
    (hs : ∀ i x σ' H' H'', i < n → Pv i σ' H' → Ex H' H'' → Y i x H'' → tu { D with nx := Pv (i + 1), ct := Pv (i + 1), bk := D.nx } (σ'.set j (some x)) H'') (hd : ∀ σ' H', Pv n σ' H' → D.nx σ' H') : tFor wi (gName j) tu D σ H := s_for o hi Pv h0 hG hs hd
theorem q_forN (o : Own Ns H) (hi : EvI wi σ H G n Y) (Pv : Nat → L2.St → Hp → Prop) (h0 : ∀ H1, Own Ns H1 → Pv 0 σ H1) (hG : ∀ i σ' H', i ≤ n → Pv i σ' H' → Ex G H')
    (hs : ∀ i x σ' H' H'', i < n → Pv i σ' H' → Ex H' H'' → Y i x H'' → tu { D with nx := Pv (i + 1), ct := Pv (i + 1), bk := tz D } (σ'.set j (some x)) H'') (hd : ∀ σ' H', Pv n σ' H' → tz D σ' H') : tSeq (tFor wi (gName j) tu) tz D σ H := q_for o hi Pv h0 hG hs hd
end
end Kj

/-! Kj4: data: items, kinds, depth; isinstance. -/
namespace Kj
open PySem PySem.Spec PyProof.Rows L2 Evl
section
variable {K : PySem.W.Frag} {H H' : Hp}
theorem dpa_len : ∀ {xs : List V} {ds : List PyData}, DpAll K H xs ds → xs.length = ds.length
  | _, _, .nil => rfl
  | _, _, .cons _ r => by rw [List.length_cons, List.length_cons, dpa_len r]
theorem dpa_get : ∀ {xs : List V} {ds : List PyData} {i : Nat} {x : V}, DpAll K H xs ds → xs[i]? = some x → ∃ d, ds[i]? = some d ∧ Dp K H x d
  | _, _, _, _, .nil, e => by simp at e
  | _, _, 0, _, .cons h _, e => by
    simp at e
    subst e
    exact ⟨_, rfl, h⟩
  | _, _, i + 1, _, .cons _ r, e => by
    obtain ⟨d, h1, h2⟩ := dpa_get (i := i) r (by simpa using e)
    exact ⟨d, by simpa using h1, h2⟩
theorem depthAll_get : ∀ {ds : List PyData} {i : Nat} {d : PyData}, ds[i]? = some d → d.depth ≤ PyData.depthAll ds
  | [], _, _, e => by simp at e
  | x :: r, 0, _, e => by
    simp at e
    subst e
    simp only [PyData.depthAll]
    omega
  | x :: r, i + 1, _, e => by
    have h := depthAll_get (ds := r) (i := i) (by simpa using e)
    simp only [PyData.depthAll]
    omega
/-- the kind of a datum -/
def kindS : PyData → String
  | .none => "NoneType"
  | .bool _ => "bool"
  | .int _ => "int"
  | .str _ => "str"
  | .list _ => "list"
  | .tuple _ => "tuple"
  | .dict _ => "dict"
theorem ty_sqL {a : Addr} {xs : List V} (h : SqL K H a xs) : TyX K H (.ref a) (.type "list") := by
  rcases h with (h | ⟨o, h⟩) | ⟨o, its, n, h1, h2, _⟩
  · exact .base (.lst h)
  · exact .base (.frz h)
  · exact .kList h1 h2
theorem ty_sqT {a : Addr} {xs : List V} (h : SqT K H a xs) : TyX K H (.ref a) (.type "tuple") := by
  rcases h with (h | ⟨o, h⟩) | ⟨o, its, n, h1, h2, _⟩
  · exact .base (.tup h)
  · exact .fTuple h
  · exact .kTuple h1 h2
theorem ty_dp {x : V} {d : PyData} (h : Dp K H x d) : TyX K H x (.type (kindS d)) := by
  cases h with
  | non => exact .base .non
  | bl b => exact .base (.bl b)
  | int i => exact .base (.int i)
  | str s => exact .base (.str s)
  | lst h _ => exact ty_sqL h
  | tup h _ => exact ty_sqT h
/-- isinstance(x, T) of a datum -/
theorem ev_isi {σ : L2.St} {te : TE} {x : V} {d : PyData} {n : String} {b : Bool} (h : Ev te σ H x) (hd : Dp K H x d) (hk : kitB (kindS d) n = some b) : Ev (tCB (rIsiU K) (tCons te (tCons (tC (.ty n)) tNil))) σ H (.bl b) := fun H1 e Q q =>
  h H1 e _ fun H2 e2 => .inl ⟨x, .ty n, .type (kindS d), .type n, b, rfl, .ty n, ty_dp (dp_mono (e.trans e2) hd), kit_ty hk, q H2 e2⟩
/-- isinstance(x, (T1, T2)) -/
theorem ev_isi2 {σ : L2.St} {te : TE} {x : V} {d : PyData} {n1 n2 : String} {b1 b2 : Bool} (h : Ev te σ H x) (hd : Dp K H x d) (hk1 : kitB (kindS d) n1 = some b1) (hk2 : kitB (kindS d) n2 = some b2) :
    Ev (tCB (rIsiU K) (tCons te (tCons (tTup (tCons (tC (.ty n1)) (tCons (tC (.ty n2)) tNil))) tNil))) σ H (.bl (b1 || b2)) := fun H1 e Q q =>
  h H1 e _ fun H2 e2 => ⟨by show 2 ≤ sizeLine; decide, fun p hp => .inr ⟨x, p, [.ty n1, .ty n2], .type (kindS d), [.type n1, .type n2], b1 || b2, rfl, upd_same, .cons (.ty n1) (.cons (.ty n2) .nil), ty_dp (dp_mono ((e.trans e2).trans (Ex.new hp)) hd), by
    refine kitAny_cons (kit_ty hk1) (fun h1 => kitAny_cons (kit_ty hk2) (fun h2 => ?_) (fun h2 => ?_)) (fun h1 => ?_)
    · rw [kitAny_nil, h1, h2]; rfl
    · rw [h2, Bool.or_true]
    · rw [h1, Bool.true_or], q _ (e2.trans (Ex.new hp))⟩⟩
end
mutual
/-- no list in it is too long -/
def smD : PyData → Prop
  | .list ds => ds.length ≤ 40000 ∧ smA ds
  | .tuple ds => ds.length ≤ 40000 ∧ smA ds
  | .none | .bool _ | .int _ | .str _ | .dict _ => True
def smA : List PyData → Prop
  | [] => True
  | d :: r => smD d ∧ smA r
end
theorem smA_all : ∀ {ds : List PyData}, smA ds ↔ ∀ d ∈ ds, smD d
  | [] => by simp [smA]
  | d :: r => by simp [smA, smA_all (ds := r)]
theorem smD_list {ds : List PyData} : smD (.list ds) ↔ ds.length ≤ 40000 ∧ ∀ d ∈ ds, smD d := by simp only [smD, smA_all]
theorem smD_tuple {ds : List PyData} : smD (.tuple ds) ↔ ds.length ≤ 40000 ∧ ∀ d ∈ ds, smD d := by simp only [smD, smA_all]
theorem all_true {α : Type} (l : List α) : (l.map fun _ => true).all id = true := by
  rw [List.all_eq_true]
  intro b hb
  obtain ⟨_, _, rfl⟩ := List.mem_map.mp hb
  rfl
theorem rc_all {K : PySem.W.Frag} {H : Hp} {p : Addr} {bs : List Bool} (h : SqL K H p (bs.map V.bl)) : RC (rAll K) [.ref p] H (.bl (bs.all id)) := fun H1 e _ q => ⟨p, bs, rfl, ex_l e h, q H1 (Ex.refl H1)⟩
end Kj
namespace Kj
open PySem PySem.Spec PyProof.Rows L2 Evl
section
variable {K : PySem.W.Frag} {σ : L2.St} {H G : Hp} {te : TE} {tt : TT} {g : TG} {wi : TI}
theorem filter_all {α : Type} (l : List α) : l.filter (fun _ => true) = l := List.filter_eq_self.mpr fun _ _ => rfl
/-- all([e for x in ..]), any([..]) -/
theorem ev_allX {xs : List V} {vs : List Nat} (S : V → L2.St) (b : V → Bool) (hi : EvI wi σ H G xs.length fun i x _ => xs[i]? = some x) (eG : Ex G H) (hn : xs.length ≤ 50000) (hg : ∀ x H', x ∈ xs → ∀ Q : L2.St → Hp → Prop, Q (S x) H' → g x (wipe σ vs) H' Q) (hw : ∀ x, wipe (S x) vs = wipe σ vs)
    (he : ∀ x H1, Ex H H1 → x ∈ xs → Ev te (S x) H1 (.bl (b x))) : Ev (tCB (rAll K) (tCons (tLc wi g tYes te vs) tNil)) σ H (.bl (xs.all b)) :=
  ev_cb1 (ep_l (el_lcX S (fun _ => true) (fun x => .bl (b x)) hi eG hn hg hw (fun _ _ _ _ => et_yes) fun x H1 e hx _ => he x H1 e hx)) fun v N H2 e2 i2 ⟨p, ev, hp⟩ => by
    subst ev
    have e : xs.map (fun x => V.bl (b x)) = (xs.map b).map V.bl := by rw [List.map_map]; rfl
    rw [filter_all, e] at hp
    have z := rc_all (K := K) (sq_of (i2 _ _ hp))
    rw [List.all_map] at z
    exact z
end
end Kj

/-! Kj5: own errors with fields, new instances, chains of comparisons, texts. -/
namespace Kj
open PySem PySem.Spec PyProof.Rows L2 Evl
/-! ### own errors whose __init__ lays fields -/
/-- what an __init__ that lays the fields fsn promises -/
def spXi (C : Addr) (fsn : List Str) : Sp := fun vs H Q _ => ∃ (a : Addr) (us : List V) (G : Hp), vs = .ref a :: us ∧ us.length = fsn.length ∧ H = upd G a (exo a C none) ∧ G a = none ∧
  ∀ d H2, G d = none → d ≠ a → H2 a = some (exo a C (some d)) → H2 d = some (exd d (fsn.zip us).reverse) → (∀ b, b ≠ a → b ≠ d → H2 b = G b) → Q .non H2
structure Xi (P : Program) (w : World) (K : PySem.W.Frag) (mg : Str → Option Value) (base : Heap) (x : Str) (C : Addr) (fsn : List Str) : Prop where
  g : mg x = some (.ref C)
  T : OexC K C
  ex : ∃ fI fd ps, PySem.W.findIn K (.ref C) "__init__" = some (some (.ref fI)) ∧ PySem.W.typeIn K (.ref fI) = some (.type "function") ∧ Binds K fd ps [] ∧ FnOk P w K mg base (L2.CX P w) 1 fI fd ps (spXi C fsn)
theorem pmk_exI {X : Cx} {x : Str} {C : Addr} {fsn : List Str} {k : Nat} {e : Expr} {es : List Expr} {p pos : Pos} {ta : TA} (c : Xi X.prog X.w X.K X.mg X.base x C fsn) (hr : Room k X.A) (hk : 2 ≤ k) (hg : Gl X x) (ha : PA X (e :: es) ta)
    (hdb : (x == ("__debug__" : Str)) = false := by decide) (he : starEach (e :: es) X.env = (false, eval e X.env) :: starEach es X.env := by rfl) (hpl : (backTo pos (starEach es X.env)).any (·.1) = false := by rfl) :
    PMk X (.Call (.Name x p) (e :: es) [] pos) (tMkO C (spXi C fsn) [] ta) := by
  obtain ⟨fI, fd, ps, h1, h2, b, F⟩ := c.ex
  exact pmk_oex c.T h1 h2 F (hr.mono hk) b .nil passL hg c.g ha hdb he hpl
theorem mk_xi {σ : L2.St} {H : Hp} {ta : TA} {vs : List V} {C : Addr} {fsn : List Str} {Q : XK} (ha : EvA ta σ H vs) (hl : vs.length = fsn.length) (hs : vs.length ≤ 1000) (k : ∀ H1 d, Ex H H1 → H1 d = none → Q (.ref C) (some d) (upd H1 d (.xd (fsn.zip vs).reverse))) : tMkO C (spXi C fsn) [] ta σ H Q :=
  ha H (Ex.refl H) _ fun H1 e => ⟨hs, fun a hn => ⟨a, vs, H1, by rw [List.append_nil], hl, rfl, hn, fun d H2 hd hne h1 h2 h3 => ⟨rfl, d, _, h1, h2, hd, by
    have z : upd (del H2 a) d (.xd (fsn.zip vs).reverse) = upd H1 d (.xd (fsn.zip vs).reverse) := by
      funext b
      by_cases q : b = d
      · subst q
        rw [upd_same, upd_same]
      · rw [upd_ne q, upd_ne q]
        by_cases qa : b = a
        · subst qa
          rw [del_same, hn]
        · rw [del_ne qa]
          exact h3 b qa q
    rw [z]
    exact k H1 d e hd⟩⟩⟩
/-- a raise with fields, to what is wished of it -/
theorem raise_xi {σ : L2.St} {H G : Hp} {Ns : List Hp} {j : Nat} {ta : TA} {vs : List V} {C : Addr} {fsn : List Str} {mg : Str → Option Value} {x : Str} {E : XK} (o : Own Ns H) (hj : Ns[j]? = some G) (ha : EvA ta σ H vs) (hl : vs.length = fsn.length) (hs : vs.length ≤ 1000) (hn : fsn ≠ []) (g : mg x = some (.ref C)) (k : RaiseX mg x (fsn.zip vs).reverse G E) :
    tMkO C (spXi C fsn) [] ta σ H E := mk_xi ha hl hs fun H1 d e hd => k _ C (some d) (((o.ix hj).trans e).trans (Ex.new hd)) g (.inr ⟨d, rfl, upd_same, ex_none ((o.ix hj).trans e) hd, by
  cases fsn with
  | nil => exact absurd rfl hn
  | cons f r =>
    cases vs with
    | nil => exact absurd hl (by simp)
    | cons v t => intro z; simp at z⟩)
theorem ps_ostK {X : Cx} (K : PySem.W.Frag) {o e : Expr} {f : Str} {to te : TE} {p' pos : Pos} (ho : PE X o to) (he : PE X e te) (hs : swapsWith e (some (.Attribute o f p')) pos.line X.env = pure false := by rfl) (hK : X.K = K := by rfl) : PS X (.Assign [.Attribute o f p'] e pos) (tOst K f to te) := by subst hK; exact ps_ost ho he hs
/-! ### a new instance -/
/-- S: what the class's call promises of its arguments; the __init__'s own promise -/
def Rl.spI (S : Rl) (mg : Str → Option Value) (C : Addr) : Sp := fun vs H Q E => ∃ (x dx : Addr) (us : List V) (G : Hp) (r : Res), vs = .ref x :: us ∧ H = upd (upd G dx (.own x)) x (.ins C dx []) ∧ G x = none ∧ G dx = none ∧ dx ≠ x ∧ S.R us G r ∧
  match r with
  | .ok P => ∀ H' N, Ex G H' → Ex N H' → Fr G N → P N (.ref x) → Q .non H'
  | .err xn fs => RaiseX mg xn fs G E
section
variable {K : PySem.W.Frag} {mg : Str → Option Value} {σ : L2.St} {H G : Hp} {ta tb te tc : TE} {tr : TA} {t u : TT} {x y z v : V} {P : Hp → V → Prop} {S : Rl} {E : L2.St → XK} {W : WX} {vs : List V} {Ps : List (Hp → V → Prop)} {xn : Str} {fs : List (Str × V)} {C : Addr}
theorem ep_makeN (ha : EvPs tr σ H Ps) (hR : ∀ vs H1, Ex H H1 → All2 H1 Ps vs → S.R vs H1 (.ok P)) : EvP (tMakeS C (S.spI mg C) E tr) σ H P := fun H1 e Q q => ha H1 e _ fun vs H2 e2 a x dx hx hdx hne =>
  ⟨x, dx, vs, H2, .ok P, rfl, rfl, hx, hdx, hne, hR vs H2 (e.trans e2) a, fun H' N e3 e4 f p => ⟨rfl, q (.ref x) H' N (e2.trans e3) e4 (f.back e2) p⟩⟩
theorem er_makeN (ha : EvPs tr σ H Ps) (hR : ∀ vs H1, Ex H H1 → All2 H1 Ps vs → S.R vs H1 (.err xn fs)) : EvErr mg W xn fs (tMakeS C (S.spI mg C) (WE W) tr) σ H := fun H1 e q Q => ha H1 e _ fun vs H2 e2 a x dx hx hdx hne =>
  ⟨x, dx, vs, H2, .err xn fs, rfl, rfl, hx, hdx, hne, hR vs H2 (e.trans e2) a, q.fwd e2⟩
/-- the heap in which an __init__ begins -/
theorem own_init {x dx : Addr} {o : HO} (hx : G x = none) (hdx : G dx = none) (hne : dx ≠ x) : Own [sing x o, G] (upd (upd G dx (.own x)) x o) :=
  ⟨sing_ex upd_same, fun M hM a ha => by
    have z : M = G := by simpa using hM
    subst z
    by_cases q : a = x
    · subst q; exact hx
    · exact absurd (sing_ne q) ha, fun a u e => by
    rw [upd_ne (ne_of_none e hx), upd_ne (ne_of_none e hdx)]
    exact e, (fun _ h => nomatch h), trivial⟩
/-- self.f = e, self a part of its own -/
theorem s_fld {Ns : List Hp} {D : Ends} {a dx : Addr} {gs : List (Str × V)} {f : Str} {j : Nat} (o : Own Ns H) (hj : Ns[j]? = some (sing a (.ins C dx gs))) (ho : Ev ta σ H (.ref a)) (h : EvP te σ H P) (c : Cls K C) (n : NoAttr K C f) (hl : gs.length < 1000) (k : ∀ v H1 N, Own (N :: Ns.set j (sing a (.ins C dx (putF f v gs)))) H1 → P N v → D.nx σ H1) : sFld K ta te f D σ H :=
  h H (Ex.refl H) _ fun v H1 N e e2 fr p => ho H1 e _ fun H2 e3 => ⟨a, C, dx, gs, rfl, e3 _ _ (e _ _ (o.at hj)), c, n, hl, k v _ N ((((o.add e e2 fr).mono e3)).set (j := j + 1) hj) p⟩
/-! ### chains -/
theorem ev_chain {p q : Int → Int → Bool} {a b c : Int} (h1 : Ev ta σ H (.int a)) (h2 : Ev tb σ H (.int b)) (h3 : Ev tc σ H (.int c)) : Ev (tChain (rI0 fun i j => .bl (p i j)) (rI0 fun i j => .bl (q i j)) ta tb tc) σ H (.bl (p a b && q b c)) := fun H1 e Q k =>
  h1 H1 e _ fun H2 e2 => h2 H2 (e.trans e2) _ fun H3 e3 => ⟨a, b, rfl, rfl, p a b, rfl, by
    cases hp : p a b with
    | true =>
      show tc σ H3 _
      exact h3 H3 ((e.trans e2).trans e3) _ fun H4 e4 => ⟨b, c, rfl, rfl, by
        have z := k H4 ((e2.trans e3).trans e4)
        rw [hp, Bool.true_and] at z
        exact z⟩
    | false =>
      show Q (.bl false) H3
      have z := k H3 (e2.trans e3)
      rw [hp, Bool.false_and] at z
      exact z⟩
end
end Kj
namespace Kj
open PySem PySem.Spec PyProof.Rows L2 Evl
/-! ### data of texts and numbers -/
/-- a text that may be handed about: not too long, of plain signs -/
def TxtOk (s : Str) : Prop := s.length ≤ 1000 ∧ ∀ c ∈ s.cps.toList, c < 128
abbrev eLine (l : List Str) : PyData := .list (l.map .str)
abbrev eBook (ls : List (List Str)) : PyData := .list (ls.map eLine)
abbrev eInts (ns : List Int) : PyData := .list (ns.map .int)
section
variable {K : PySem.W.Frag} {H : Hp}
theorem dpa_strs : ∀ {l : List Str} {xs : List V}, DpAll K H xs (l.map .str) ↔ xs = l.map V.str
  | [], xs => ⟨fun h => by cases h; rfl, fun h => by subst h; exact .nil⟩
  | s :: l, xs => ⟨fun h => by
      cases h with
      | cons h1 h2 =>
        cases h1
        rw [dpa_strs.mp h2]
        rfl, fun h => by subst h; exact .cons (.str s) (dpa_strs.mpr rfl)⟩
theorem dpa_ints : ∀ {l : List Int} {xs : List V}, DpAll K H xs (l.map .int) ↔ xs = l.map V.int
  | [], xs => ⟨fun h => by cases h; rfl, fun h => by subst h; exact .nil⟩
  | s :: l, xs => ⟨fun h => by
      cases h with
      | cons h1 h2 =>
        cases h1
        rw [dpa_ints.mp h2]
        rfl, fun h => by subst h; exact .cons (.int s) (dpa_ints.mpr rfl)⟩
theorem dp_line {x : V} {l : List Str} : Dp K H x (eLine l) ↔ ∃ q, x = .ref q ∧ SqL K H q (l.map V.str) :=
  ⟨fun h => by
    cases h with
    | lst h1 h2 => exact ⟨_, rfl, dpa_strs.mp h2 ▸ h1⟩, fun ⟨q, e, h⟩ => by subst e; exact .lst h (dpa_strs.mpr rfl)⟩
theorem dp_ints {x : V} {l : List Int} : Dp K H x (eInts l) ↔ ∃ q, x = .ref q ∧ SqL K H q (l.map V.int) :=
  ⟨fun h => by
    cases h with
    | lst h1 h2 => exact ⟨_, rfl, dpa_ints.mp h2 ▸ h1⟩, fun ⟨q, e, h⟩ => by subst e; exact .lst h (dpa_ints.mpr rfl)⟩
/-- rows by their places -/
def Rows (K : PySem.W.Frag) (H : Hp) (xs : List V) (ls : List (List Str)) : Prop := Paired (fun x l => ∃ q, x = V.ref q ∧ SqL K H q (l.map V.str)) xs ls
theorem dpa_rows : ∀ {ls : List (List Str)} {xs : List V}, DpAll K H xs (ls.map eLine) ↔ Rows K H xs ls
  | [], xs => ⟨fun h => by cases h; exact .nil, fun h => by cases h; exact .nil⟩
  | s :: l, xs => ⟨fun h => by
      cases h with
      | cons h1 h2 => exact .cons (dp_line.mp h1) (dpa_rows.mp h2), fun h => by
      cases h with
      | cons h1 h2 => exact .cons (dp_line.mpr h1) (dpa_rows.mpr h2)⟩
theorem dp_book {x : V} {ls : List (List Str)} : Dp K H x (eBook ls) ↔ ∃ q xs, x = .ref q ∧ SqL K H q xs ∧ Rows K H xs ls :=
  ⟨fun h => by
    cases h with
    | lst h1 h2 => exact ⟨_, _, rfl, h1, dpa_rows.mp h2⟩, fun ⟨q, xs, e, h, r⟩ => by subst e; exact .lst h (dpa_rows.mpr r)⟩
theorem Rows.len {xs : List V} {ls : List (List Str)} (r : Rows K H xs ls) : xs.length = ls.length := Paired.length r
theorem Rows.get : ∀ {xs : List V} {ls : List (List Str)} {i : Nat} {l : List Str}, Rows K H xs ls → ls[i]? = some l → ∃ q, xs[i]? = some (.ref q) ∧ SqL K H q (l.map V.str)
  | _, _, _, _, .nil, e => by simp at e
  | _, _, 0, _, .cons h _, e => by
    simp at e
    subst e
    obtain ⟨q, h1, h2⟩ := h
    exact ⟨q, by simp [h1], h2⟩
  | _, _, i + 1, _, .cons _ r, e => by
    obtain ⟨q, h1, h2⟩ := Rows.get (i := i) r (by simpa using e)
    exact ⟨q, by simpa using h1, h2⟩
theorem Rows.mono {H' : Hp} {xs : List V} {ls : List (List Str)} (e : Ex H H') (r : Rows K H xs ls) : Rows K H' xs ls := paired_imp (fun _ _ ⟨q, h1, h2⟩ => ⟨q, h1, ex_l e h2⟩) r
end
theorem eqvAll_strs : ∀ a b : List Str, PyData.eqvAll (a.map .str) (b.map .str) = decide (a = b)
  | [], [] => by simp [PyData.eqvAll]
  | [], _ :: _ => by simp [PyData.eqvAll]
  | _ :: _, [] => by simp [PyData.eqvAll]
  | x :: a, y :: b => by
    simp only [List.map_cons, PyData.eqvAll, PyData.eqv, eqvAll_strs a b]
    by_cases h : x = y
    · subst h
      by_cases h2 : a = b <;> simp [h2]
    · have e : (x == y) = false := by simpa using h
      simp [h]
theorem eqv_line (a b : List Str) : PyData.eqv (eLine a) (eLine b) = decide (a = b) := by simp only [PyData.eqv, eqvAll_strs]
theorem eqvAll_rows : ∀ a b : List (List Str), PyData.eqvAll (a.map eLine) (b.map eLine) = decide (a = b)
  | [], [] => by simp [PyData.eqvAll]
  | [], _ :: _ => by simp [PyData.eqvAll]
  | _ :: _, [] => by simp [PyData.eqvAll]
  | x :: a, y :: b => by
    simp only [List.map_cons, PyData.eqvAll, eqv_line, eqvAll_rows a b]
    by_cases h : x = y <;> by_cases h2 : a = b <;> simp [h, h2]
theorem eqv_book (a b : List (List Str)) : PyData.eqv (eBook a) (eBook b) = decide (a = b) := by simp only [PyData.eqv, eqvAll_rows]
theorem strOk_of {s : Str} (h : TxtOk s) : PyData.strOk s = true := by
  unfold PyData.strOk
  rw [← Array.all_toList]
  exact List.all_eq_true.mpr fun c hc => decide_eq_true (by have := h.2 c hc; omega)
theorem lay_strs {l : List Str} (h : ∀ s ∈ l, TxtOk s) : PyData.canLayAll0 (l.map .str) = true := by
  induction l with
  | nil => simp [PyData.canLayAll0]
  | cons s l ih =>
    simp only [List.map_cons, PyData.canLayAll0, PyData.canLay0, strOk_of (h s List.mem_cons_self), ih fun t ht => h t (List.mem_cons_of_mem _ ht), Bool.and_self]
theorem depth_strs (l : List Str) : PyData.depthAll (l.map .str) = 0 := by
  induction l with
  | nil => simp [PyData.depthAll]
  | cons s l ih => simp [PyData.depthAll, PyData.depth, ih]
theorem depth_rows (ls : List (List Str)) : PyData.depthAll (ls.map eLine) ≤ 1 := by
  induction ls with
  | nil => simp [PyData.depthAll]
  | cons l ls ih =>
    simp only [List.map_cons, PyData.depthAll, PyData.depth, depth_strs]
    omega
theorem shaped_line {l : List Str} (h : ∀ s ∈ l, TxtOk s) : SeqAt.shaped (eLine l) = true := by
  show ((eLine l).canLay0 && decide ((eLine l).depth ≤ 64)) = true
  simp only [PyData.canLay0, lay_strs h, PyData.depth, depth_strs]
  decide
theorem shaped_book {ls : List (List Str)} (h : ∀ l ∈ ls, ∀ s ∈ l, TxtOk s) : SeqAt.shaped (eBook ls) = true := by
  have h1 : PyData.canLayAll0 (ls.map eLine) = true := by
    induction ls with
    | nil => simp [PyData.canLayAll0]
    | cons l ls ih =>
      simp only [List.map_cons, PyData.canLayAll0, PyData.canLay0, lay_strs (h l List.mem_cons_self), ih fun t ht => h t (List.mem_cons_of_mem _ ht), Bool.and_self]
  have h2 := depth_rows ls
  show ((eBook ls).canLay0 && decide ((eBook ls).depth ≤ 64)) = true
  rw [Bool.and_eq_true]
  exact ⟨by simp only [PyData.canLay0, h1], decide_eq_true (by simp only [PyData.depth]; omega)⟩
theorem smD_line {l : List Str} (h : l.length ≤ 40000) : smD (eLine l) := smD_list.mpr ⟨by rw [List.length_map]; exact h, fun d hd => by
  obtain ⟨s, _, rfl⟩ := List.mem_map.mp hd
  simp [smD]⟩
theorem smD_book {ls : List (List Str)} (h : ls.length ≤ 40000) (h2 : ∀ l ∈ ls, l.length ≤ 40000) : smD (eBook ls) := smD_list.mpr ⟨by rw [List.length_map]; exact h, fun d hd => by
  obtain ⟨l, hl, rfl⟩ := List.mem_map.mp hd
  exact smD_line (h2 l hl)⟩
theorem paired_get {α β : Type} {R : α → β → Prop} : ∀ {xs : List α} {ys : List β} {i : Nat} {x : α}, Paired R xs ys → xs[i]? = some x → ∃ y, ys[i]? = some y ∧ R x y
  | _, _, _, _, .nil, e => by simp at e
  | _, _, 0, _, .cons h _, e => by
    simp at e
    subst e
    exact ⟨_, rfl, h⟩
  | _, _, i + 1, _, .cons _ r, e => by
    obtain ⟨y, h1, h2⟩ := paired_get (i := i) r (by simpa using e)
    exact ⟨y, by simpa using h1, h2⟩
theorem paired_of {α β : Type} {R : α → β → Prop} : ∀ {xs : List α} {ys : List β}, xs.length = ys.length → (∀ (i : Nat) (x : α) (y : β), xs[i]? = some x → ys[i]? = some y → R x y) → Paired R xs ys
  | [], [], _, _ => .nil
  | [], _ :: _, h, _ => by simp at h
  | _ :: _, [], h, _ => by simp at h
  | x :: xs, y :: ys, h, k => .cons (k 0 x y rfl rfl) (paired_of (by simpa using h) fun i a b h1 h2 => k (i + 1) a b (by simpa using h1) (by simpa using h2))
theorem picks_all (n : Nat) : picks n (fun _ => true) = List.range n := List.filter_eq_self.mpr fun _ _ => rfl
theorem el_is {te : TE} {σ : L2.St} {H : Hp} {xs ys : List V} (h : EvL te σ H xs) (e : xs = ys) : EvL te σ H ys := e ▸ h
/-- xs + ys, a new list -/
theorem ep_catN {K : PySem.W.Frag} {σ : L2.St} {H : Hp} {ta tb : TE} {P1 P2 P : Hp → V → Prop} (h1 : EvP ta σ H P1) (h2 : EvP tb σ H P2)
    (hp : ∀ N1 N2 H1 v1 v2, Ex H H1 → Ex N1 H1 → Ex N2 H1 → P1 N1 v1 → P2 N2 v2 → ∃ a b xs ys, v1 = .ref a ∧ v2 = .ref b ∧ H1 a = some (.lst xs) ∧ H1 b = some (.lst ys) ∧ xs.length + ys.length ≤ 100000 ∧ ∀ p, P (sing p (.lst (xs ++ ys))) (.ref p)) : EvP (tOp (rAddU K) ta tb) σ H P := fun H1 e Q q =>
  h1 H1 e _ fun v1 H2 N1 e2 i1 _ p1 => h2 H2 (e.trans e2) _ fun v2 H3 N2 e3 i2 _ p2 => by
    obtain ⟨a, b, xs, ys, rfl, rfl, h3, h4, h5, h6⟩ := hp N1 N2 H3 v1 v2 ((e.trans e2).trans e3) (i1.trans e3) i2 p1 p2
    exact .inr (.inl ⟨a, b, xs, ys, rfl, rfl, h3, h4, sz_of h5, fun p hp0 => q (.ref p) _ (sing p (.lst (xs ++ ys))) ((e2.trans e3).trans (Ex.new hp0)) (sing_ex upd_same) (sing_fr (fresh_back (e2.trans e3) hp0)) (h6 p)⟩)
theorem ep_cat {K : PySem.W.Frag} {σ : L2.St} {H : Hp} {ta tb : TE} {P2 P : Hp → V → Prop} {a : Addr} {xs : List V} (h1 : Ev ta σ H (.ref a)) (ha : H a = some (.lst xs)) (h2 : EvP tb σ H P2)
    (hp : ∀ N v, P2 N v → ∃ b ys, v = .ref b ∧ N b = some (.lst ys) ∧ xs.length + ys.length ≤ 100000 ∧ ∀ p, P (sing p (.lst (xs ++ ys))) (.ref p)) : EvP (tOp (rAddU K) ta tb) σ H P :=
  ep_catN (ep_v h1) h2 fun N1 N2 H1 v1 v2 e i1 i2 p1 p2 => by
    obtain ⟨b, ys, e1, e2, e3, e4⟩ := hp N2 v2 p2
    exact ⟨a, b, xs, ys, p1, e1, e _ _ ha, i2 _ _ e2, e3, e4⟩
section
variable {K : PySem.W.Frag} {σ : L2.St} {H G : Hp} {te : TE} {g : TG} {wi : TI} {n : Nat} {Y : Nat → V → Hp → Prop}
/-- all([..]), any([..]), by places -/
theorem ev_allI {vs : List Nat} (S : Nat → L2.St) (b : Nat → Bool) (hi : EvI wi σ H G n Y) (eG : Ex G H) (hn : n ≤ 50000) (hg : ∀ i x H', i < n → Y i x H' → ∀ Q : L2.St → Hp → Prop, Q (S i) H' → g x (wipe σ vs) H' Q) (hw : ∀ i, i < n → wipe (S i) vs = wipe σ vs)
    (he : ∀ i H1, Ex H H1 → i < n → Ev te (S i) H1 (.bl (b i))) : Ev (tCB (rAll K) (tCons (tLc wi g tYes te vs) tNil)) σ H (.bl ((List.range n).all b)) :=
  ev_cb1 (ep_l (el_lc S (fun _ => true) (fun i => .bl (b i)) hi eG hn hg hw (fun _ _ _ _ => et_yes) fun i H1 e hlt _ => he i H1 e hlt)) fun v N H2 e2 i2 ⟨p, ev, hp⟩ => by
    subst ev
    have e : (List.range n).map (fun i => V.bl (b i)) = ((List.range n).map b).map V.bl := by rw [List.map_map]; rfl
    rw [picks_all, e] at hp
    have z := rc_all (K := K) (sq_of (i2 _ _ hp))
    rw [List.all_map] at z
    exact z
end
/-- the first, second, .. of the parts is moved to the head -/
theorem Own.pull {H N : Hp} : ∀ {Ns : List Hp} {i : Nat}, Own Ns H → Ns[i]? = some N → Own (N :: Ns.eraseIdx i) H
  | M :: r, 0, o, h => by
    have e : M = N := Option.some.inj h
    subst e
    exact o
  | M :: r, i + 1, o, h => by
    have z : Own (N :: r.eraseIdx i) H := Own.pull o.2.2 h
    refine ⟨z.1, fun M' hM' => ?_, o.1, fun M' hM' => ?_, z.2.2⟩
    · rcases List.mem_cons.mp hM' with q | q
      · subst q
        exact (o.2.1 N (List.mem_of_getElem? h)).symm
      · exact z.2.1 M' q
    · exact o.2.1 M' (List.mem_of_mem_eraseIdx hM')
/-- a slice of a new list -/
theorem ep_slN {K : PySem.W.Frag} {σ : L2.St} {H : Hp} {te : TE} {tl th : TO} {xs ys : List V} {lo hi : Option Int} (h : EvP te σ H (pLst xs)) (h1 : EvO tl σ H lo) (h2 : EvO th σ H hi) (e0 : cutV xs lo hi = ys) : EvP (tSl (rSlU K) te tl th) σ H (pLst ys) := fun H1 e Q q =>
  h H1 e _ fun v H2 N e2 i2 _ ⟨a, ev, ha⟩ => h1 H2 (e.trans e2) _ fun H3 e3 => h2 H3 ((e.trans e2).trans e3) _ fun H4 e4 => by
    subst ev
    refine .inl (.inl ⟨a, xs, rfl, sq_of (e4 _ _ (e3 _ _ (i2 _ _ ha))), fun p hp => ?_⟩)
    rw [e0]
    exact q (.ref p) _ (sing p (.lst ys)) (((e2.trans e3).trans e4).trans (Ex.new hp)) (sing_ex upd_same) (sing_fr (fresh_back ((e2.trans e3).trans e4) hp)) ⟨p, rfl, sing_at⟩
theorem own_merge2 {H L N M : Hp} {r : List Hp} (o : Own (L :: N :: M :: r) H) : Own (L :: uni M N :: r) H :=
  ⟨o.1, fun M' hM' a ha => by
    rcases List.mem_cons.mp hM' with z | z
    · subst z
      have d1 := o.2.1 N List.mem_cons_self
      have d2 := o.2.1 M (List.mem_cons_of_mem _ List.mem_cons_self)
      unfold uni
      rw [d1 a ha]
      exact d2 a ha
    · exact o.2.1 M' (List.mem_cons_of_mem _ (List.mem_cons_of_mem _ z)) a ha, o.2.2.merge⟩
/-- a slice of a new list, of which not all is told -/
theorem ep_slP {K : PySem.W.Frag} {σ : L2.St} {H : Hp} {te : TE} {tl th : TO} {lo hi : Option Int} {P P' : Hp → V → Prop} (h : EvP te σ H P) (h1 : EvO tl σ H lo) (h2 : EvO th σ H hi) (hp : ∀ N v, P N v → ∃ a xs, v = .ref a ∧ N a = some (.lst xs) ∧ ∀ p, P' (sing p (.lst (cutV xs lo hi))) (.ref p)) : EvP (tSl (rSlU K) te tl th) σ H P' := fun H1 e Q q =>
  h H1 e _ fun v H2 N e2 i2 _ pv => h1 H2 (e.trans e2) _ fun H3 e3 => h2 H3 ((e.trans e2).trans e3) _ fun H4 e4 => by
    obtain ⟨a, xs, ev, ha, k⟩ := hp N v pv
    subst ev
    refine .inl (.inl ⟨a, xs, rfl, sq_of (e4 _ _ (e3 _ _ (i2 _ _ ha))), fun p hp => ?_⟩)
    exact q (.ref p) _ (sing p (.lst (cutV xs lo hi))) (((e2.trans e3).trans e4).trans (Ex.new hp)) (sing_ex upd_same) (sing_fr (fresh_back ((e2.trans e3).trans e4) hp)) (k p)
theorem own_emp {H L : Hp} {r : List Hp} (o : Own (L :: r) H) : Own (L :: emp :: r) H := ⟨o.1, fun M hM => by
  rcases List.mem_cons.mp hM with z | z
  · subst z; exact fun _ _ => rfl
  · exact o.2.1 M z, emp_ex, (fun _ _ a ha => absurd rfl ha), o.2.2⟩
/-! ### calls that change what they are handed: a part is given away, all else stays -/
def Hv (N H H' : Hp) : Prop := ∀ a o, H a = some o → N a = none → H' a = some o
theorem Hv.own {N H H' : Hp} (h : Hv N H H') : ∀ {Ns : List Hp}, Own Ns H → (∀ M ∈ Ns, Dj N M) → Own Ns H'
  | [], _, _ => trivial
  | M :: r, o, d => ⟨fun a u hu => h a u (o.1 a u hu) (by
      cases q : N a with
      | none => rfl
      | some z =>
        have := d M List.mem_cons_self a (by rw [q]; exact fun z => nomatch z)
        rw [this] at hu
        cases hu), o.2.1, Hv.own h o.2.2 fun M hM => d M (List.mem_cons_of_mem _ hM)⟩
section
variable {σ : L2.St} {H : Hp} {Ns : List Hp} {ta : TA} {te : TE} {tz : TS} {D : Ends} {R : List V → Hp → Prop} {E : L2.St → XK} {vs us : List V} {N : Hp} {P : Hp → V → Prop}
end
theorem Hv.refl {N H : Hp} : Hv N H H := fun _ _ h _ => h
theorem Hv.ex {N H H1 H2 : Hp} (h : Hv N H H1) (e : Ex H1 H2) : Hv N H H2 := fun a o h1 h2 => e _ _ (h a o h1 h2)
theorem Hv.upd {N H H1 : Hp} {q : Addr} {u : HO} (h : Hv N H H1) (hq : N q ≠ none) : Hv N H (upd H1 q u) := fun a o h1 h2 => by
  unfold L2.upd
  split
  · rename_i e
    subst e
    exact absurd h2 hq
  · exact h a o h1 h2
section
variable {K : PySem.W.Frag} {σ : L2.St} {H : Hp} {ta : TE} {D : Ends}
end
theorem own_sing {H N : Hp} {r : List Hp} {p : Addr} {u : HO} (o : Own (N :: r) H) (h : N p = some u) : Own (sing p u :: r) H := ⟨(sing_ex h).trans o.1, fun M hM a ha => o.2.1 M hM a (fun z => by
  by_cases q : a = p
  · subst q
    rw [h] at z
    cases z
  · exact ha (sing_ne q)), o.2.2⟩
theorem all2_two {H : Hp} {P P2 : Hp → V → Prop} {vs : List V} (h : All2 H [P, P2] vs) : ∃ x y, vs = [x, y] ∧ (∃ N, Ex N H ∧ P N x) ∧ ∃ N, Ex N H ∧ P2 N y := by
  cases h with
  | cons h r => cases r with
    | cons h2 r => cases r; exact ⟨_, _, rfl, h, h2⟩
theorem all2_three {H : Hp} {P P2 P3 : Hp → V → Prop} {vs : List V} (h : All2 H [P, P2, P3] vs) : ∃ x y z, vs = [x, y, z] ∧ (∃ N, Ex N H ∧ P N x) ∧ (∃ N, Ex N H ∧ P2 N y) ∧ ∃ N, Ex N H ∧ P3 N z := by
  cases h with
  | cons h r => cases r with
    | cons h2 r => cases r with
      | cons h3 r => cases r; exact ⟨_, _, _, rfl, h, h2, h3⟩
end Kj

/-! Kj6: what is told of a value in the heap that holds it (nothing is changed behind it): no new part is named. -/
namespace Kj
open PySem PySem.Spec PyProof.Rows L2 Evl
def EvH (te : TE) (σ : L2.St) (H : Hp) (C : Hp → V → Prop) : Prop := ∀ H1, Ex H H1 → ∀ Q : VK, (∀ v H2, Ex H1 H2 → C H2 v → Q v H2) → te σ H1 Q
/-- a promise of such a kind -/
structure Rh where
  R : List V → Hp → (Hp → V → Prop) → Prop
  mono : ∀ {vs H H' C}, Ex H H' → R vs H C → R vs H' C
def Rh.sp (S : Rh) : Sp := fun vs H Q _ => ∃ C, S.R vs H C ∧ ∀ v H', Ex H H' → C H' v → Q v H'
section
variable {K : PySem.W.Frag} {mg : Str → Option Value} {σ : L2.St} {H H' : Hp} {ta tb te tx : TE} {tr : TA} {x y z v : V} {r : R2} {P : Hp → V → Prop} {C C1 C2 : Hp → V → Prop} {S : Rl} {E : L2.St → XK} {vs : List V}
theorem EvH.mono (e : Ex H H') (h : EvH te σ H C) : EvH te σ H' C := fun H1 a Q q => h H1 (e.trans a) Q q
end
section
variable {K : PySem.W.Frag} {σ : L2.St} {H : Hp} {te : TE} {tz : TS} {D : Ends} {C : Hp → V → Prop}
end
end Kj

/-! Kj7: several except clauses, some of which name the exception. -/
namespace Kj
open PySem PySem.Spec PyProof.Rows L2 Evl
abbrev Suite := Addr → Value → Option Addr → TS
inductive HdA (X : Cx) : List ExceptHandler → List (Value × Option Nat × Suite) → Prop
  | nil : HdA X [] []
  | cons {x : Str} {c : Value} {ts : Suite} {s1 : Stmt} {su : List Stmt} {p1 p2 : Pos} {hr : List ExceptHandler} {lr : List (Value × Option Nat × Suite)} (hc : Names X x c)
      (hsu : ∀ (a : Addr) (oe : Obj) (cls : Value) (d : Option Addr) (pn : List (Addr × Obj)), Zc cls d oe → (∃ fv, oe.data = .fields fv) → PSs (X.suite a ((a, oe) :: pn)) (s1 :: su) (ts a cls d)) (r : HdA X hr lr) :
      HdA X (.ExceptHandler (some (.Name x p1)) none (s1 :: su) p2 :: hr) ((c, none, ts) :: lr)
  | named {x n : Str} {i : Nat} {c : Value} {ts : Suite} {s1 : Stmt} {su : List Stmt} {p1 p2 : Pos} {hr : List ExceptHandler} {lr : List (Value × Option Nat × Suite)} (hN : X.N.Nodup) (hi : X.N[i]? = some n) (hln : X.env.kindOf n = some .local) (hc : Names X x c)
      (hsu : ∀ (a : Addr) (oe : Obj) (cls : Value) (d : Option Addr) (pn : List (Addr × Obj)), Zc cls d oe → (∃ fv, oe.data = .fields fv) → PSs (X.suite a ((a, oe) :: pn)) (s1 :: su) (ts a cls d)) (r : HdA X hr lr) :
      HdA X (.ExceptHandler (some (.Name x p1)) (some n) (s1 :: su) p2 :: hr) ((c, some i, ts) :: lr)
section
variable {X : Cx} {bd : List Stmt} {h1 : ExceptHandler} {hr : List ExceptHandler} {lr : List (Value × Option Nat × Suite)} {pos : Pos} {tb : WX → TS} {Wo : WX}
end
section
variable {K : PySem.W.Frag} {mg : Str → Option Value} {xn : Str} {fs : List (Str × V)} {H : Hp} {C : Addr} {c : Value} {D : Ends} {ts : Suite} {σ : L2.St} {Wo : WX} {l : List (Value × Option Nat × Suite)}
end
end Kj

/-! Kj8: dicts; comprehensions over something new; slices from behind. -/
namespace Kj
open PySem PySem.Spec PyProof.Rows L2 Evl
abbrev pDct (kvs : List (Key × V)) : Hp → V → Prop := fun N v => ∃ p, v = .ref p ∧ N p = some (.dK kvs)
section
variable {K : PySem.W.Frag} {σ : L2.St} {H G : Hp} {td ty tx te tv : TE} {d : Addr} {kvs : List (Key × V)} {k : Key} {z v : V} {P : Hp → V → Prop} {t : TE} {n : Nat} {Y : Nat → V → Hp → Prop} {Ns : List Hp} {D : Ends} {wi : TI} {g : TG} {tt : TT} {vs : List Nat}
theorem ep_dnew : EvP tDNewK σ H (pDct []) := fun H1 _ Q q p hp => q (.ref p) _ (sing p (.dK [])) (Ex.new hp) (sing_ex upd_same) (sing_fr hp) ⟨p, rfl, sing_at⟩
theorem ev_dget1 (hd : Ev td σ H (.ref d)) (h : H d = some (.dK kvs)) (hk : Ev ty σ H (kV k)) : Ev (tDGet1 td ty) σ H ((valV kvs k).getD .non) := fun H1 e Q q =>
  hd H1 e _ fun H2 e2 => ⟨d, rfl, .inl ⟨kvs, .inl (e2 _ _ (e _ _ h))⟩, hk H2 (e.trans e2) _ fun H3 e3 => ⟨valV kvs k, .inl ⟨kvs, k, .inl (e3 _ _ (e2 _ _ (e _ _ h))), rfl, rfl⟩, q H3 (e2.trans e3)⟩⟩
theorem ev_din (hd : Ev td σ H (.ref d)) (h : H d = some (.dK kvs)) (hk : Ev ty σ H (kV k)) : Ev (tDIn ty td) σ H (.bl (valV kvs k).isSome) := fun H1 e Q q =>
  hk H1 e _ fun H2 e2 => hd H2 (e.trans e2) _ fun H3 e3 => ⟨d, valV kvs k, rfl, .inl ⟨kvs, k, .inl (e3 _ _ (e2 _ _ (e _ _ h))), rfl, rfl⟩, q H3 (e2.trans e3)⟩
theorem s_dput {j : Nat} (o : Own Ns H) (hj : Ns[j]? = some (sing d (.dK kvs))) (hv : EvP tv σ H P) (hd : Ev td σ H (.ref d)) (hk : Ev ty σ H (kV k)) (hz : kvs.length < 100000) (h : ∀ v H1 N, Own (N :: Ns.set j (sing d (.dK (putK kvs k v)))) H1 → P N v → D.nx σ H1) : sDPut td ty tv D σ H :=
  hv H (Ex.refl H) _ fun v H1 N e1 i1 f1 p1 => hd H1 e1 _ fun H2 e2 => hk H2 (e1.trans e2) _ fun H3 e3 => by
    have o3 : Own (N :: Ns) H3 := ((o.add e1 i1 f1).mono e2).mono e3
    have hj3 : (N :: Ns)[j + 1]? = some (sing d (.dK kvs)) := hj
    exact ⟨d, _, rfl, .inl ⟨kvs, k, o3.at hj3, rfl, sz_lt hz, rfl⟩, h v _ N (o3.set hj3) p1⟩
end
theorem s_forEr {K : PySem.W.Frag} {mg : Str → Option Value} {W : WX} {xn : Str} {fs : List (Str × V)} {σ : L2.St} {H : Hp} {te : TE} {g : TG} {tu : TS} {D : Ends} (h : EvErr mg W xn fs te σ H) (k : RaiseX mg xn fs H (WE W σ)) : tFor (iList K te) g tu D σ H := h H (Ex.refl H) k _
theorem q_forEr {K : PySem.W.Frag} {mg : Str → Option Value} {W : WX} {xn : Str} {fs : List (Str × V)} {σ : L2.St} {H : Hp} {te : TE} {g : TG} {tu tz : TS} {D : Ends} (h : EvErr mg W xn fs te σ H) (k : RaiseX mg xn fs H (WE W σ)) : tSeq (tFor (iList K te) g tu) tz D σ H := s_forEr (D := { D with nx := tz D }) h k
/-! ### the shape of data: may be laid, is not too deep, not too long -/
structure Ly (n : Nat) (d : PyData) : Prop where
  lay : d.canLay0 = true
  dep : d.depth ≤ n
  sm : smD d
theorem ly_int (n : Nat) (i : Int) : Ly n (.int i) := ⟨by simp [PyData.canLay0], by simp [PyData.depth], by simp [smD]⟩
theorem ly_none (n : Nat) : Ly n .none := ⟨by simp [PyData.canLay0], by simp [PyData.depth], by simp [smD]⟩
theorem layAll {ds : List PyData} (h : ∀ d ∈ ds, d.canLay0 = true) : PyData.canLayAll0 ds = true := by
  induction ds with
  | nil => simp [PyData.canLayAll0]
  | cons d r ih => simp only [PyData.canLayAll0, h d List.mem_cons_self, ih fun t ht => h t (List.mem_cons_of_mem _ ht), Bool.and_self]
theorem depAll {n : Nat} {ds : List PyData} (h : ∀ d ∈ ds, d.depth ≤ n) : PyData.depthAll ds ≤ n := by
  induction ds with
  | nil => simp [PyData.depthAll]
  | cons d r ih =>
    have h1 := h d List.mem_cons_self
    have h2 := ih fun t ht => h t (List.mem_cons_of_mem _ ht)
    simp only [PyData.depthAll]
    omega
theorem ly_list {n : Nat} {ds : List PyData} (hl : ds.length ≤ 40000) (h : ∀ d ∈ ds, Ly n d) : Ly (n + 1) (.list ds) := ⟨by simp only [PyData.canLay0, layAll fun d hd => (h d hd).lay], by have := depAll fun d hd => (h d hd).dep; simp only [PyData.depth]; omega, smD_list.mpr ⟨hl, fun d hd => (h d hd).sm⟩⟩
theorem ly_tup {n : Nat} {ds : List PyData} (hl : ds.length ≤ 40000) (h : ∀ d ∈ ds, Ly n d) : Ly (n + 1) (.tuple ds) := ⟨by simp only [PyData.canLay0, layAll fun d hd => (h d hd).lay], by have := depAll fun d hd => (h d hd).dep; simp only [PyData.depth]; omega, smD_tuple.mpr ⟨hl, fun d hd => (h d hd).sm⟩⟩
theorem Ly.up {n m : Nat} {d : PyData} (h : Ly n d) (hm : n ≤ m) : Ly m d := ⟨h.lay, Nat.le_trans h.dep hm, h.sm⟩
theorem ly_ints {l : List Int} (hl : l.length ≤ 40000) : Ly 1 (eInts l) := ly_list (by rw [List.length_map]; exact hl) fun d hd => by
  obtain ⟨x, hx, rfl⟩ := List.mem_map.mp hd
  exact ly_int 0 x
end Kj

/-! Kj9: max(xs, default=d) of ints. -/
namespace Kj
open PySem PySem.Spec PyProof.Rows L2 Evl
end Kj

/-! Kj10: list(zip(a, b)). -/
namespace Kj
open PySem PySem.Spec PyProof.Rows L2 Evl
/-- the places of a zip at work -/
structure ZA where
  (z TI TO i1 i2 l1 l2 : Addr)
/-- the pairs that are handed out, as tuples behind lo -/
structure ZG (xs ys : Array Value) (lo : Addr) (h : Heap) (as : List Addr) : Prop where
  up : as.Pairwise (· < ·)
  behind : ∀ a ∈ as, lo < a
  tup : ∀ (j : Nat) (a : Addr), as[j]? = some a → ∃ x y, xs[j]? = some x ∧ ys[j]? = some y ∧ IsPair h a x y
section
variable {prog : Program} {w : World} {A : Around} {E : Value → Shared → Prop} {s : Shared} {c : ZA} {S : Addr} {xs ys : Array Value} {i : Nat}
end
section
variable {prog : Program} {w : World} {A : Around} {s : Shared} {c : ZA} {S : Addr} {xs ys : Array Value} {R : Result → Shared → Prop}
end
section
variable {prog : Program} {w : World} {A : Around} {E : Value → Shared → Prop} {s : Shared} {c : ZA} {S : Addr} {xs ys : Array Value}
end
section
variable {K : PySem.W.Frag} {σ : L2.St} {H : Hp} {ta tb te ti : TE} {tr : TA} {a b : Addr} {xs ys : List V} {Ns : List Hp} {D : Ends} {tz : TS}
end
end Kj

/-! Kj12: values told by kinds: what a value stands for in a heap; expressions, loops and comprehensions over such kinds. -/
namespace Kj
open PySem PySem.Spec PyProof.Rows L2 Evl
/-! ### kinds -/
structure Tp (α : Type) where
  R : Hp → V → α → Prop
  up : ∀ {H H' v x}, Ex H H' → R H v x → R H' v x
theorem up {α : Type} {T : Tp α} {H H' : Hp} {v : V} {x : α} (e : Ex H H') (h : T.R H v x) : T.R H' v x := T.up e h
theorem paired_up {α : Type} {T : Tp α} {H H' : Hp} {xs : List V} {l : List α} (e : Ex H H') (h : Paired (T.R H) xs l) : Paired (T.R H') xs l := paired_imp (fun _ _ z => T.up e z) h
def tI : Tp Int := ⟨fun _ v x => v = .int x, fun _ h => h⟩
def tB : Tp Bool := ⟨fun _ v x => v = .bl x, fun _ h => h⟩
def tS : Tp Str := ⟨fun _ v x => v = .str x ∧ PyData.strOk x = true, fun _ h => h⟩
/-- a short text of plain signs -/
def tX : Tp Str := ⟨fun _ v x => v = .str x ∧ TxtOk x, fun _ h => h⟩
def tN : Tp Unit := ⟨fun _ v _ => v = .non, fun _ h => h⟩
def tO {α : Type} (T : Tp α) : Tp (Option α) := ⟨fun H v x => match x with | none => v = .non | some y => T.R H v y ∧ v ≠ .non, fun {H H' v x} e h => by
  cases x with
  | none => exact h
  | some y => exact ⟨T.up e h.1, h.2⟩⟩
/-- a list, perhaps one that must not be changed | one of the heap's own -/
def tL (K : PySem.W.Frag) {α : Type} (T : Tp α) : Tp (List α) := ⟨fun H v l => ∃ p xs, v = .ref p ∧ SqL K H p xs ∧ Paired (T.R H) xs l ∧ l.length ≤ 40000, fun e ⟨p, xs, h1, h2, h3, h4⟩ => ⟨p, xs, h1, ex_l e h2, paired_up e h3, h4⟩⟩
def tW {α : Type} (T : Tp α) : Tp (List α) := ⟨fun H v l => ∃ p xs, v = .ref p ∧ H p = some (.lst xs) ∧ Paired (T.R H) xs l ∧ l.length ≤ 40000, fun e ⟨p, xs, h1, h2, h3, h4⟩ => ⟨p, xs, h1, e _ _ h2, paired_up e h3, h4⟩⟩
def tP (K : PySem.W.Frag) {α β : Type} (T : Tp α) (S : Tp β) : Tp (α × β) := ⟨fun H v x => ∃ p a b, v = .ref p ∧ SqT K H p [a, b] ∧ T.R H a x.1 ∧ S.R H b x.2, fun e ⟨p, a, b, h1, h2, h3, h4⟩ => ⟨p, a, b, h1, ex_t e h2, T.up e h3, S.up e h4⟩⟩
structure T3 (α β γ : Type) where
  a : α
  b : β
  c : γ
deriving DecidableEq, Inhabited
structure T4 (α β γ δ : Type) where
  a : α
  b : β
  c : γ
  d : δ
deriving DecidableEq, Inhabited
def tT3 (K : PySem.W.Frag) {α β γ : Type} (T : Tp α) (S : Tp β) (U : Tp γ) : Tp (T3 α β γ) := ⟨fun H v x => ∃ p a b c, v = .ref p ∧ SqT K H p [a, b, c] ∧ T.R H a x.a ∧ S.R H b x.b ∧ U.R H c x.c, fun e ⟨p, a, b, c, h1, h2, h3, h4, h5⟩ => ⟨p, a, b, c, h1, ex_t e h2, T.up e h3, S.up e h4, U.up e h5⟩⟩
def tT4 (K : PySem.W.Frag) {α β γ δ : Type} (T : Tp α) (S : Tp β) (U : Tp γ) (W : Tp δ) : Tp (T4 α β γ δ) := ⟨fun H v x => ∃ p a b c d, v = .ref p ∧ SqT K H p [a, b, c, d] ∧ T.R H a x.a ∧ S.R H b x.b ∧ U.R H c x.c ∧ W.R H d x.d, fun e ⟨p, a, b, c, d, h1, h2, h3, h4, h5, h6⟩ => ⟨p, a, b, c, d, h1, ex_t e h2, T.up e h3, S.up e h4, U.up e h5, W.up e h6⟩⟩
/-- a kind that does not look at the heap -/
class Flt {α : Type} (T : Tp α) : Prop where
  any : ∀ {H H' v x}, T.R H v x → T.R H' v x

instance : Flt tI := ⟨fun h => h⟩
instance : Flt tB := ⟨fun h => h⟩
instance : Flt tS := ⟨fun h => h⟩
instance : Flt tX := ⟨fun h => h⟩
instance : Flt tN := ⟨fun h => h⟩
instance {α : Type} {T : Tp α} [F : Flt T] : Flt (tO T) := ⟨fun {H H' v x} h => by
  cases x with
  | none => exact h
  | some y => exact ⟨F.any h.1, h.2⟩⟩
theorem paired_any {α : Type} {T : Tp α} [F : Flt T] {H H' : Hp} {xs : List V} {l : List α} (h : Paired (T.R H) xs l) : Paired (T.R H') xs l := paired_imp (fun _ _ z => F.any z) h
/-- one kind is another one, too -/
class Sub {α : Type} (T S : Tp α) : Prop where
  to : ∀ {H v x}, T.R H v x → S.R H v x
instance (priority := low) {α : Type} {T : Tp α} : Sub T T := ⟨fun h => h⟩
instance {K : PySem.W.Frag} {α : Type} {T S : Tp α} [Z : Sub T S] : Sub (tW T) (tL K S) := ⟨fun ⟨p, xs, h1, h2, h3, h4⟩ => ⟨p, xs, h1, sq_of h2, paired_imp (fun _ _ z => Z.to z) h3, h4⟩⟩
instance {K : PySem.W.Frag} {α : Type} {T S : Tp α} [Z : Sub T S] : Sub (tL K T) (tL K S) := ⟨fun ⟨p, xs, h1, h2, h3, h4⟩ => ⟨p, xs, h1, h2, paired_imp (fun _ _ z => Z.to z) h3, h4⟩⟩
instance {α : Type} {T S : Tp α} [Z : Sub T S] : Sub (tW T) (tW S) := ⟨fun ⟨p, xs, h1, h2, h3, h4⟩ => ⟨p, xs, h1, h2, paired_imp (fun _ _ z => Z.to z) h3, h4⟩⟩
instance {K : PySem.W.Frag} {α β : Type} {T T' : Tp α} {S S' : Tp β} [Z : Sub T T'] [Y : Sub S S'] : Sub (tP K T S) (tP K T' S') := ⟨fun ⟨p, a, b, h1, h2, h3, h4⟩ => ⟨p, a, b, h1, h2, Z.to h3, Y.to h4⟩⟩
instance {α : Type} {T S : Tp α} [Z : Sub T S] : Sub (tO T) (tO S) := ⟨fun {H v x} h => by
  cases x with
  | none => exact h
  | some y => exact ⟨Z.to h.1, h.2⟩⟩
instance : Sub tX tS := ⟨fun h => ⟨h.1, strOk_of h.2⟩⟩
theorem to {α : Type} {T S : Tp α} [Z : Sub T S] {H : Hp} {v : V} {x : α} (h : T.R H v x) : S.R H v x := Z.to h
/-- never None -/
class NN {α : Type} (T : Tp α) : Prop where
  nn : ∀ {H v x}, T.R H v x → v ≠ .non
instance : NN tI := ⟨fun h z => by cases h; cases z⟩
instance : NN tB := ⟨fun h z => by cases h; cases z⟩
instance : NN tS := ⟨fun h z => by cases h.1; cases z⟩
instance : NN tX := ⟨fun h z => by cases h.1; cases z⟩
instance {K : PySem.W.Frag} {α : Type} {T : Tp α} : NN (tL K T) := ⟨fun ⟨_, _, h, _⟩ z => by cases h; cases z⟩
instance {α : Type} {T : Tp α} : NN (tW T) := ⟨fun ⟨_, _, h, _⟩ z => by cases h; cases z⟩
instance {K : PySem.W.Frag} {α β : Type} {T : Tp α} {S : Tp β} : NN (tP K T S) := ⟨fun ⟨_, _, _, h, _⟩ z => by cases h; cases z⟩
instance {K : PySem.W.Frag} {α β γ : Type} {T : Tp α} {S : Tp β} {U : Tp γ} : NN (tT3 K T S U) := ⟨fun ⟨_, _, _, _, h, _⟩ z => by cases h; cases z⟩
instance {K : PySem.W.Frag} {α β γ δ : Type} {T : Tp α} {S : Tp β} {U : Tp γ} {W : Tp δ} : NN (tT4 K T S U W) := ⟨fun ⟨_, _, _, _, _, h, _⟩ z => by cases h; cases z⟩
theorem opt_get {α : Type} [Inhabited α] {T : Tp α} {H : Hp} {v : V} {x : Option α} (h : x.isSome = true) (f : (tO T).R H v x) : T.R H v (x.getD default) := by
  cases x with
  | none => cases h
  | some y => exact f.1
/-- plain data -/
class Pla (K : PySem.W.Frag) {α : Type} (T : Tp α) where
  enc : α → PyData
  dp : ∀ {H v x}, T.R H v x → Dp K H v (enc x)
  lay : ∀ {H v x}, T.R H v x → (enc x).canLay0 = true
  sm : ∀ {H v x}, T.R H v x → smD (enc x)
  dep : Nat
  depth : ∀ x, (enc x).depth ≤ dep
  inj : ∀ {H v x w y}, T.R H v x → T.R H w y → (PyData.eqv (enc x) (enc y) = true ↔ x = y)
section
variable {K : PySem.W.Frag}
instance : Pla K tI := ⟨.int, fun h => by cases h; exact .int _, fun _ => by simp [PyData.canLay0], fun _ => by simp [smD], 0, fun x => by simp [PyData.depth], fun _ _ => by simp [PyData.eqv]⟩
instance : Pla K tB := ⟨.bool, fun h => by cases h; exact .bl _, fun _ => by simp [PyData.canLay0], fun _ => by simp [smD], 0, fun x => by simp [PyData.depth], fun _ _ => by simp [PyData.eqv]⟩
instance : Pla K tS := ⟨.str, fun h => by cases h.1; exact .str _, fun h => by simp [PyData.canLay0, h.2], fun _ => by simp [smD], 0, fun x => by simp [PyData.depth], fun _ _ => by simp [PyData.eqv]⟩
instance : Pla K tX := ⟨.str, fun h => by cases h.1; exact .str _, fun h => by simp [PyData.canLay0, strOk_of h.2], fun _ => by simp [smD], 0, fun x => by simp [PyData.depth], fun _ _ => by simp [PyData.eqv]⟩
instance : Pla K tN := ⟨fun _ => .none, fun h => by cases h; exact .non, fun _ => by simp [PyData.canLay0], fun _ => by simp [smD], 0, fun x => by simp [PyData.depth], fun _ _ => by simp [PyData.eqv]⟩
theorem dpa_of {α : Type} {T : Tp α} [Q : Pla K T] {H : Hp} : ∀ {xs : List V} {l : List α}, Paired (T.R H) xs l → DpAll K H xs (l.map Q.enc)
  | _, _, .nil => .nil
  | _, _, .cons h r => .cons (Q.dp h) (dpa_of r)
theorem laya_of {α : Type} {T : Tp α} [Q : Pla K T] {H : Hp} : ∀ {xs : List V} {l : List α}, Paired (T.R H) xs l → PyData.canLayAll0 (l.map Q.enc) = true
  | _, _, .nil => by simp [PyData.canLayAll0]
  | _, _, .cons h r => by simp [PyData.canLayAll0, Q.lay h, laya_of r]
theorem sma_of {α : Type} {T : Tp α} [Q : Pla K T] {H : Hp} : ∀ {xs : List V} {l : List α}, Paired (T.R H) xs l → ∀ d ∈ l.map Q.enc, smD d
  | _, _, .nil => fun _ h => nomatch h
  | _, _, .cons h r => fun d hd => by
    rcases List.mem_cons.mp hd with z | z
    · subst z; exact Q.sm h
    · exact sma_of r d z
theorem eqva_of {α : Type} {T : Tp α} [Q : Pla K T] {H G : Hp} : ∀ {xs ys : List V} {l m : List α}, Paired (T.R H) xs l → Paired (T.R H) ys m → (PyData.eqvAll (l.map Q.enc) (m.map Q.enc) = true ↔ l = m)
  | _, _, _, _, .nil, .nil => by simp [PyData.eqvAll]
  | _, _, _, _, .nil, .cons _ _ => by simp [PyData.eqvAll]
  | _, _, _, _, .cons _ _, .nil => by simp [PyData.eqvAll]
  | _, _, _, _, .cons h r, .cons h2 r2 => by
    simp only [List.map_cons, PyData.eqvAll, Bool.and_eq_true, eqva_of (G := G) r r2, Q.inj h h2, List.cons.injEq]
theorem eqv_lst (a b : List PyData) : PyData.eqv (.list a) (.list b) = PyData.eqvAll a b := by simp [PyData.eqv]
theorem eqv_tup (a b : List PyData) : PyData.eqv (.tuple a) (.tuple b) = PyData.eqvAll a b := by simp [PyData.eqv]
instance {α : Type} {T : Tp α} [Q : Pla K T] : Pla K (tL K T) := ⟨fun l => .list (l.map Q.enc), fun ⟨p, xs, h1, h2, h3, _⟩ => by subst h1; exact .lst h2 (dpa_of h3), fun ⟨p, xs, h1, h2, h3, _⟩ => by simp only [PyData.canLay0, laya_of h3], fun ⟨p, xs, h1, h2, h3, h4⟩ => smD_list.mpr ⟨by rw [List.length_map]; exact h4, sma_of h3⟩, Q.dep + 1, fun l => by
  have := depAll (n := Q.dep) (ds := l.map Q.enc) fun d hd => by
    obtain ⟨x, _, rfl⟩ := List.mem_map.mp hd
    exact Q.depth x
  simp only [PyData.depth]
  omega, fun {H v x w y} ⟨p, xs, _, _, h3, _⟩ ⟨q, ys, _, _, g3, _⟩ => by rw [eqv_lst, eqva_of (G := H) h3 g3]⟩
instance {α : Type} {T : Tp α} [Q : Pla K T] : Pla K (tW T) := ⟨fun l => .list (l.map Q.enc), fun ⟨p, xs, h1, h2, h3, _⟩ => by subst h1; exact .lst (sq_of h2) (dpa_of h3), fun ⟨p, xs, h1, h2, h3, _⟩ => by simp only [PyData.canLay0, laya_of h3], fun ⟨p, xs, h1, h2, h3, h4⟩ => smD_list.mpr ⟨by rw [List.length_map]; exact h4, sma_of h3⟩, Q.dep + 1, fun l => by
  have := depAll (n := Q.dep) (ds := l.map Q.enc) fun d hd => by
    obtain ⟨x, _, rfl⟩ := List.mem_map.mp hd
    exact Q.depth x
  simp only [PyData.depth]
  omega, fun {H v x w y} ⟨p, xs, _, _, h3, _⟩ ⟨q, ys, _, _, g3, _⟩ => by rw [eqv_lst, eqva_of (G := H) h3 g3]⟩
instance {α β : Type} {T : Tp α} {S : Tp β} [Q : Pla K T] [Y : Pla K S] : Pla K (tP K T S) := ⟨fun x => .tuple [Q.enc x.1, Y.enc x.2], fun ⟨p, a, b, h1, h2, h3, h4⟩ => by subst h1; exact .tup h2 (.cons (Q.dp h3) (.cons (Y.dp h4) .nil)), fun ⟨p, a, b, h1, h2, h3, h4⟩ => by simp [PyData.canLay0, PyData.canLayAll0, Q.lay h3, Y.lay h4], fun ⟨p, a, b, h1, h2, h3, h4⟩ => by simp [smD, smA, Q.sm h3, Y.sm h4], max Q.dep Y.dep + 1, fun x => by
  have h1 := Q.depth x.1
  have h2 := Y.depth x.2
  simp only [PyData.depth, PyData.depthAll]
  omega, fun {H v x w y} ⟨p, a, b, _, _, h3, h4⟩ ⟨q, c, d, _, _, g3, g4⟩ => by
  obtain ⟨x1, x2⟩ := x
  obtain ⟨y1, y2⟩ := y
  simp only [eqv_tup, PyData.eqvAll, Bool.and_eq_true, Q.inj h3 g3, Y.inj h4 g4, Prod.mk.injEq, and_true]⟩
instance {α β γ : Type} {T : Tp α} {S : Tp β} {U : Tp γ} [Q : Pla K T] [Y : Pla K S] [Z : Pla K U] : Pla K (tT3 K T S U) := ⟨fun x => .tuple [Q.enc x.a, Y.enc x.b, Z.enc x.c], fun ⟨p, a, b, c, h1, h2, h3, h4, h5⟩ => by subst h1; exact .tup h2 (.cons (Q.dp h3) (.cons (Y.dp h4) (.cons (Z.dp h5) .nil))), fun ⟨p, a, b, c, h1, h2, h3, h4, h5⟩ => by simp [PyData.canLay0, PyData.canLayAll0, Q.lay h3, Y.lay h4, Z.lay h5], fun ⟨p, a, b, c, h1, h2, h3, h4, h5⟩ => by simp [smD, smA, Q.sm h3, Y.sm h4, Z.sm h5], max Q.dep (max Y.dep Z.dep) + 1, fun x => by
  have h1 := Q.depth x.a
  have h2 := Y.depth x.b
  have h3 := Z.depth x.c
  simp only [PyData.depth, PyData.depthAll]
  omega, fun {H v x w y} ⟨p, a, b, c, _, _, h3, h4, h5⟩ ⟨q, a', b', c', _, _, g3, g4, g5⟩ => by
  obtain ⟨x1, x2, x3⟩ := x
  obtain ⟨y1, y2, y3⟩ := y
  simp only [eqv_tup, PyData.eqvAll, Bool.and_eq_true, Q.inj h3 g3, Y.inj h4 g4, Z.inj h5 g5, T3.mk.injEq, and_true]⟩
instance {α β γ δ : Type} {T : Tp α} {S : Tp β} {U : Tp γ} {W : Tp δ} [Q : Pla K T] [Y : Pla K S] [Z : Pla K U] [O : Pla K W] : Pla K (tT4 K T S U W) := ⟨fun x => .tuple [Q.enc x.a, Y.enc x.b, Z.enc x.c, O.enc x.d], fun ⟨p, a, b, c, d, h1, h2, h3, h4, h5, h6⟩ => by subst h1; exact .tup h2 (.cons (Q.dp h3) (.cons (Y.dp h4) (.cons (Z.dp h5) (.cons (O.dp h6) .nil)))), fun ⟨p, a, b, c, d, h1, h2, h3, h4, h5, h6⟩ => by simp [PyData.canLay0, PyData.canLayAll0, Q.lay h3, Y.lay h4, Z.lay h5, O.lay h6], fun ⟨p, a, b, c, d, h1, h2, h3, h4, h5, h6⟩ => by simp [smD, smA, Q.sm h3, Y.sm h4, Z.sm h5, O.sm h6], max Q.dep (max Y.dep (max Z.dep O.dep)) + 1, fun x => by
  have h1 := Q.depth x.a
  have h2 := Y.depth x.b
  have h3 := Z.depth x.c
  have h4 := O.depth x.d
  simp only [PyData.depth, PyData.depthAll]
  omega, fun {H v x w y} ⟨p, a, b, c, d, _, _, h3, h4, h5, h6⟩ ⟨q, a', b', c', d', _, _, g3, g4, g5, g6⟩ => by
  obtain ⟨x1, x2, x3, x4⟩ := x
  obtain ⟨y1, y2, y3, y4⟩ := y
  simp only [eqv_tup, PyData.eqvAll, Bool.and_eq_true, Q.inj h3 g3, Y.inj h4 g4, Z.inj h5 g5, O.inj h6 g6, T4.mk.injEq, and_true]⟩
theorem eqv_none {d : PyData} (h : PyData.eqv .none d = true) : d = .none := by cases d <;> simp [PyData.eqv] at h ⊢
theorem eqv_none2 {d : PyData} (h : PyData.eqv d .none = true) : d = .none := by cases d <;> simp [PyData.eqv] at h ⊢
theorem dp_is_non {H : Hp} {v : V} (h : Dp K H v .none) : v = .non := by cases h; rfl
instance {α : Type} {T : Tp α} [Q : Pla K T] : Pla K (tO T) := ⟨fun x => match x with | none => .none | some y => Q.enc y, fun {H v x} h => by
  cases x with
  | none => cases h; exact .non
  | some y => exact Q.dp h.1, fun {H v x} h => by
  cases x with
  | none => simp [PyData.canLay0]
  | some y => exact Q.lay h.1, fun {H v x} h => by
  cases x with
  | none => simp [smD]
  | some y => exact Q.sm h.1, Q.dep, fun x => by
  cases x with
  | none => simp [PyData.depth]
  | some y => exact Q.depth y, fun {H v x w y} h g => by
  cases x with
  | none =>
    cases y with
    | none => simp [PyData.eqv]
    | some y =>
      refine ⟨fun z => ?_, fun z => nomatch z⟩
      have e : Q.enc y = .none := eqv_none z
      have := Q.dp g.1
      rw [e] at this
      exact absurd (dp_is_non this) g.2
  | some x =>
    cases y with
    | none =>
      refine ⟨fun z => ?_, fun z => nomatch z⟩
      have e : Q.enc x = .none := eqv_none2 z
      have := Q.dp h.1
      rw [e] at this
      exact absurd (dp_is_non this) h.2
    | some y => rw [Option.some.injEq]; exact Q.inj h.1 g.1⟩
end
/-! ### what an expression is worth, told in B and the new part -/
def EvB (te : TE) (σ : L2.St) (H B : Hp) (P : Hp → V → Prop) : Prop := ∀ H1, Ex H H1 → ∀ Q : VK, (∀ v H2 N, Ex H1 H2 → Ex N H2 → Fr H1 N → P (uni B N) v → Q v H2) → te σ H1 Q
/-- an argument: its kind and what it stands for -/
structure Arg where
  {α : Type}
  T : Tp α
  x : α
def ArgsR (G : Hp) : List V → List Arg → Prop
  | [], [] => True
  | v :: vs, a :: as => a.T.R G v a.x ∧ ArgsR G vs as
  | _, _ => False
theorem ArgsR.up {G G' : Hp} (e : Ex G G') : ∀ {vs : List V} {as : List Arg}, ArgsR G vs as → ArgsR G' vs as
  | [], [], h => h
  | _ :: _, _ :: _, h => ⟨Tp.up _ e h.1, ArgsR.up e h.2⟩
  | [], _ :: _, h => h.elim
  | _ :: _, [], h => h.elim
theorem ArgsR.len {G : Hp} : ∀ {vs : List V} {as : List Arg}, ArgsR G vs as → vs.length = as.length
  | [], [], _ => rfl
  | _ :: _, _ :: _, h => by rw [List.length_cons, List.length_cons, ArgsR.len h.2]
  | [], _ :: _, h => h.elim
  | _ :: _, [], h => h.elim
theorem args0 {G : Hp} {vs : List V} (h : ArgsR G vs []) : vs = [] := by
  cases vs with
  | nil => rfl
  | cons _ _ => exact h.elim
theorem argsC {G : Hp} {vs : List V} {a : Arg} {as : List Arg} (h : ArgsR G vs (a :: as)) : ∃ v us, vs = v :: us ∧ a.T.R G v a.x ∧ ArgsR G us as := by
  cases vs with
  | nil => exact h.elim
  | cons v us => exact ⟨v, us, rfl, h.1, h.2⟩
theorem args1 {G : Hp} {vs : List V} {a : Arg} (h : ArgsR G vs [a]) : ∃ v, vs = [v] ∧ a.T.R G v a.x := by
  obtain ⟨v, us, rfl, h1, h2⟩ := argsC h
  cases args0 h2
  exact ⟨v, rfl, h1⟩
theorem args2 {G : Hp} {vs : List V} {a b : Arg} (h : ArgsR G vs [a, b]) : ∃ v w, vs = [v, w] ∧ a.T.R G v a.x ∧ b.T.R G w b.x := by
  obtain ⟨v, us, rfl, h1, h2⟩ := argsC h
  obtain ⟨w, rfl, h3⟩ := args1 h2
  exact ⟨v, w, rfl, h1, h3⟩
theorem args3 {G : Hp} {vs : List V} {a b c : Arg} (h : ArgsR G vs [a, b, c]) : ∃ v w u, vs = [v, w, u] ∧ a.T.R G v a.x ∧ b.T.R G w b.x ∧ c.T.R G u c.x := by
  obtain ⟨v, us, rfl, h1, h2⟩ := argsC h
  obtain ⟨w, u, rfl, h3⟩ := args2 h2
  exact ⟨v, w, u, rfl, h1, h3⟩
def EvBs (ta : TA) (σ : L2.St) (H B : Hp) (as : List Arg) : Prop := ∀ H1, Ex H H1 → ∀ Q : List V → Hp → Prop, (∀ vs H2 N, Ex H1 H2 → Ex N H2 → Fr H1 N → ArgsR (uni B N) vs as → Q vs H2) → ta σ H1 Q
/-- a value of a kind -/
abbrev Ed {α : Type} (T : Tp α) (te : TE) (σ : L2.St) (H B : Hp) (x : α) : Prop := EvB te σ H B fun G v => T.R G v x
theorem uni_emp (B : Hp) : uni B emp = B := rfl
theorem uni_ass (A B C : Hp) : uni (uni A B) C = uni A (uni B C) := by
  funext a
  unfold uni
  cases C a <;> cases B a <;> rfl
theorem uni_exl {B N H : Hp} (e : Ex B H) (f : Fr H N) : Ex B (uni B N) := uni_l fun a ha => ex_none e (f a ha)
theorem uni_up2 {B N N' H : Hp} (e : Ex N N') (e' : Ex B H) (f : Fr H N') : Ex (uni B N) (uni B N') := fun a o h => by
  unfold uni at h ⊢
  cases q : N a with
  | some u => rw [q] at h; cases h; rw [e _ _ q]
  | none =>
    rw [q] at h
    have : N' a = none := by
      cases z : N' a with
      | none => rfl
      | some u => rw [ex_none e' (f a (by rw [z]; exact fun z => nomatch z))] at h; cases h
    rw [this]
    exact h
section
variable {K : PySem.W.Frag} {mg : Str → Option Value} {σ : L2.St} {H B B' : Hp} {ta tb te tx ti : TE} {tr : TA} {t u : TT} {v w : V} {P P' : Hp → V → Prop} {Ps : Hp → List V → Prop} {E : L2.St → XK} {W : WX} {α β γ δ : Type} {T : Tp α} {S : Tp β} {x : α} {y : β} {l m : List α}
theorem eb_ev (h : Ev te σ H v) (f : P B v) : EvB te σ H B P := fun H1 e Q q => h H1 e Q fun H2 e2 => q v H2 emp e2 emp_ex emp_fr f
theorem eb_var {i : Nat} (h : σ[i]? = some (some v)) (f : P B v) : EvB (tVar i) σ H B P := eb_ev (ev_var h) f
theorem ev_b (h : EvB te σ H B fun _ x => x = v) : Ev te σ H v := fun H1 e Q q => h H1 e Q fun x H2 _ e2 _ _ p => by
  have p : x = v := p
  subst p
  exact q H2 e2
theorem eb_imp (h : EvB te σ H B P) (i : ∀ G v, P G v → P' G v) : EvB te σ H B P' := fun H1 e Q q => h H1 e Q fun v H2 N e2 e3 f p => q v H2 N e2 e3 f (i _ v p)
theorem EvB.mono {H' : Hp} (e : Ex H H') (h : EvB te σ H B P) : EvB te σ H' B P := fun H1 a Q q => h H1 (e.trans a) Q q
theorem ed_flt [F : Flt T] (h : Ed T te σ H B x) : Ed T te σ H B' x := fun H1 a Q q => h H1 a Q fun v H2 N e2 e3 f p => q v H2 N e2 e3 f (F.any p)
theorem ed_to {S : Tp α} [Z : Sub T S] (h : Ed T te σ H B x) : Ed S te σ H B x := eb_imp h fun _ _ p => Z.to p
/-- what a call tells of a new thing -/
theorem ed_p (h : EvP te σ H P) (eB : Ex B H) (i : ∀ N v, P N v → T.R N v x) : Ed T te σ H B x := fun H1 a Q q => h H1 a Q fun v H2 N e2 e3 f p => q v H2 N e2 e3 f (T.up uni_r (i N v p))
/-- .. of which not all is told -/
theorem eb_pE {Z : α → Prop} (h : EvP te σ H P) (i : ∀ N v, P N v → ∃ x, T.R N v x ∧ Z x) : EvB te σ H B fun G v => ∃ x, T.R G v x ∧ Z x := fun H1 a Q q => h H1 a Q fun v H2 N e2 e3 f p => q v H2 N e2 e3 f (by
  obtain ⟨x, h1, h2⟩ := i N v p
  exact ⟨x, T.up uni_r h1, h2⟩)
theorem ed_some [Z : NN T] (h : Ed T te σ H B x) : Ed (tO T) te σ H B (some x) := eb_imp h fun _ _ p => ⟨p, Z.nn p⟩
theorem ed_x {s : Str} (h : Ev te σ H (.str s)) (hs : TxtOk s) : Ed tX te σ H B s := eb_ev h ⟨rfl, hs⟩
theorem ev_x {s : Str} (h : Ed tX te σ H B s) : Ev te σ H (.str s) := ev_b (eb_imp h fun _ _ p => p.1)
theorem ed_i {i : Int} (h : Ev te σ H (.int i)) : Ed tI te σ H B i := eb_ev h rfl
theorem ed_n (h : Ev te σ H .non) : Ed (tO T) te σ H B none := eb_ev h rfl
theorem ev_i {i : Int} (h : Ed tI te σ H B i) : Ev te σ H (.int i) := ev_b h
theorem ev_bl {b : Bool} (h : Ed tB te σ H B b) : Ev te σ H (.bl b) := ev_b h
/-! ### arguments -/
theorem ebs_nil : EvBs tNil σ H B [] := fun H1 _ Q q => q [] H1 emp (Ex.refl H1) emp_ex emp_fr trivial
theorem two_parts {H1 H2 H3 N N' : Hp} (eB : Ex B H1) (e2 : Ex H1 H2) (e3 : Ex N H2) (f : Fr H1 N) (f' : Fr H2 N') (e4 : Ex H2 H3) (e5 : Ex N' H3) : Fr H1 (uni N N') ∧ Ex (uni N N') H3 ∧ Ex (uni B N) (uni B (uni N N')) ∧ Ex (uni B N') (uni B (uni N N')) := by
  have fN : Fr H1 (uni N N') := uni_fr f (f'.back e2)
  refine ⟨fN, uni_ex (e3.trans e4) e5, ?_, uni_up2 uni_r eB fN⟩
  rw [← uni_ass]
  exact uni_l fun a ha => ex_none (uni_ex (eB.trans e2) e3) (f' a ha)
theorem ebs_cons {as : List Arg} (eB : Ex B H) (h : Ed T te σ H B x) (hr : EvBs tr σ H B as) : EvBs (tCons te tr) σ H B (⟨T, x⟩ :: as) := fun H1 e Q q =>
  h H1 e _ fun v H2 N e2 e3 f p => hr H2 (e.trans e2) _ fun us H3 N' e4 e5 f' p' => by
    obtain ⟨g1, g2, g3, g4⟩ := two_parts (eB.trans e) e2 e3 f f' e4 e5
    exact q (v :: us) H3 (uni N N') (e2.trans e4) g2 g1 ⟨T.up g3 p, p'.up g4⟩
/-! ### displays -/
theorem tup_new {H1 H2 N : Hp} {vs : List V} {p : Addr} (eB : Ex B H1) (e2 : Ex H1 H2) (e3 : Ex N H2) (f : Fr H1 N) (hp : H2 p = none) (o : HO) : Ex H1 (upd H2 p o) ∧ Ex (uni N (sing p o)) (upd H2 p o) ∧ Fr H1 (uni N (sing p o)) ∧ Ex (uni B N) (uni B (uni N (sing p o))) ∧ uni B (uni N (sing p o)) p = some o := by
  have f' : Fr H2 (sing p o) := sing_fr hp
  obtain ⟨g1, g2, g3, g4⟩ := two_parts (H3 := upd H2 p o) (N' := sing p o) eB e2 e3 f f' (Ex.new hp) (sing_ex upd_same)
  exact ⟨e2.trans (Ex.new hp), g2, g1, g3, g4 _ _ (uni_r _ _ sing_at)⟩
theorem eb_tup {as : List Arg} {P : Hp → V → Prop} (eB : Ex B H) (h : EvBs tr σ H B as) (hl : as.length ≤ 1000) (i : ∀ G p vs, G p = some (.tup vs) → ArgsR G vs as → P G (.ref p)) : EvB (tTup tr) σ H B P := fun H1 e Q q =>
  h H1 e _ fun vs H2 N e2 e3 f p => ⟨sz_of (by rw [p.len]; omega), fun r hr => by
    obtain ⟨g1, g2, g3, g4, g5⟩ := tup_new (vs := vs) (eB.trans e) e2 e3 f hr (.tup vs)
    exact q (.ref r) _ _ g1 g2 g3 (i _ r vs g5 (p.up g4))⟩
theorem eb_lst {as : List Arg} {P : Hp → V → Prop} (eB : Ex B H) (h : EvBs tr σ H B as) (hl : as.length ≤ 1000) (i : ∀ G p vs, G p = some (.lst vs) → ArgsR G vs as → P G (.ref p)) : EvB (tLst tr) σ H B P := fun H1 e Q q =>
  h H1 e _ fun vs H2 N e2 e3 f p => ⟨sz_of (by rw [p.len]; omega), fun r hr => by
    obtain ⟨g1, g2, g3, g4, g5⟩ := tup_new (vs := vs) (eB.trans e) e2 e3 f hr (.lst vs)
    exact q (.ref r) _ _ g1 g2 g3 (i _ r vs g5 (p.up g4))⟩
theorem ed_tup2 (eB : Ex B H) (h : EvBs tr σ H B [⟨T, x⟩, ⟨S, y⟩]) : Ed (tP K T S) (tTup tr) σ H B (x, y) := eb_tup eB h (Nat.le_of_ble_eq_true rfl) fun G p vs hp ha => by
  obtain ⟨v, w, rfl, h1, h2⟩ := args2 ha
  exact ⟨p, v, w, rfl, st_of hp, h1, h2⟩
theorem argsL {G : Hp} {T : Tp α} : ∀ {l : List α} {vs : List V}, ArgsR G vs (l.map fun x => ⟨T, x⟩) → Paired (T.R G) vs l
  | [], vs, h => by cases args0 h; exact .nil
  | x :: l, vs, h => by
    obtain ⟨v, us, rfl, h1, h2⟩ := argsC h
    exact .cons h1 (argsL h2)
theorem ed_lst (eB : Ex B H) (h : EvBs tr σ H B (l.map fun x => ⟨T, x⟩)) (hl : l.length ≤ 1000) : Ed (tW T) (tLst tr) σ H B l := eb_lst eB h (by rw [List.length_map]; exact hl) fun G p vs hp ha => ⟨p, vs, rfl, hp, argsL ha, by omega⟩
/-! ### reading -/
theorem paired_at {R : V → α → Prop} : ∀ {xs : List V} {l : List α} {i : Nat} {y : α}, Paired R xs l → l[i]? = some y → ∃ v, xs[i]? = some v ∧ R v y
  | _, _, _, _, .nil, e => by simp at e
  | _, _, 0, _, .cons h _, e => by
    simp at e
    subst e
    exact ⟨_, rfl, h⟩
  | _, _, i + 1, _, .cons _ r, e => by
    obtain ⟨y, h1, h2⟩ := paired_at (i := i) r (by simpa using e)
    exact ⟨y, by simpa using h1, h2⟩
theorem paired_atI {R : V → α → Prop} {xs : List V} {i : Int} {y : α} (h : Paired R xs l) (e : atI l i = some y) : ∃ v, atI xs i = some v ∧ R v y := by
  unfold atI at e ⊢
  rw [Paired.length h]
  cases q : ixN l.length i with
  | none => rw [q] at e; cases e
  | some j => rw [q] at e; exact paired_at h e
theorem ed_ix {i : Int} (h : Ed (tL K T) te σ H B l) (hi : Ev ti σ H (.int i)) (hy : atI l i = some x) (eB : Ex B H) : Ed T (tOp (rIx K) te ti) σ H B x := fun H1 e Q q =>
  h H1 e _ fun v H2 N e2 e3 f ⟨p, xs, ev, h1, h2, hl0⟩ => hi H2 (e.trans e2) _ fun H3 e4 => by
    obtain ⟨w, h3, h4⟩ := paired_atI h2 hy
    subst ev
    have eU : Ex (uni B N) H3 := (uni_ex ((eB.trans e).trans e2) e3).trans e4
    exact .inl ⟨p, xs, i, w, rfl, rfl, ex_l eU h1, h3, q w H3 N (e2.trans e4) (e3.trans e4) f h4⟩
theorem eb_ixT {i : Int} {P : Hp → V → Prop} (h : EvB te σ H B fun G v => ∃ p xs w, v = .ref p ∧ SqT K G p xs ∧ atI xs i = some w ∧ P G w) (eB : Ex B H) : EvB (tOp (rIx K) te (tC (.int i))) σ H B P := fun H1 e Q q =>
  h H1 e _ fun v H2 N e2 e3 f ⟨p, xs, w, ev, h1, h2, h3⟩ => by
    subst ev
    exact .inr (.inl ⟨p, xs, i, w, rfl, rfl, ex_t (uni_ex ((eB.trans e).trans e2) e3) h1, h2, q w H2 N e2 e3 f h3⟩)
theorem ed_2a {z : α × β} (h : Ed (tP K T S) te σ H B z) (eB : Ex B H) : Ed T (tOp (rIx K) te (tC (.int 0))) σ H B z.1 := eb_ixT (eb_imp h fun G v ⟨p, a, b, h1, h2, h3, h4⟩ => ⟨p, [a, b], a, h1, h2, rfl, h3⟩) eB
theorem ed_2b {z : α × β} (h : Ed (tP K T S) te σ H B z) (eB : Ex B H) : Ed S (tOp (rIx K) te (tC (.int 1))) σ H B z.2 := eb_ixT (eb_imp h fun G v ⟨p, a, b, h1, h2, h3, h4⟩ => ⟨p, [a, b], b, h1, h2, rfl, h4⟩) eB
theorem ed_4a {U : Tp γ} {W : Tp δ} {z : T4 α β γ δ} (h : Ed (tT4 K T S U W) te σ H B z) (eB : Ex B H) : Ed T (tOp (rIx K) te (tC (.int 0))) σ H B z.a := eb_ixT (eb_imp h fun G v ⟨p, a, b, c, d, h1, h2, h3, h4, h5, h6⟩ => ⟨p, [a, b, c, d], a, h1, h2, rfl, h3⟩) eB
theorem atI_get [Inhabited α] {i : Int} (h : -(l.length : Int) ≤ i ∧ i < l.length) : atI l i = some ((atI l i).getD default) := by
  unfold atI ixN
  by_cases h0 : 0 ≤ i
  · rw [if_pos h0, if_pos h.2]
    have : i.toNat < l.length := by omega
    simp [this]
  · rw [if_neg h0, if_pos h.1]
    have : (i + l.length).toNat < l.length := by omega
    simp [this]
/-- xs[i] -/
def getI {α : Type} [Inhabited α] (l : List α) (i : Int) : α := (atI l i).getD default
theorem ed_ixG [Inhabited α] {i : Int} (h : Ed (tL K T) te σ H B l) (hi : Ev ti σ H (.int i)) (hy : -(l.length : Int) ≤ i ∧ i < l.length) (eB : Ex B H) : Ed T (tOp (rIx K) te ti) σ H B (getI l i) := ed_ix h hi (atI_get hy) eB
theorem ev_lenB (h : Ed (tL K T) te σ H B l) (eB : Ex B H) : Ev (tCB (rLenU K) (tCons te tNil)) σ H (.int (l.length : Nat)) := fun H1 e Q q =>
  h H1 e _ fun v H2 N e2 e3 f ⟨p, xs, ev, h1, h2, hl0⟩ => by
    subst ev
    rw [← Paired.length h2] at q
    exact .inl ⟨p, xs, rfl, .inl (ex_l (uni_ex ((eB.trans e).trans e2) e3) h1), q H2 e2⟩
/-! ### slices, sums, copies -/
def cutI {α : Type} (l : List α) (lo hi : Option Int) : List α := (l.drop (HT.sIx l.length 0 lo)).take (HT.sIx l.length l.length hi - HT.sIx l.length 0 lo)
theorem paired_drop' {R : V → α → Prop} : ∀ {xs : List V} {l : List α} (n : Nat), Paired R xs l → Paired R (xs.drop n) (l.drop n)
  | _, _, 0, h => h
  | _, _, n + 1, .nil => .nil
  | _, _, n + 1, .cons _ r => paired_drop' n r
theorem paired_take' {R : V → α → Prop} : ∀ {xs : List V} {l : List α} (n : Nat), Paired R xs l → Paired R (xs.take n) (l.take n)
  | _, _, 0, _ => .nil
  | _, _, n + 1, .nil => .nil
  | _, _, n + 1, .cons h r => .cons h (paired_take' n r)
theorem paired_cut {R : V → α → Prop} {xs : List V} {lo hi : Option Int} (h : Paired R xs l) : Paired R (cutV xs lo hi) (cutI l lo hi) := by
  unfold cutV cutI
  rw [Paired.length h]
  exact paired_take' _ (paired_drop' _ h)
theorem cut_le (l : List α) (lo hi : Option Int) : (cutI l lo hi).length ≤ l.length := by
  unfold cutI
  rw [List.length_take, List.length_drop]
  omega
theorem paired_app' {R : V → α → Prop} : ∀ {xs ys : List V} {l m : List α}, Paired R xs l → Paired R ys m → Paired R (xs ++ ys) (l ++ m)
  | _, _, _, _, .nil, h => h
  | _, _, _, _, .cons a r, h => .cons a (paired_app' r h)
theorem ed_cat (h : Ed (tW T) ta σ H B l) (h' : Ed (tW T) tb σ H B m) (eB : Ex B H) (hl : l.length + m.length ≤ 40000) : Ed (tW T) (tOp (rAddU K) ta tb) σ H B (l ++ m) := fun H1 e Q q =>
  h H1 e _ fun v H2 N e2 e3 f ⟨p, xs, ev, g1, g2, hl0⟩ => h' H2 (e.trans e2) _ fun w H3 N' e4 e5 f' ⟨p', ys, ew, g1', g2', hl0'⟩ => by
    subst ev ew
    obtain ⟨k1, k2, k3, k4⟩ := two_parts (eB.trans e) e2 e3 f f' e4 e5
    have u1 : Ex (uni B N) H3 := (uni_ex ((eB.trans e).trans e2) e3).trans e4
    have u2 : Ex (uni B N') H3 := uni_ex (((eB.trans e).trans e2).trans e4) e5
    refine .inr (.inl ⟨p, p', xs, ys, rfl, rfl, u1 _ _ g1, u2 _ _ g1', sz_of (by rw [Paired.length g2, Paired.length g2']; omega), fun r hr => ?_⟩)
    obtain ⟨g3, g4, g5, g6, g7⟩ := tup_new (vs := []) (eB.trans e) (e2.trans e4) k2 k1 hr (.lst (xs ++ ys))
    exact q (.ref r) _ _ g3 g4 g5 ⟨r, _, rfl, g7, paired_up g6 (paired_app' (paired_up k3 g2) (paired_up k4 g2')), by rw [List.length_append]; exact hl⟩
/-- list(xs) -/
theorem ed_list (h : Ed (tL K T) te σ H B l) (eB : Ex B H) : Ed (tW T) (tCB (rListS K) (tCons te tNil)) σ H B l := fun H1 e Q q =>
  h H1 e _ fun v H2 N e2 e3 f ⟨p, xs, ev, g1, g2, hl0⟩ => by
    subst ev
    refine ⟨p, xs, rfl, .inl (ex_l (uni_ex ((eB.trans e).trans e2) e3) g1), fun r hr => ?_⟩
    obtain ⟨g3, g4, g5, g6, g7⟩ := tup_new (vs := []) (eB.trans e) e2 e3 f hr (.lst xs)
    exact q (.ref r) _ _ g3 g4 g5 ⟨r, _, rfl, g7, paired_up g6 g2, hl0⟩
theorem ed_slF [F : Flt T] {tl th : TO} {lo hi : Option Int} (h : Ed (tL K T) te σ H B l) (h1 : EvO tl σ H lo) (h2 : EvO th σ H hi) (eB : Ex B H) : Ed (tW T) (tSl (rSlU K) te tl th) σ H B' (cutI l lo hi) := fun H1 e Q q =>
  h H1 e _ fun v H2 N e2 e3 f ⟨p, xs, ev, g1, g2, hl0⟩ => h1 H2 (e.trans e2) _ fun H3 e4 => h2 H3 ((e.trans e2).trans e4) _ fun H4 e5 => by
    subst ev
    exact .inl (.inl ⟨p, xs, rfl, ex_l ((uni_ex ((eB.trans e).trans e2) e3).trans (e4.trans e5)) g1, fun r hr => q (.ref r) _ (sing r (.lst (cutV xs lo hi))) ((e2.trans (e4.trans e5)).trans (Ex.new hr)) (sing_ex upd_same) (sing_fr (fresh_back (e2.trans (e4.trans e5)) hr)) ⟨r, _, rfl, uni_r _ _ sing_at, paired_any (paired_cut g2), Nat.le_trans (cut_le _ _ _) hl0⟩⟩)
/-! ### comparisons -/
theorem shp_of [Z : Pla K T] {G : Hp} (h : T.R G v x) (hd : Z.dep ≤ 64) : SeqAt.shaped (Z.enc x) = true := by
  show ((Z.enc x).canLay0 && decide ((Z.enc x).depth ≤ 64)) = true
  rw [Z.lay h, decide_eq_true (Nat.le_trans (Z.depth x) hd)]
  rfl
theorem eqv_dec [Z : Pla K T] [DecidableEq α] {G : Hp} {x' : α} (h : T.R G v x) (h' : T.R G w x') : PyData.eqv (Z.enc x) (Z.enc x') = decide (x = x') := by
  by_cases e : x = x'
  · rw [decide_eq_true e]; exact (Z.inj h h').mpr e
  · rw [decide_eq_false e]
    cases q : PyData.eqv (Z.enc x) (Z.enc x') with
    | false => rfl
    | true => exact absurd ((Z.inj h h').mp q) e
theorem ev_eqB [Z : Pla K T] [DecidableEq α] {x' : α} (h : Ed T ta σ H B x) (h' : Ed T tb σ H B x') (eB : Ex B H) (hd : Z.dep ≤ 64 := by exact Nat.le_of_ble_eq_true rfl) : Ev (tOp (rEqU K) ta tb) σ H (.bl (decide (x = x'))) := fun H1 e Q q =>
  h H1 e _ fun v H2 N e2 e3 f g => h' H2 (e.trans e2) _ fun w H3 N' e4 e5 f' g' => by
    obtain ⟨k1, k2, k3, k4⟩ := two_parts (eB.trans e) e2 e3 f f' e4 e5
    have eU : Ex (uni B (uni N N')) H3 := uni_ex (((eB.trans e).trans e2).trans e4) k2
    have g := T.up k3 g
    have g' := T.up k4 g'
    rw [← eqv_dec (Z := Z) g g'] at q
    exact .inr ⟨_, _, dp_mono eU (Z.dp g), dp_mono eU (Z.dp g'), shp_of g hd, shp_of g' hd, q H3 (e2.trans e4)⟩
theorem any_dec [Z : Pla K T] [DecidableEq α] {G : Hp} {xs : List V} (h : T.R G v x) (g : Paired (T.R G) xs l) : ((l.map Z.enc).any fun z => PyData.eqv z (Z.enc x)) = decide (x ∈ l) := by
  induction g with
  | nil => simp
  | cons a r ih =>
    rename_i v1 y1 vs1 m1
    rw [List.map_cons, List.any_cons, eqv_dec (Z := Z) a h, ih]
    by_cases e : y1 = x
    · subst e; simp
    · have e' : ¬ x = y1 := fun z => e z.symm
      simp [e, e']
theorem ev_niB [Z : Pla K T] [DecidableEq α] (h : Ed T ta σ H B x) (h' : Ed (tL K T) tb σ H B l) (eB : Ex B H) (hd : Z.dep ≤ 63 := by exact Nat.le_of_ble_eq_true rfl) : Ev (tOp (rNotInU K) ta tb) σ H (.bl (!decide (x ∈ l))) := fun H1 e Q q =>
  h H1 e _ fun v H2 N e2 e3 f g => h' H2 (e.trans e2) _ fun w H3 N' e4 e5 f' g' => by
    obtain ⟨k1, k2, k3, k4⟩ := two_parts (eB.trans e) e2 e3 f f' e4 e5
    have eU : Ex (uni B (uni N N')) H3 := uni_ex (((eB.trans e).trans e2).trans e4) k2
    have g := T.up k3 g
    have g' := (tL K T).up k4 g'
    have hs := shp_of (K := K) (T := tL K T) g' (by show Z.dep + 1 ≤ 64; omega)
    have hp := dp_mono eU (Pla.dp (K := K) (T := tL K T) g')
    obtain ⟨p, xs, ev, g1, g2, hl0⟩ := g'
    rw [← any_dec (Z := Z) g g2] at q
    exact .inr ⟨_, _, dp_mono eU (Z.dp g), hp, shp_of g (by omega), hs, q H3 (e2.trans e4)⟩
theorem ev_isnB {x : Option α} (h : Ed (tO T) te σ H B x) : Ev (tOp (fun x y H Q => y = .non ∧ Q (.bl (decide (x = .non))) H) te (tC .non)) σ H (.bl x.isNone) := fun H1 e Q q =>
  h H1 e _ fun v H2 N e2 e3 f g => ⟨rfl, by
    cases x with
    | none => cases g; simpa using q H2 e2
    | some y => have z : decide (v = V.non) = false := decide_eq_false g.2; rw [z]; exact q H2 e2⟩
theorem ev_ntnB {x : Option α} (h : Ed (tO T) te σ H B x) : Ev (tOp (fun x y H Q => y = .non ∧ Q (.bl (!decide (x = .non))) H) te (tC .non)) σ H (.bl x.isSome) := fun H1 e Q q =>
  h H1 e _ fun v H2 N e2 e3 f g => ⟨rfl, by
    cases x with
    | none => cases g; simpa using q H2 e2
    | some y => have z : decide (v = V.non) = false := decide_eq_false g.2; rw [z]; exact q H2 e2⟩
theorem ed_if {b : Bool} {x' : α} (h : EvT t σ H b) (h1 : b = true → Ed T ta σ H B x) (h2 : b = false → Ed T tb σ H B x') : Ed T (tIf t ta tb) σ H B (if b = true then x else x') := fun H1 e Q q => h H1 e _ fun H2 e2 => by
  cases b with
  | true =>
    show ta σ H2 Q
    exact h1 rfl H2 (e.trans e2) Q fun v H3 N e3 i3 f p => q v H3 N (e2.trans e3) i3 (f.back e2) p
  | false =>
    show tb σ H2 Q
    exact h2 rfl H2 (e.trans e2) Q fun v H3 N e3 i3 f p => q v H3 N (e2.trans e3) i3 (f.back e2) p
/-! ### calls -/
theorem args_ex {as : List Arg} {N H2 : Hp} {vs : List V} (eB : Ex B H2) (e3 : Ex N H2) (p : ArgsR (uni B N) vs as) : ArgsR H2 vs as := p.up (uni_ex eB e3)
theorem ep_callB {S : Rl} {as : List Arg} (eB : Ex B H) (ha : EvBs tr σ H B as) (hR : ∀ vs G, ArgsR G vs as → S.R vs G (.ok P)) : EvP (tCallS (S.sp mg) E tr) σ H P := fun H1 e Q q => ha H1 e _ fun vs H2 N e2 e3 f p => ⟨.ok P, hR vs H2 (args_ex ((eB.trans e).trans e2) e3 p), q.fwd e2⟩
/-- what comes back may hold what was handed in -/
theorem ed_callU {S : Rl} {as : List Arg} {x : α} (eB : Ex B H) (ha : EvBs tr σ H B as) (hR : ∀ vs G, ArgsR G vs as → ∃ P, S.R vs G (.ok P) ∧ ∀ N v G', Ex G G' → Ex N G' → P N v → T.R G' v x) : Ed T (tCallS (S.sp mg) E tr) σ H B x := fun H1 e Q q => ha H1 e _ fun vs H2 N e2 e3 f p => by
  have eU : Ex (uni B N) H2 := uni_ex ((eB.trans e).trans e2) e3
  obtain ⟨P, h1, h2⟩ := hR vs _ p
  refine ⟨.ok P, S.mono eU h1, fun v H3 N' e4 e5 f' p' => ?_⟩
  obtain ⟨g1, g2, g3, g4⟩ := two_parts (eB.trans e) e2 e3 f f' e4 e5
  refine q v H3 (uni N N') (e2.trans e4) g2 g1 (h2 N' v _ g3 ?_ p')
  exact uni_r.trans g4
theorem ed_methU {γ : Type} {O : Tp γ} {z : γ} {S : Rl} {as : List Arg} {C : Addr} {mn : Str} {x : α} (eB : Ex B H) (ho : Ed O ta σ H B z) (hC : ∀ {G v}, O.R G v z → ∃ a dx gs, v = .ref a ∧ G a = some (.ins C dx gs) ∧ gs.lookup mn = none) (ha : EvBs tr σ H B as) (hR : ∀ vs G, ArgsR G vs (⟨O, z⟩ :: as) → ∃ P, S.R vs G (.ok P) ∧ ∀ N v G', Ex G G' → Ex N G' → P N v → T.R G' v x) : Ed T (tMethS C mn (S.sp mg) E ta tr) σ H B x := fun H1 e Q q => ho H1 e _ fun v H2 N e2 e3 f p => by
  obtain ⟨a, dx, gs, rfl, h1, h2⟩ := hC p
  have eU : Ex (uni B N) H2 := uni_ex ((eB.trans e).trans e2) e3
  refine ⟨a, dx, gs, rfl, eU _ _ h1, h2, ha H2 (e.trans e2) _ fun vs H3 N1 e4 e5 f1 p1 => ?_⟩
  obtain ⟨g1, g2, g3, g4⟩ := two_parts (eB.trans e) e2 e3 f f1 e4 e5
  obtain ⟨P, k1, k2⟩ := hR (.ref a :: vs) (uni B (uni N N1)) ⟨O.up g3 p, p1.up g4⟩
  have eU2 : Ex (uni B (uni N N1)) H3 := uni_ex (((eB.trans e).trans e2).trans e4) g2
  refine ⟨.ok P, S.mono eU2 k1, fun v H4 N' e6 e7 f' p' => ?_⟩
  obtain ⟨m1, m2, m3, m4⟩ := two_parts (eB.trans e) (e2.trans e4) g2 g1 f' e6 e7
  exact q v H4 (uni (uni N N1) N') ((e2.trans e4).trans e6) m2 m1 (k2 N' v _ m3 (uni_r.trans m4) p')
/-- o.m(..): OT: the kind of the object; it is an instance of C without a field m -/
theorem ep_methB {S : Rl} {as : List Arg} {C : Addr} {mn : Str} (eB : Ex B H) (ho : Ed T ta σ H B x) (hC : ∀ {G v}, T.R G v x → ∃ a dx gs, v = .ref a ∧ G a = some (.ins C dx gs) ∧ gs.lookup mn = none) (ha : EvBs tr σ H B as) (hR : ∀ vs G, ArgsR G vs (⟨T, x⟩ :: as) → S.R vs G (.ok P)) : EvP (tMethS C mn (S.sp mg) E ta tr) σ H P := fun H1 e Q q => ho H1 e _ fun v H2 N e2 e3 f p => by
  obtain ⟨a, dx, gs, rfl, h1, h2⟩ := hC p
  have eU : Ex (uni B N) H2 := uni_ex ((eB.trans e).trans e2) e3
  refine ⟨a, dx, gs, rfl, eU _ _ h1, h2, ha H2 (e.trans e2) _ fun vs H3 N' e4 e5 f' p' => ⟨.ok P, hR _ H3 ⟨T.up (eU.trans e4) p, args_ex (((eB.trans e).trans e2).trans e4) e5 p'⟩, q.fwd (e2.trans e4)⟩⟩
theorem er_methB {S : Rl} {as : List Arg} {C : Addr} {mn : Str} {xn : Str} {fs : List (Str × V)} (eB : Ex B H) (ho : Ed T ta σ H B x) (hC : ∀ {G v}, T.R G v x → ∃ a dx gs, v = .ref a ∧ G a = some (.ins C dx gs) ∧ gs.lookup mn = none) (ha : EvBs tr σ H B as) (hR : ∀ vs G, ArgsR G vs (⟨T, x⟩ :: as) → S.R vs G (.err xn fs)) : EvErr mg W xn fs (tMethS C mn (S.sp mg) (WE W) ta tr) σ H := fun H1 e q Q => ho H1 e _ fun v H2 N e2 e3 f p => by
  obtain ⟨a, dx, gs, rfl, h1, h2⟩ := hC p
  have eU : Ex (uni B N) H2 := uni_ex ((eB.trans e).trans e2) e3
  refine ⟨a, dx, gs, rfl, eU _ _ h1, h2, ha H2 (e.trans e2) _ fun vs H3 N' e4 e5 f' p' => ⟨.err xn fs, hR _ H3 ⟨T.up (eU.trans e4) p, args_ex (((eB.trans e).trans e2).trans e4) e5 p'⟩, q.fwd (e2.trans e4)⟩⟩
theorem ep_makeB {S : Rl} {as : List Arg} {C : Addr} (eB : Ex B H) (ha : EvBs tr σ H B as) (hR : ∀ vs G, ArgsR G vs as → S.R vs G (.ok P)) : EvP (tMakeS C (S.spI mg C) E tr) σ H P := fun H1 e Q q => ha H1 e _ fun vs H2 N e2 e3 f p x dx hx hdx hne =>
  ⟨x, dx, vs, H2, .ok P, rfl, rfl, hx, hdx, hne, hR vs H2 (args_ex ((eB.trans e).trans e2) e3 p), fun H' N e3 e4 f p => ⟨rfl, q (.ref x) H' N (e2.trans e3) e4 (f.back e2) p⟩⟩
end
/-! ### a new list whose spine lies apart -/
def Edn {α : Type} (T : Tp α) (te : TE) (σ : L2.St) (H B : Hp) (l : List α) : Prop := ∀ H1, Ex H H1 → ∀ Q : VK, (∀ p xs H2 N, Ex H1 H2 → Ex N H2 → Fr H1 N → H1 p = none → N p = none → H2 p = some (.lst xs) → Paired (T.R (uni B N)) xs l → l.length ≤ 40000 → Q (.ref p) H2) → te σ H1 Q
section
variable {K : PySem.W.Frag} {σ : L2.St} {H B B' : Hp} {ta tb te : TE} {tr : TA} {α : Type} {T : Tp α} {l m : List α}
theorem ed_of_n (eB : Ex B H) (h : Edn T te σ H B l) : Ed (tW T) te σ H B l := fun H1 e Q q => h H1 e Q fun p xs H2 N e2 e3 f h1 h2 h3 h4 h5 => by
  have f' : Fr H1 (sing p (.lst xs)) := sing_fr h1
  have fU : Fr H1 (uni N (sing p (.lst xs))) := uni_fr f f'
  have d : ∀ a, (sing p (.lst xs)) a ≠ none → N a = none := fun a ha => by
    by_cases z : a = p
    · subst z; exact h2
    · exact absurd (sing_ne z) ha
  exact q (.ref p) H2 (uni N (sing p (.lst xs))) e2 (uni_ex e3 (sing_ex h3)) fU ⟨p, xs, rfl, uni_r _ _ (uni_r _ _ sing_at), paired_up (uni_up2 (uni_l d) (eB.trans e) fU) h4, h5⟩
theorem en_flt [F : Flt T] (h : Edn T te σ H B l) : Edn T te σ H B' l := fun H1 e Q q => h H1 e Q fun p xs H2 N e2 e3 f h1 h2 h3 h4 h5 => q p xs H2 N e2 e3 f h1 h2 h3 (paired_any h4) h5
end
/-! ### what is walked -/
/-- wi draws the items l into the target g; Z B y σ σ': the slots σ' behind drawing y -/
def Dr {ι : Type} (wi : TI) (g : TG) (σ : L2.St) (H B : Hp) (l : List ι) (Z : Hp → ι → L2.St → L2.St → Prop) : Prop := ∀ H1, Ex H H1 → ∀ R : L2.It → Hp → Prop, (∀ J H2 N, Ex H1 H2 → Ex N H2 → Fr H1 N → l.length ≤ 40000 →
  (∀ i H', Ex (uni B N) H' → i < l.length → J.go i H') → (∀ H', Ex (uni B N) H' → J.stop l.length H') →
  (∀ i y H' x H'', Ex (uni B N) H' → l[i]? = some y → J.yld i H' x H'' → Ex H' H'' ∧ ∀ σ' (Q : L2.St → Hp → Prop), (∀ σ2, Z (uni B N) y σ' σ2 → Q σ2 H'') → g x σ' H'' Q) → R J H2) → wi σ H1 R
section
variable {K : PySem.W.Frag} {mg : Str → Option Value} {σ : L2.St} {H B M G : Hp} {ta tb te tx ti tl : TE} {tr : TA} {t u : TT} {v w : V} {P P' : Hp → V → Prop} {Ns : List Hp} {D : Ends} {tu tz : TS} {wi : TI} {g : TG} {α β ι : Type} {T : Tp α} {S : Tp β} {l : List α} {Z : Hp → ι → L2.St → L2.St → Prop}
theorem get_lt {x : α} {i : Nat} (h : l[i]? = some x) : i < l.length := (List.getElem?_eq_some_iff.mp h).1
theorem dr_list {Z : Hp → α → L2.St → L2.St → Prop} (h : Ed (tL K T) tl σ H B l) (eB : Ex B H) (hz : ∀ G x y H', Ex G H' → T.R G x y → ∀ σ' (Q : L2.St → Hp → Prop), (∀ σ2, Z G y σ' σ2 → Q σ2 H') → g x σ' H' Q) : Dr (iList K tl) g σ H B l Z := fun H1 e R q =>
  h H1 e _ fun v H2 N e2 e3 f ⟨p, xs, ev, h1, h2, hl0⟩ => by
    have eU : Ex (uni B N) H2 := uni_ex ((eB.trans e).trans e2) e3
    have d := drw_list (K := K) h1
    rw [Paired.length h2] at d
    exact ⟨p, ev, ⟨xs, ex_l eU h1⟩, q _ H2 N e2 e3 f hl0 d.go d.stop fun i y H' x H'' eH hi hy => by
      obtain ⟨g1, g2⟩ := d.yld i H' x H'' eH (get_lt hi) hy
      obtain ⟨w, g3, g4⟩ := paired_at h2 hi
      rw [g3] at g2
      cases g2
      exact ⟨g1, hz _ _ _ _ (eH.trans g1) g4⟩⟩
def enumI {α : Type} (l : List α) : List (Int × α) := l.zipIdx.map fun p => ((p.2 : Int), p.1)
def rngI (n : Int) : List Int := (List.range n.toNat).map fun (i : Nat) => (i : Int)
def rngI2 (a b : Int) : List Int := (List.range (b - a).toNat).map fun (i : Nat) => a + (i : Int)
theorem dr_rng {Z : Hp → Int → L2.St → L2.St → Prop} {n : Int} (h : Ev te σ H (.int n)) (hn : -1000000 ≤ n ∧ n ≤ 40000) (hz : ∀ G y H' σ' (Q : L2.St → Hp → Prop), (∀ σ2, Z G y σ' σ2 → Q σ2 H') → g (.int y) σ' H' Q) : Dr (iRng1 (tCons te tNil)) g σ H B (rngI n) Z := fun H1 e R q =>
  h H1 e _ fun H2 e2 => by
    have hl : (rngI n).length = n.toNat := by simp [rngI]
    have d := drw_rng (G := uni B emp) (lo := 0) (n := n.toNat)
    refine ⟨n, rfl, by omega, by omega, q _ H2 emp e2 emp_ex emp_fr (by rw [hl]; omega) (fun i H' eH hi => d.go i H' eH (by rw [← hl]; exact hi)) (fun H' eH => by rw [hl]; exact d.stop H' eH) fun i y H' x H'' eH hi hy => ?_⟩
    have hlt : i < n.toNat := by rw [← hl]; exact get_lt hi
    obtain ⟨g1, g2⟩ := d.yld i H' x H'' eH hlt hy
    unfold rngI at hi
    rw [List.getElem?_map, List.getElem?_range hlt] at hi
    cases hi
    subst g2
    have e0 : (0 : Int) + (i : Nat) = (i : Nat) := by omega
    rw [e0]
    exact ⟨g1, hz _ _ _⟩
/-! ### loops -/
theorem for_dr {J : L2.It} {l : List ι} (hgo : ∀ i H', Ex B H' → i < l.length → J.go i H') (hstop : ∀ H', Ex B H' → J.stop l.length H') (hyld : ∀ i y H' x H'', Ex B H' → l[i]? = some y → J.yld i H' x H'' → Ex H' H'' ∧ ∀ σ' (Q : L2.St → Hp → Prop), (∀ σ2, Z B y σ' σ2 → Q σ2 H'') → g x σ' H'' Q)
    (Pv : Nat → L2.St → Hp → Prop) (h0 : Pv 0 σ H) (hG : ∀ i σ' H', Pv i σ' H' → Ex B H') (hs : ∀ i y σ' H' H'' σ2, l[i]? = some y → Pv i σ' H' → Ex H' H'' → Z B y σ' σ2 → tu { D with nx := Pv (i + 1), ct := Pv (i + 1), bk := D.nx } σ2 H'') (hd : ∀ σ' H', Pv l.length σ' H' → D.nx σ' H') :
    ∃ W : Nat → Nat → L2.St → Hp → Prop, (∃ m, W 0 m σ H) ∧ ∀ i m σ H, W i m σ H →
      (J.stop i H ∧ D.nx σ H) ∨ (J.go i H ∧ ∃ N : L2.St → Hp → Prop, (∀ σ' H', N σ' H' → ∃ m', m' < m ∧ W (i + 1) m' σ' H') ∧ ∀ x H', J.yld i H x H' → g x σ H' fun σ2 H2 => tu { D with nx := N, ct := N, bk := D.nx } σ2 H2) := by
  refine ⟨fun i m σ H => m = l.length - i ∧ i ≤ l.length ∧ Pv i σ H, ⟨l.length, by simp, Nat.zero_le _, h0⟩, ?_⟩
  rintro i m σ H ⟨rfl, hi, p⟩
  have eG := hG i σ H p
  by_cases hlt : i < l.length
  · refine .inr ⟨hgo i H eG hlt, Pv (i + 1), fun σ' H' p' => ⟨l.length - (i + 1), by omega, rfl, hlt, p'⟩, fun x H' y => ?_⟩
    obtain ⟨e, y⟩ := hyld i l[i] H x H' eG (List.getElem?_eq_getElem hlt) y
    exact y σ _ fun σ2 hz => hs i l[i] σ H H' σ2 (List.getElem?_eq_getElem hlt) p e hz
  · have e : i = l.length := by omega
    subst e
    exact .inl ⟨hstop H eG, hd σ H p⟩
/-- .. over something new or flat; M: what is new -/
theorem s_fo {l : List ι} (o : Own (M :: G :: Ns) H) (hr : Dr wi g σ H M l Z) (Pv : Hp → Nat → L2.St → Hp → Prop) (h0 : ∀ M1 H1, Ex M M1 → Own (M1 :: G :: Ns) H1 → Pv M1 0 σ H1) (hG : ∀ M1 i σ' H', Ex M M1 → Pv M1 i σ' H' → Ex M1 H')
    (hs : ∀ M1 i y σ' H' H'' σ2, Ex M M1 → l[i]? = some y → Pv M1 i σ' H' → Ex H' H'' → Z M1 y σ' σ2 → tu { D with nx := Pv M1 (i + 1), ct := Pv M1 (i + 1), bk := D.nx } σ2 H'') (hd : ∀ M1 σ' H', Ex M M1 → Pv M1 l.length σ' H' → D.nx σ' H') : tFor wi g tu D σ H :=
  hr H (Ex.refl H) _ fun J H1 N e e2 f _ g1 g2 g3 => by
    have o1 : Own (uni M N :: G :: Ns) H1 := (o.add e e2 f).merge
    have eM : Ex M (uni M N) := uni_exl o.e0 f
    exact for_dr g1 g2 g3 (Pv (uni M N)) (h0 _ H1 eM o1) (fun i σ' H' p => hG _ i σ' H' eM p) (fun i y σ' H' H'' σ2 => hs _ i y σ' H' H'' σ2 eM) (fun σ' H' p => hd _ σ' H' eM p)
/-- .. over anything -/
theorem s_fu {l : List ι} (o : Own (M :: G :: Ns) H) (hr : Dr wi g σ H (uni G M) l Z) (Pv : Hp → Nat → L2.St → Hp → Prop) (h0 : ∀ M1 H1, Ex M M1 → Own (M1 :: G :: Ns) H1 → Pv M1 0 σ H1) (hG : ∀ M1 i σ' H', Ex M M1 → Pv M1 i σ' H' → Ex (uni G M1) H')
    (hs : ∀ M1 i y σ' H' H'' σ2, Ex M M1 → l[i]? = some y → Pv M1 i σ' H' → Ex H' H'' → Z (uni G M1) y σ' σ2 → tu { D with nx := Pv M1 (i + 1), ct := Pv M1 (i + 1), bk := D.nx } σ2 H'') (hd : ∀ M1 σ' H', Ex M M1 → Pv M1 l.length σ' H' → D.nx σ' H') : tFor wi g tu D σ H :=
  hr H (Ex.refl H) _ fun J H1 N e e2 f _ g1 g2 g3 => by
    have o1 : Own (uni M N :: G :: Ns) H1 := (o.add e e2 f).merge
    have eM : Ex M (uni M N) := uni_exl o.e0 f
    rw [uni_ass] at g1 g2 g3
    exact for_dr g1 g2 g3 (Pv (uni M N)) (h0 _ H1 eM o1) (fun i σ' H' p => hG _ i σ' H' eM p) (fun i y σ' H' H'' σ2 => hs _ i y σ' H' H'' σ2 eM) (fun σ' H' p => hd _ σ' H' eM p)
theorem q_fo {l : List ι} (o : Own (M :: G :: Ns) H) (hr : Dr wi g σ H M l Z) (Pv : Hp → Nat → L2.St → Hp → Prop) (h0 : ∀ M1 H1, Ex M M1 → Own (M1 :: G :: Ns) H1 → Pv M1 0 σ H1) (hG : ∀ M1 i σ' H', Ex M M1 → Pv M1 i σ' H' → Ex M1 H')
    (hs : ∀ M1 i y σ' H' H'' σ2, Ex M M1 → l[i]? = some y → Pv M1 i σ' H' → Ex H' H'' → Z M1 y σ' σ2 → tu { D with nx := Pv M1 (i + 1), ct := Pv M1 (i + 1), bk := tz D } σ2 H'') (hd : ∀ M1 σ' H', Ex M M1 → Pv M1 l.length σ' H' → tz D σ' H') : tSeq (tFor wi g tu) tz D σ H := s_fo (D := { D with nx := tz D }) o hr Pv h0 hG hs hd
theorem q_fu {l : List ι} (o : Own (M :: G :: Ns) H) (hr : Dr wi g σ H (uni G M) l Z) (Pv : Hp → Nat → L2.St → Hp → Prop) (h0 : ∀ M1 H1, Ex M M1 → Own (M1 :: G :: Ns) H1 → Pv M1 0 σ H1) (hG : ∀ M1 i σ' H', Ex M M1 → Pv M1 i σ' H' → Ex (uni G M1) H')
    (hs : ∀ M1 i y σ' H' H'' σ2, Ex M M1 → l[i]? = some y → Pv M1 i σ' H' → Ex H' H'' → Z (uni G M1) y σ' σ2 → tu { D with nx := Pv M1 (i + 1), ct := Pv M1 (i + 1), bk := tz D } σ2 H'') (hd : ∀ M1 σ' H', Ex M M1 → Pv M1 l.length σ' H' → tz D σ' H') : tSeq (tFor wi g tu) tz D σ H := s_fu (D := { D with nx := tz D }) o hr Pv h0 hG hs hd
/-! ### comprehensions -/
theorem en_lc {l : List ι} {vs : List Nat} (hr : Dr wi g σ H B l Z) (eB : Ex B H) (f : ι → Bool) (m : ι → β) (hw : ∀ G y σ2, Z G y (wipe σ vs) σ2 → wipe σ2 vs = wipe σ vs)
    (ht : ∀ G y σ2 H1, Ex B G → Ex G H1 → Ex H H1 → y ∈ l → Z G y (wipe σ vs) σ2 → EvT t σ2 H1 (f y)) (he : ∀ G y σ2 H1, Ex B G → Ex G H1 → Ex H H1 → y ∈ l → f y = true → Z G y (wipe σ vs) σ2 → Ed S te σ2 H1 G (m y)) (zu : ∀ G G' y σ2, Ex G G' → Z G y (wipe σ vs) σ2 → Z G' y (wipe σ vs) σ2) :
    Edn S (tLc wi g t te vs) σ H B ((l.filter f).map m) := fun H1 e Q q =>
  hr H1 e _ fun J H2 N e2 e3 fN hn g1 g2 g3 Dl hD => by
    have eB2 : Ex B H2 := (eB.trans e).trans e2
    have eU : Ex (uni B N) H2 := uni_ex eB2 e3
    refine ⟨fun i k H' => k = l.length - i ∧ i ≤ l.length ∧ ∃ (N' : Hp) (xs : List V), Own [sing Dl (.lst xs), N', H2] H' ∧ Paired (S.R (uni (uni B N) N')) xs (((l.take i).filter f).map m), ⟨l.length, by simp, Nat.zero_le _, emp, [], ⟨sing_ex upd_same, fun M hM a ha => ?_, emp_ex, (fun _ _ a ha => absurd rfl ha), Ex.new hD, (fun _ h => nomatch h), trivial⟩, .nil⟩, ?_⟩
    · rcases List.mem_cons.mp hM with z | z
      · subst z; rfl
      · have z : M = H2 := by simpa using z
        subst z
        by_cases qa : a = Dl
        · subst qa; exact hD
        · exact absurd (sing_ne qa) ha
    rintro i k H' ⟨rfl, hi, N', xs, o, pr⟩
    have eB' : Ex (uni B N) H' := eU.trans o.e2
    have hlen : (((l.take i).filter f).map m).length ≤ 50000 := by
      rw [List.length_map]
      have := List.length_filter_le f (l.take i)
      rw [List.length_take] at this
      omega
    by_cases hlt : i < l.length
    · have hli : l[i]? = some l[i] := List.getElem?_eq_getElem hlt
      have hmem : l[i] ∈ l := List.getElem_mem hlt
      have htk : l.take (i + 1) = l.take i ++ [l[i]] := (List.take_append_getElem hlt).symm
      refine .inr ⟨g1 i H' eB' hlt, _, fun H3 p => p, fun x H3 hy => ?_⟩
      obtain ⟨e4, hy⟩ := g3 i l[i] H' x H3 eB' hli hy
      refine hy _ _ fun σ2 hz => ⟨hw _ _ _ hz, ?_⟩
      have o3 := o.mono e4
      have dj : Fr H2 N' := o3.dj (i := 1) (j := 2) (by decide) rfl rfl
      have eG : Ex (uni (uni B N) N') H3 := uni_ex (eU.trans o3.e2) o3.e1
      have eBG : Ex (uni B N) (uni (uni B N) N') := uni_exl eU dj
      have eBB : Ex B (uni (uni B N) N') := (uni_exl (eB.trans e) fN).trans eBG
      have hz' := zu _ _ _ _ eBG hz
      refine ht _ _ σ2 H3 eBB eG ((e.trans e2).trans o3.e2) hmem hz' H3 (Ex.refl _) _ fun H4 e5 => ?_
      cases hf : f l[i] with
      | false =>
        show ∃ _, _
        refine ⟨l.length - (i + 1), by omega, rfl, hlt, N', xs, o3.mono e5, ?_⟩
        rw [htk, List.filter_append, List.filter_cons, if_neg (by rw [hf]; decide)]
        simpa using pr
      | true =>
        show te σ2 H4 _
        refine he _ _ σ2 H4 eBB (eG.trans e5) (((e.trans e2).trans o3.e2).trans e5) hmem hf hz' H4 (Ex.refl _) _ fun y H5 N2 e6 e7 f2 p => ?_
        have o5 : Own [N2, sing Dl (.lst xs), N', H2] H5 := (o3.mono e5).add e6 e7 f2
        refine ⟨xs, o5.at (j := 1) rfl, by rw [Paired.length pr]; exact sz_lt (by omega), l.length - (i + 1), by omega, rfl, hlt, uni N' N2, xs ++ [y], ?_, ?_⟩
        · have o6 : Own [N2, sing Dl (.lst (xs ++ [y])), N', H2] (upd H5 Dl (.lst (xs ++ [y]))) := o5.set (j := 1) rfl
          exact own_merge2 o6.swap
        · rw [htk, List.filter_append, List.filter_cons, if_pos hf, List.map_append]
          have e8 : Ex (uni (uni B N) N') (uni (uni B N) (uni N' N2)) := by
            rw [← uni_ass]
            exact uni_exl (eG.trans e5) f2
          refine paired_app' (paired_up e8 pr) (.cons ?_ .nil)
          rw [← uni_ass]
          exact p
    · have ei : i = l.length := by omega
      subst ei
      rw [List.take_length] at pr
      refine .inl ⟨g2 H' eB', ?_⟩
      have dj : Fr H2 N' := o.dj (i := 1) (j := 2) (by decide) rfl rfl
      have hN : N' Dl = none := (o.dj (i := 0) (j := 1) (by decide) rfl rfl) Dl (by rw [sing_at]; exact fun z => nomatch z)
      refine q Dl xs H' (uni N N') (e2.trans o.e2) (uni_ex (e3.trans o.e2) o.e1) (uni_fr fN (dj.back e2)) (fresh_back e2 hD) ?_ (o.at (j := 0) rfl) ?_ (by rw [List.length_map]; exact Nat.le_trans (List.length_filter_le _ _) hn)
      · unfold uni
        rw [hN]
        exact ex_none e3 hD
      · rw [← uni_ass]
        exact pr
theorem en_lcA {l : List ι} {vs : List Nat} (hr : Dr wi g σ H B l Z) (eB : Ex B H) (m : ι → β) (hw : ∀ G y σ2, Z G y (wipe σ vs) σ2 → wipe σ2 vs = wipe σ vs) (he : ∀ G y σ2 H1, Ex B G → Ex G H1 → Ex H H1 → y ∈ l → Z G y (wipe σ vs) σ2 → Ed S te σ2 H1 G (m y)) (zu : ∀ G G' y σ2, Ex G G' → Z G y (wipe σ vs) σ2 → Z G' y (wipe σ vs) σ2) :
    Edn S (tLc wi g tYes te vs) σ H B (l.map m) := by
  have h := en_lc (t := tYes) hr eB (fun _ => true) m hw (fun _ _ _ _ _ _ _ _ _ => et_yes) (fun G y σ2 H1 a b c d _ e => he G y σ2 H1 a b c d e) zu
  rw [filter_all] at h
  exact h
theorem ed_lcA {l : List ι} {vs : List Nat} (hr : Dr wi g σ H B l Z) (eB : Ex B H) (m : ι → β) (hw : ∀ G y σ2, Z G y (wipe σ vs) σ2 → wipe σ2 vs = wipe σ vs) (he : ∀ G y σ2 H1, Ex B G → Ex G H1 → Ex H H1 → y ∈ l → Z G y (wipe σ vs) σ2 → Ed S te σ2 H1 G (m y)) (zu : ∀ G G' y σ2, Ex G G' → Z G y (wipe σ vs) σ2 → Z G' y (wipe σ vs) σ2) :
    Ed (tW S) (tLc wi g tYes te vs) σ H B (l.map m) := ed_of_n eB (en_lcA hr eB m hw he zu)
theorem rngI_get {n y : Int} {i : Nat} : (rngI n)[i]? = some y ↔ y = (i : Int) ∧ (i : Int) < n := by
  unfold rngI
  rw [List.getElem?_map]
  by_cases h : i < n.toNat
  · rw [List.getElem?_range h]
    constructor
    · intro e
      cases e
      exact ⟨rfl, by omega⟩
    · rintro ⟨rfl, _⟩
      rfl
  · rw [List.getElem?_eq_none (by simpa using h)]
    constructor
    · intro e
      cases e
    · rintro ⟨_, _⟩
      omega
theorem rngI2_get {a b y : Int} {i : Nat} : (rngI2 a b)[i]? = some y ↔ y = a + (i : Int) ∧ a + (i : Int) < b := by
  unfold rngI2
  rw [List.getElem?_map]
  by_cases h : i < (b - a).toNat
  · rw [List.getElem?_range h]
    constructor
    · intro e
      cases e
      exact ⟨rfl, by omega⟩
    · rintro ⟨rfl, _⟩
      rfl
  · rw [List.getElem?_eq_none (by simpa using h)]
    constructor
    · intro e
      cases e
    · rintro ⟨_, _⟩
      omega
theorem enumI_get {y : Int × α} {i : Nat} : (enumI l)[i]? = some y ↔ l[i]? = some y.2 ∧ y.1 = (i : Int) := by
  unfold enumI
  rw [List.getElem?_map, List.getElem?_zipIdx]
  cases h : l[i]? with
  | none => simp
  | some z =>
    obtain ⟨y1, y2⟩ := y
    simp
    constructor
    · rintro ⟨h1, h2⟩
      exact ⟨h2, h1.symm⟩
    · rintro ⟨h1, h2⟩
      exact ⟨h2.symm, h1⟩
theorem rngI_len {n : Int} : (rngI n).length = n.toNat := by simp [rngI]
theorem rngI2_len {a b : Int} : (rngI2 a b).length = (b - a).toNat := by simp [rngI2]
theorem enumI_len : (enumI l).length = l.length := by simp [enumI]
theorem rngI_mem {n y : Int} : y ∈ rngI n ↔ 0 ≤ y ∧ y < n := by
  rw [List.mem_iff_getElem?]
  constructor
  · rintro ⟨i, h⟩
    obtain ⟨h1, h2⟩ := rngI_get.mp h
    omega
  · rintro ⟨h1, h2⟩
    exact ⟨y.toNat, rngI_get.mpr ⟨by omega, by omega⟩⟩
theorem rngI2_mem {a b y : Int} : y ∈ rngI2 a b ↔ a ≤ y ∧ y < b := by
  rw [List.mem_iff_getElem?]
  constructor
  · rintro ⟨i, h⟩
    obtain ⟨h1, h2⟩ := rngI2_get.mp h
    omega
  · rintro ⟨h1, h2⟩
    exact ⟨(y - a).toNat, rngI2_get.mpr ⟨by omega, by omega⟩⟩
end
end Kj

/-! Kj13: statements over kinds. M: what is new since the def began, G: what was there. -/
namespace Kj
open PySem PySem.Spec PyProof.Rows L2 Evl
section
variable {M M1 G H H1 : Hp} {Ns : List Hp}
theorem Own.uu (o : Own (M1 :: G :: Ns) H1) (e : Ex M M1) : Ex (uni G M) (uni G M1) := fun a u h => by
  unfold uni at h ⊢
  cases q : M a with
  | some z =>
    rw [q] at h
    cases h
    rw [e _ _ q]
  | none =>
    rw [q] at h
    cases q1 : M1 a with
    | none => exact h
    | some z =>
      have := o.2.1 G List.mem_cons_self a (by rw [q1]; exact fun z => nomatch z)
      rw [this] at h
      cases h
theorem Own.ug (o : Own (M :: G :: Ns) H) : Ex G (uni G M) := uni_l fun a ha => o.2.1 G List.mem_cons_self a ha
theorem Own.uh (o : Own (M :: G :: Ns) H) : Ex (uni G M) H := uni_ex o.e1 o.e0
theorem Own.init (H : Hp) : Own [emp, H] H := ⟨emp_ex, (fun _ _ a ha => absurd rfl ha), Own.one H⟩
theorem Own.rot {N : Hp} (o : Own (N :: M :: G :: Ns) H) : Own (M :: G :: N :: Ns) H := by
  have o2 : Own (M :: N :: G :: Ns) H := o.swap
  exact ⟨o2.1, fun M' hM' => by
    rcases List.mem_cons.mp hM' with z | z
    · subst z; exact o2.2.1 M' (List.mem_cons_of_mem _ List.mem_cons_self)
    · rcases List.mem_cons.mp z with z | z
      · subst z; exact o2.2.1 M' List.mem_cons_self
      · exact o2.2.1 M' (List.mem_cons_of_mem _ (List.mem_cons_of_mem _ z)), o2.2.2.swap⟩
theorem Own.exO (o : Own (M :: G :: Ns) H) {N : Hp} {j : Nat} (h : Ns[j]? = some N) : Ex N H := o.ix (i := j + 2) h
theorem Own.setO {l : Addr} {u u' : HO} {j : Nat} (o : Own (M :: G :: Ns) H) (h : Ns[j]? = some (sing l u)) : Own (M :: G :: Ns.set j (sing l u')) (upd H l u') := Own.set (j := j + 2) o h
/-- what was one's own becomes common -/
theorem Own.join {N : Hp} {j : Nat} (o : Own (M :: G :: Ns) H) (h : Ns[j]? = some N) : Own (uni M N :: G :: Ns.eraseIdx j) H := by
  have o2 : Own (N :: M :: G :: Ns.eraseIdx j) H := Own.pull (i := j + 2) o h
  exact o2.merge
theorem Own.joinE {N : Hp} {j : Nat} (o : Own (M :: G :: Ns) H) (h : Ns[j]? = some N) : Ex M (uni M N) := by
  have o2 : Own (N :: M :: G :: Ns.eraseIdx j) H := Own.pull (i := j + 2) o h
  exact uni_l fun a ha => o2.2.1 M List.mem_cons_self a ha
end
section
variable {K : PySem.W.Frag} {mg : Str → Option Value} {σ : L2.St} {H M G : Hp} {ta tb te : TE} {tr : TA} {t : TT} {v : V} {P : Hp → V → Prop} {Ns : List Hp} {D : Ends} {tu tz : TS} {α β : Type} {T : Tp α} {S : Tp β} {l m : List α} {x : α} {xs : List V} {i j : Nat} {p : Addr}
/-! ### x = e -/
theorem s_b (o : Own (M :: G :: Ns) H) (h : EvB te σ H M P) (k : ∀ v M1 H1, Ex M M1 → Own (M1 :: G :: Ns) H1 → P M1 v → D.nx (σ.set i (some v)) H1) : tAsg te (gName i) D σ H := h H (Ex.refl H) _ fun v H1 N e e2 f p => k v (uni M N) H1 (uni_exl o.e0 f) (o.add e e2 f).merge p
theorem s_bu (o : Own (M :: G :: Ns) H) (h : EvB te σ H (uni G M) P) (k : ∀ v M1 H1, Ex M M1 → Own (M1 :: G :: Ns) H1 → P (uni G M1) v → D.nx (σ.set i (some v)) H1) : tAsg te (gName i) D σ H := h H (Ex.refl H) _ fun v H1 N e e2 f p => k v (uni M N) H1 (uni_exl o.e0 f) (o.add e e2 f).merge (by rw [uni_ass] at p; exact p)
theorem q_b (o : Own (M :: G :: Ns) H) (h : EvB te σ H M P) (k : ∀ v M1 H1, Ex M M1 → Own (M1 :: G :: Ns) H1 → P M1 v → tz D (σ.set i (some v)) H1) : tSeq (tAsg te (gName i)) tz D σ H := s_b (D := { D with nx := tz D }) o h k
theorem q_bu (o : Own (M :: G :: Ns) H) (h : EvB te σ H (uni G M) P) (k : ∀ v M1 H1, Ex M M1 → Own (M1 :: G :: Ns) H1 → P (uni G M1) v → tz D (σ.set i (some v)) H1) : tSeq (tAsg te (gName i)) tz D σ H := s_bu (D := { D with nx := tz D }) o h k
/-! ### xs[i] = e -/
theorem paired_set {R : V → α → Prop} {v : V} {x : α} (h : R v x) : ∀ {xs : List V} {l : List α} (n : Nat), Paired R xs l → Paired R (xs.set n v) (l.set n x)
  | _, _, _, .nil => .nil
  | _, _, 0, .cons _ r => .cons h r
  | _, _, n + 1, .cons a r => .cons a (paired_set h n r)
theorem s_si {ti : TE} {n : Int} (o : Own (M :: G :: Ns) H) (hj : Ns[j]? = some (sing p (.lst xs))) (hx : Paired (T.R M) xs l) (h : Ed T te σ H M x) (ha : Ev ta σ H (.ref p)) (hi : Ev ti σ H (.int n)) (hn : 0 ≤ n ∧ n < l.length) (k : ∀ xs' M1 H1, Ex M M1 → Own (M1 :: G :: Ns.set j (sing p (.lst xs'))) H1 → Paired (T.R M1) xs' (l.set n.toNat x) → D.nx σ H1) : tAsg te (gSub ta ti rSetL) D σ H := h H (Ex.refl H) _ fun v H1 N e1 e2 f q => ha H1 e1 _ fun H2 e3 => hi H2 (e1.trans e3) _ fun H3 e4 => by
  have o2 : Own (uni M N :: G :: Ns) H3 := (((o.add e1 e2 f).merge).mono e3).mono e4
  have eM : Ex M (uni M N) := uni_exl o.e0 f
  have en : ixN xs.length n = some n.toNat := by
    have : ((n.toNat : Nat) : Int) = n := by omega
    rw [← this]
    exact ixN_nat (by rw [Paired.length hx]; omega)
  exact ⟨p, xs, n, n.toNat, rfl, rfl, o2.exO hj _ _ sing_at, en, k _ _ _ eM (o2.setO hj) (paired_set q _ (paired_up eM hx))⟩
theorem len_ofL {v : V} (h : (tL K T).R H v l) : l.length ≤ 40000 := by
  obtain ⟨_, _, _, _, _, h⟩ := h
  exact h
theorem len_ofW {v : V} (h : (tW T).R H v l) : l.length ≤ 40000 := by
  obtain ⟨_, _, _, _, _, h⟩ := h
  exact h
/-- .. becomes common -/
theorem own_fz (o : Own (M :: G :: Ns) H) (hj : Ns[j]? = some (sing p (.lst xs))) (hx : Paired (T.R M) xs l) (hl : l.length ≤ 40000) : (tW T).R (uni M (sing p (.lst xs))) (.ref p) l := ⟨p, xs, rfl, uni_r _ _ sing_at, paired_up (o.joinE hj) hx, hl⟩
theorem paired_mapI {H : Hp} : ∀ l : List Int, Paired (tI.R H) (l.map V.int) l
  | [] => .nil
  | _ :: r => .cons rfl (paired_mapI r)
/-! ### return -/
theorem s_rb (o : Own (M :: G :: Ns) H) (h : EvB te σ H M P) (k : RetNew G D.rt P) : tRet te D σ H := h H (Ex.refl H) _ fun v H1 N e e2 f q => by
  have o1 : Own (uni M N :: G :: Ns) H1 := (o.add e e2 f).merge
  exact k v H1 _ o1.e1 o1.e0 (fun a ha => o1.2.1 G List.mem_cons_self a ha) q
theorem s_rv' (o : Own (M :: G :: Ns) H) (h : Ev te σ H v) (k : RetNew G D.rt P) (hp : P M v) : tRet te D σ H := h H (Ex.refl H) _ fun H1 e => k v H1 M ((o.mono e).e1) ((o.mono e).e0) (fun a ha => o.2.1 G List.mem_cons_self a ha) hp
theorem ed_of {B : Hp} (h : T.R B v x) (hv : σ[i]? = some (some v)) : Ed T (tVar i) σ H B x := eb_var hv h
end
/-! ### ends -/
def resE (e : Option Str) (P : Hp → V → Prop) : Res := match e with
  | none => .ok P
  | some x => .err x []
section
variable {mg : Str → Option Value} {e : Option Str} {P : Hp → V → Prop} {H H1 : Hp} {Q : VK} {E : XK} {x : Str}
theorem res_ok (h : e = none) : resE e P = .ok P := by subst h; rfl
theorem RaiseX.go {C : Addr} (k : RaiseX mg x [] H E) (e : Ex H H1) (g : mg x = some (.ref C)) : E (.ref C) none H1 := k H1 C none e g (.inl ⟨rfl, rfl⟩)
end
end Kj

/-! Kj14: promises of things that hold what was handed in; walks over a part; index, extend. -/
namespace Kj
open PySem PySem.Spec PyProof.Rows L2 Evl
/-- the promise, told in a part B of the heap and what is new -/
def Rl.spB (S : Rl) (mg : Str → Option Value) : Sp := fun vs H Q E => ∃ B r, Ex B H ∧ S.R vs B r ∧ match r with
  | .ok P => ∀ v H' N, Ex H H' → Ex N H' → Fr H N → P (uni B N) v → Q v H'
  | .err x fs => RaiseX mg x fs H E
section
variable {K : PySem.W.Frag} {mg : Str → Option Value} {σ : L2.St} {H B : Hp} {ta te : TE} {tr : TA} {P : Hp → V → Prop} {E : L2.St → XK} {W : WX} {α γ : Type} {T : Tp α} {O : Tp γ} {S : Rl} {as : List Arg} {x : α} {z : γ} {C : Addr} {mn xn : Str} {fs : List (Str × V)}
theorem ed_callS (eB : Ex B H) (ha : EvBs tr σ H B as) (hR : ∀ vs G, ArgsR G vs as → S.R vs G (.ok fun G v => T.R G v x)) : Ed T (tCallS (S.spB mg) E tr) σ H B x := fun H1 e Q q => ha H1 e _ fun vs H2 N e2 e3 f p => by
  have eU : Ex (uni B N) H2 := uni_ex ((eB.trans e).trans e2) e3
  refine ⟨_, _, eU, hR vs _ p, fun v H3 N' e4 e5 f' p' => ?_⟩
  obtain ⟨g1, g2, g3, g4⟩ := two_parts (eB.trans e) e2 e3 f f' e4 e5
  rw [uni_ass] at p'
  exact q v H3 (uni N N') (e2.trans e4) g2 g1 p'
end
/-- what of H is not in B -/
def rest (B H : Hp) : Hp := fun a => match B a with | some _ => none | none => H a
section
variable {B H H1 M G : Hp} {Ns : List Hp}
theorem own_rest (e : Ex B H) : Own [emp, B, rest B H] H := by
  refine ⟨emp_ex, (fun _ _ a ha => absurd rfl ha), e, fun M hM a ha => ?_, fun a o h => ?_, (fun _ h => nomatch h), trivial⟩
  · have z : M = rest B H := by simpa using hM
    subst z
    unfold rest
    cases q : B a with
    | none => exact absurd q ha
    | some o => rfl
  · unfold rest at h
    cases q : B a with
    | none => rw [q] at h; exact h
    | some u => rw [q] at h; cases h
theorem rest_ex {j : Nat} (e : Ex B H) (o : Own (M :: B :: Ns) H1) (h : Ns[j]? = some (rest B H)) : Ex H H1 := fun a u ha => by
  cases q : B a with
  | none => exact o.exO h a u (by unfold rest; rw [q]; exact ha)
  | some z =>
    have := e a z q
    rw [ha] at this
    cases this
    exact o.e1 a _ q
theorem rest_fr {j : Nat} (o : Own (M :: B :: Ns) H1) (h : Ns[j]? = some (rest B H)) : Fr H M := fun a ha => by
  have h1 := o.2.1 B List.mem_cons_self a ha
  have h2 := o.2.1 (rest B H) (List.mem_cons_of_mem _ (List.mem_of_getElem? h)) a ha
  unfold rest at h2
  rw [h1] at h2
  exact h2
end
/-! ### return, raise: told in B and what is new -/
def RetOld (B H : Hp) (Q : VK) (P : Hp → V → Prop) : Prop := ∀ v H' N, Ex H H' → Ex N H' → Fr H N → P (uni B N) v → Q v H'
def OutB (mg : Str → Option Value) (r : Res) (B H : Hp) (Q : VK) (E : XK) : Prop := match r with
  | .ok P => RetOld B H Q P
  | .err x fs => RaiseX mg x fs H E
theorem spB_out {S : Rl} {mg : Str → Option Value} {vs : List V} {H : Hp} {Q : VK} {E : XK} (h : S.spB mg vs H Q E) : ∃ B r, Ex B H ∧ S.R vs B r ∧ OutB mg r B H Q E := by
  obtain ⟨B, r, h1, h2, h3⟩ := h
  refine ⟨B, r, h1, h2, ?_⟩
  cases r with
  | ok P => exact h3
  | err x fs => exact h3
section
variable {K : PySem.W.Frag} {mg : Str → Option Value} {σ : L2.St} {H H0 M B N : Hp} {ta tb te : TE} {v : V} {P : Hp → V → Prop} {Ns : List Hp} {D : Ends} {tu tz : TS} {α ι : Type} {T : Tp α} {l m : List α} {x : α} {xs : List V} {i j : Nat} {p : Addr} {e : Option Str} {Q : VK} {E : XK} {xn : Str} {wi : TI} {g : TG}
theorem resB_ok (h : e = none) (k : OutB mg (resE e P) B H Q E) : RetOld B H Q P := by subst h; exact k
theorem s_rbS (e0 : Ex B H0) (o : Own (M :: B :: Ns) H) (hj : Ns[j]? = some (rest B H0)) (h : EvB te σ H (uni B M) P) (k : RetOld B H0 D.rt P) : tRet te D σ H := h H (Ex.refl H) _ fun v H1 N e e2 f q => by
  have o1 : Own (uni M N :: B :: Ns) H1 := (o.add e e2 f).merge
  rw [uni_ass] at q
  exact k v H1 _ (rest_ex e0 o1 hj) o1.e0 (rest_fr o1 hj) q
/-- one's own list becomes common -/
theorem own_freeze {G : Hp} (o : Own (M :: G :: Ns) H) (hj : Ns[j]? = some (sing p (.lst xs))) (hx : Paired (T.R M) xs l) (hl : l.length ≤ 40000) : ∃ M1, Ex M M1 ∧ Own (M1 :: G :: Ns.eraseIdx j) H ∧ (tW T).R M1 (.ref p) l := ⟨_, o.joinE hj, o.join hj, own_fz o hj hx hl⟩
/-! ### int(a truth), isinstance -/
theorem ev_intB {b : Bool} (h : Ev ta σ H (.bl b)) : Ev (tCB (fun xs H Q => (∃ i, xs = [.int i] ∧ Q (.int i) H) ∨ ∃ k, xs = [.bl k] ∧ Q (.int (if k then 1 else 0)) H) (tCons ta tNil)) σ H (.int (if b = true then 1 else 0)) := fun H1 e Q q => h H1 e _ fun H2 e2 => .inr ⟨b, rfl, by
  have := q H2 e2
  cases b <;> exact this⟩
theorem ed_get {α : Type} [Inhabited α] {T : Tp α} {B : Hp} {te : TE} {σ : L2.St} {H : Hp} {x : Option α} (hx : x.isSome = true) (h : Ed (tO T) te σ H B x) : Ed T te σ H B (x.getD default) := eb_imp h fun _ _ p => opt_get hx p
theorem ep_any {B : Hp} {te : TE} {σ : L2.St} {H : Hp} {P : Hp → V → Prop} (h : EvB te σ H B P) : EvP te σ H fun _ _ => True := fun H1 e Q q => h H1 e Q fun v H2 N a b c _ => q v H2 N a b c trivial
end
end Kj

/-! Kj15: xs[lo::step], step more than 0. -/
namespace Kj
open PySem PySem.Spec PyProof.Rows L2 Evl
end Kj

/-! Kj16: max(xs, default=d), min(xs, default=None), tuples of any length. -/
namespace Kj
open PySem PySem.Spec PyProof.Rows L2 Evl
end Kj

/-! Kj17: sorted(ints). -/
namespace Kj
open PySem PySem.Spec PyProof.Rows L2 Evl
end Kj

/-! Kj18: tuples of any length, min(ints, default=None), max of two. -/
namespace Kj
open PySem PySem.Spec PyProof.Rows L2 Evl
/-- a tuple of any length, all of a kind -/
def tU (K : PySem.W.Frag) {α : Type} (T : Tp α) : Tp (List α) := ⟨fun H v l => ∃ p xs, v = .ref p ∧ SqT K H p xs ∧ Paired (T.R H) xs l ∧ l.length ≤ 40000, fun e ⟨p, xs, h1, h2, h3, h4⟩ => ⟨p, xs, h1, ex_t e h2, paired_up e h3, h4⟩⟩
instance {K : PySem.W.Frag} {α : Type} {T : Tp α} : NN (tU K T) := ⟨fun ⟨_, _, h, _⟩ z => by cases h; cases z⟩
instance {K : PySem.W.Frag} {α : Type} {T S : Tp α} [Z : Sub T S] : Sub (tU K T) (tU K S) := ⟨fun ⟨p, xs, h1, h2, h3, h4⟩ => ⟨p, xs, h1, h2, paired_imp (fun _ _ z => Z.to z) h3, h4⟩⟩
instance {K : PySem.W.Frag} {α : Type} {T : Tp α} [Q : Pla K T] : Pla K (tU K T) := ⟨fun l => .tuple (l.map Q.enc), fun ⟨p, xs, h1, h2, h3, _⟩ => by subst h1; exact .tup h2 (dpa_of h3), fun ⟨p, xs, h1, h2, h3, _⟩ => by simp only [PyData.canLay0, laya_of h3], fun ⟨p, xs, h1, h2, h3, h4⟩ => smD_tuple.mpr ⟨by rw [List.length_map]; exact h4, sma_of h3⟩, Q.dep + 1, fun l => by
  have := depAll (n := Q.dep) (ds := l.map Q.enc) fun d hd => by
    obtain ⟨x, _, rfl⟩ := List.mem_map.mp hd
    exact Q.depth x
  simp only [PyData.depth]
  omega, fun {H v x w y} ⟨p, xs, _, _, h3, _⟩ ⟨q, ys, _, _, g3, _⟩ => by rw [eqv_tup, eqva_of (G := H) h3 g3]⟩
section
variable {K : PySem.W.Frag} {σ : L2.St} {H B B' : Hp} {ta tb te td : TE} {tr : TA} {α : Type} {T : Tp α} {l m : List α}
/-- an item of an own list, told where the items are -/
theorem ed_ixO [Inhabited α] {k : Nat} {p : Addr} {xs : List V} {ti : TE} {i : Int} (hv : σ[k]? = some (some (.ref p))) (hp : H p = some (.lst xs)) (f : Paired (T.R B) xs l) (hi : Ev ti σ H (.int i)) (hy : -(l.length : Int) ≤ i ∧ i < l.length) : Ed T (tOp (rIx K) (tVar k) ti) σ H B (getI l i) := fun H1 e Q q =>
  ev_var hv H1 e _ fun H2 e2 => hi H2 (e.trans e2) _ fun H3 e4 => by
    obtain ⟨w, h3, h4⟩ := paired_atI f (atI_get hy)
    exact .inl ⟨p, xs, i, w, rfl, rfl, sq_of (e4 _ _ (e2 _ _ (e _ _ hp))), h3, q w H3 emp (e2.trans e4) emp_ex emp_fr h4⟩
end
end Kj

/-! Kj19: changes of a deal, told as tuples with a word ahead. -/
namespace Kj
open PySem PySem.Spec PyProof.Rows L2 Evl
inductive Chg where
  | wo (v : Int)
  | snt (v r : Int)
  | mov (v r p : Int)
deriving DecidableEq, Inhabited
def Chg.tag : Chg → Str
  | .wo _ => "without"
  | .snt _ _ => "sent"
  | .mov _ _ _ => "moved"
def Chg.v : Chg → Int
  | .wo v => v
  | .snt v _ => v
  | .mov v _ _ => v
def Chg.r : Chg → Int
  | .wo _ => 0
  | .snt _ r => r
  | .mov _ r _ => r
def Chg.p : Chg → Int
  | .mov _ _ p => p
  | _ => 0
def Chg.n : Chg → Nat
  | .wo _ => 2
  | .snt _ _ => 3
  | .mov _ _ _ => 4
theorem tag_ne4 : ("sent" : Str) ≠ "moved" := by decide +kernel
theorem tag_ne5 : ("without" : Str) ≠ "moved" := by decide +kernel
theorem Chg.n3 {c : Chg} (h : decide (c.tag = ("without" : Str)) = false) : 3 ≤ c.n := by
  cases c with
  | wo v => exact absurd rfl (of_decide_eq_false h)
  | snt v r => exact Nat.le_refl _
  | mov v r p => show 3 ≤ 4; decide
theorem Chg.n4 {c : Chg} (h : decide (c.tag = ("moved" : Str)) = true) : 4 ≤ c.n := by
  cases c with
  | wo v => exact absurd (of_decide_eq_true h) tag_ne5
  | snt v r => exact absurd (of_decide_eq_true h) tag_ne4
  | mov v r p => exact Nat.le_refl _
section
variable {K : PySem.W.Frag} {σ : L2.St} {H B : Hp} {te : TE} {c : Chg} {x r p : Int}
end
end Kj

/-! Kj20: promises of a new list that holds what was handed in. -/
namespace Kj
open PySem PySem.Spec PyProof.Rows L2 Evl
/-- a kind made of tuples and plain things: a list's cell says nothing of it -/
class Tup {α : Type} (T : Tp α) : Prop where
  drop : ∀ {G : Hp} {p : Addr} {xs : List V} {v : V} {x : α}, G p = none → T.R (uni G (sing p (.lst xs))) v x → T.R G v x
instance : Tup tI := ⟨fun _ h => h⟩
instance : Tup tB := ⟨fun _ h => h⟩
instance : Tup tS := ⟨fun _ h => h⟩
instance : Tup tX := ⟨fun _ h => h⟩
theorem uni_off {G : Hp} {p : Addr} {u : HO} {a : Addr} (h : a ≠ p) : uni G (sing p u) a = G a := by
  unfold uni
  rw [sing_ne h]
theorem sqT_drop {K : PySem.W.Frag} {G : Hp} {p : Addr} {xs ys : List V} {a : Addr} (h : SqT K (uni G (sing p (.lst xs))) a ys) : SqT K G a ys := by
  rcases h with h | h
  · have ne : a ≠ p := fun z => by
      subst z
      have e : uni G (sing a (.lst xs)) a = some (.lst xs) := uni_r _ _ sing_at
      rcases h with h | ⟨o, h⟩ <;> rw [e] at h <;> cases h
    refine .inl ?_
    rcases h with h | ⟨o, h⟩ <;> rw [uni_off ne] at h
    · exact .inl h
    · exact .inr ⟨o, h⟩
  · exact .inr h
theorem paired_drop0 {α : Type} {T : Tp α} [D : Tup T] {G : Hp} {p : Addr} {xs ys : List V} {l : List α} (hp : G p = none) (h : Paired (T.R (uni G (sing p (.lst xs)))) ys l) : Paired (T.R G) ys l := paired_imp (fun _ _ z => D.drop hp z) h
instance {K : PySem.W.Frag} {α β : Type} {T : Tp α} {S : Tp β} [D : Tup T] [E : Tup S] : Tup (tP K T S) := ⟨fun hp ⟨p, a, b, h1, h2, h3, h4⟩ => ⟨p, a, b, h1, sqT_drop h2, D.drop hp h3, E.drop hp h4⟩⟩
instance {K : PySem.W.Frag} {α β γ : Type} {T : Tp α} {S : Tp β} {U : Tp γ} [D : Tup T] [E : Tup S] [F : Tup U] : Tup (tT3 K T S U) := ⟨fun hp ⟨p, a, b, c, h1, h2, h3, h4, h5⟩ => ⟨p, a, b, c, h1, sqT_drop h2, D.drop hp h3, E.drop hp h4, F.drop hp h5⟩⟩
instance {K : PySem.W.Frag} {α β γ δ : Type} {T : Tp α} {S : Tp β} {U : Tp γ} {W : Tp δ} [D : Tup T] [E : Tup S] [F : Tup U] [O : Tup W] : Tup (tT4 K T S U W) := ⟨fun hp ⟨p, a, b, c, d, h1, h2, h3, h4, h5, h6⟩ => ⟨p, a, b, c, d, h1, sqT_drop h2, D.drop hp h3, E.drop hp h4, F.drop hp h5, O.drop hp h6⟩⟩
instance {K : PySem.W.Frag} {α : Type} {T : Tp α} [D : Tup T] : Tup (tU K T) := ⟨fun hp ⟨p, xs, h1, h2, h3, h4⟩ => ⟨p, xs, h1, sqT_drop h2, paired_drop0 hp h3, h4⟩⟩
section
variable {K : PySem.W.Frag} {mg : Str → Option Value} {σ : L2.St} {H H0 M B N : Hp} {ta tb te : TE} {tr : TA} {Ns : List Hp} {D : Ends} {α : Type} {T : Tp α} {l : List α} {xs : List V} {i j : Nat} {p : Addr} {S : Rl} {as : List Arg} {E : L2.St → XK}
end
end Kj

/-! Kj21: comprehensions of new things over anything (after Kj12's own text). -/
namespace Kj
open PySem PySem.Spec PyProof.Rows L2 Evl
section
variable {K : PySem.W.Frag} {mg : Str → Option Value} {σ : L2.St} {H B M G : Hp} {ta tb te tx ti tl : TE} {tr : TA} {t u : TT} {v w : V} {P P' : Hp → V → Prop} {Ns : List Hp} {D : Ends} {tu tz : TS} {wi : TI} {g : TG} {α β ι : Type} {T : Tp α} {S : Tp β} {Z : Hp → ι → L2.St → L2.St → Prop}
end
end Kj

/-! Kj22: a new list of others' things, taken only to be read. -/
namespace Kj
open PySem PySem.Spec PyProof.Rows L2 Evl
section
variable {K : PySem.W.Frag} {mg : Str → Option Value} {σ : L2.St} {H B : Hp} {tr : TA} {α : Type} {T : Tp α} {x : α} {S : Rl} {as : List Arg} {E : L2.St → XK}
end
end Kj

/-! Kj23: new lists whose things lie apart from one another (kind tV), so that one of them may be changed. -/
namespace Kj
open PySem PySem.Spec PyProof.Rows L2 Evl
/-- things told each in a part of its own -/
inductive Sep {α : Type} (R : Hp → V → α → Prop) : Hp → List V → List α → Prop
  | nil {N : Hp} : Sep R N [] []
  | snoc {N N1 N2 : Hp} {xs : List V} {l : List α} {x : V} {y : α} : Sep R N1 xs l → R N2 x y → Dj N1 N2 → Ex N1 N → Ex N2 N → Sep R N (xs ++ [x]) (l ++ [y])
theorem Sep.up {α : Type} {R : Hp → V → α → Prop} {N N' : Hp} {xs : List V} {l : List α} (h : Sep R N xs l) (e : Ex N N') : Sep R N' xs l := by
  cases h with
  | nil => exact .nil
  | snoc a b c d f => exact .snoc a b c (d.trans e) (f.trans e)
theorem Sep.pair {α : Type} {T : Tp α} {N : Hp} {xs : List V} {l : List α} (h : Sep T.R N xs l) : Paired (T.R N) xs l := by
  induction h with
  | nil => exact .nil
  | snoc a b c d f ih => exact paired_app' (paired_up d ih) (.cons (T.up f b) .nil)
theorem Sep.len {α : Type} {R : Hp → V → α → Prop} {N : Hp} {xs : List V} {l : List α} (h : Sep R N xs l) : xs.length = l.length := by
  induction h with
  | nil => rfl
  | snoc a b c d f ih => rw [List.length_append, List.length_append, ih]; rfl
/-- a new thing in place of one -/
theorem Sep.put {α : Type} {R : Hp → V → α → Prop} {N : Hp} {xs : List V} {l : List α} (h : Sep R N xs l) : ∀ (i : Nat) {C : Hp} {x : V} {y : α}, R C x y → Dj N C → Sep R (uni N C) (xs.set i x) (l.set i y) := by
  induction h with
  | nil => intro i C x y _ _; exact .nil
  | @snoc N N1 N2 xs l x0 y0 a b c d f ih =>
    intro i C x y hR hD
    have hlen := a.len
    have d1 : Dj N1 C := fun u hu => hD u fun w => by
      cases r : N1 u with
      | none => exact hu r
      | some o => rw [d u o r] at w; cases w
    have d2 : Dj N2 C := fun u hu => hD u fun w => by
      cases r : N2 u with
      | none => exact hu r
      | some o => rw [f u o r] at w; cases w
    have eN : Ex N (uni N C) := uni_l (Dj.symm hD)
    by_cases q : i < l.length
    · rw [List.set_append_left _ _ (by omega), List.set_append_left _ _ q]
      refine .snoc (ih i hR d1) b (fun u hu => ?_) (fun u o hu => ?_) (f.trans eN)
      · unfold uni at hu
        cases r : C u with
        | some o => exact Dj.symm d2 u (by rw [r]; exact Option.some_ne_none _)
        | none => rw [r] at hu; exact c u hu
      · unfold uni at hu ⊢
        cases r : C u with
        | some o' => rw [r] at hu; exact hu
        | none => rw [r] at hu; exact d u o hu
    · by_cases q2 : i = l.length
      · subst q2
        rw [List.set_append_right _ _ (by omega), List.set_append_right _ _ (Nat.le_refl _), hlen, Nat.sub_self]
        exact .snoc a hR d1 (d.trans eN) uni_r
      · rw [List.set_eq_of_length_le (by rw [List.length_append, List.length_singleton]; omega), List.set_eq_of_length_le (by rw [List.length_append, List.length_singleton]; omega)]
        exact .snoc a b c (d.trans eN) (f.trans eN)
/-- a new thing between them -/
theorem Sep.ins {α : Type} {R : Hp → V → α → Prop} {N : Hp} {xs : List V} {l : List α} (h : Sep R N xs l) : ∀ (k : Nat) {C : Hp} {x : V} {y : α}, R C x y → Dj N C → Sep R (uni N C) (xs.take k ++ [x] ++ xs.drop k) (l.take k ++ [y] ++ l.drop k) := by
  induction h with
  | @nil N =>
    intro k C x y hR hD
    rw [List.take_nil, List.drop_nil, List.take_nil, List.drop_nil]
    exact .snoc (N1 := emp) .nil hR (fun u hu => absurd rfl hu) emp_ex uni_r
  | @snoc N N1 N2 xs l x0 y0 a b c d f ih =>
    intro k C x y hR hD
    have hlen := a.len
    have d1 : Dj N1 C := fun u hu => hD u fun w => by
      cases r : N1 u with
      | none => exact hu r
      | some o => rw [d u o r] at w; cases w
    have d2 : Dj N2 C := fun u hu => hD u fun w => by
      cases r : N2 u with
      | none => exact hu r
      | some o => rw [f u o r] at w; cases w
    have eN : Ex N (uni N C) := uni_l (Dj.symm hD)
    by_cases q : k ≤ l.length
    · have e1 : (xs ++ [x0]).take k ++ [x] ++ (xs ++ [x0]).drop k = (xs.take k ++ [x] ++ xs.drop k) ++ [x0] := by
        rw [List.take_append_of_le_length (by omega), List.drop_append_of_le_length (by omega)]
        simp
      have e2 : (l ++ [y0]).take k ++ [y] ++ (l ++ [y0]).drop k = (l.take k ++ [y] ++ l.drop k) ++ [y0] := by
        rw [List.take_append_of_le_length q, List.drop_append_of_le_length q]
        simp
      rw [e1, e2]
      refine .snoc (ih k hR d1) b (fun u hu => ?_) (fun u o hu => ?_) (f.trans eN)
      · unfold uni at hu
        cases r : C u with
        | some o => exact Dj.symm d2 u (by rw [r]; exact Option.some_ne_none _)
        | none => rw [r] at hu; exact c u hu
      · unfold uni at hu ⊢
        cases r : C u with
        | some o' => rw [r] at hu; exact hu
        | none => rw [r] at hu; exact d u o hu
    · have e1 : (xs ++ [x0]).take k ++ [x] ++ (xs ++ [x0]).drop k = (xs ++ [x0]) ++ [x] := by
        rw [List.take_of_length_le (by rw [List.length_append, List.length_singleton]; omega), List.drop_of_length_le (by rw [List.length_append, List.length_singleton]; omega), List.append_nil]
      have e2 : (l ++ [y0]).take k ++ [y] ++ (l ++ [y0]).drop k = (l ++ [y0]) ++ [y] := by
        rw [List.take_of_length_le (by rw [List.length_append, List.length_singleton]; omega), List.drop_of_length_le (by rw [List.length_append, List.length_singleton]; omega), List.append_nil]
      rw [e1, e2]
      exact .snoc (.snoc a b c d f) hR hD eN uni_r
def tV {α : Type} (T : Tp α) : Tp (List α) := ⟨fun H v l => ∃ p xs M, v = .ref p ∧ H p = some (.lst xs) ∧ Ex M H ∧ M p = none ∧ Sep T.R M xs l ∧ l.length ≤ 40000, fun e ⟨p, xs, M, h1, h2, h3, h4⟩ => ⟨p, xs, M, h1, e _ _ h2, h3.trans e, h4⟩⟩
instance {α : Type} {T S : Tp α} [Z : Sub T S] : Sub (tV T) (tW S) := ⟨fun ⟨p, xs, M, h1, h2, h3, _, h4, h5⟩ => ⟨p, xs, h1, h2, paired_imp (fun _ _ z => Z.to z) (paired_up h3 h4.pair), h5⟩⟩
instance {K : PySem.W.Frag} {α : Type} {T S : Tp α} [Z : Sub T S] : Sub (tV T) (tL K S) := ⟨fun ⟨p, xs, M, h1, h2, h3, _, h4, h5⟩ => ⟨p, xs, h1, sq_of h2, paired_imp (fun _ _ z => Z.to z) (paired_up h3 h4.pair), h5⟩⟩
section
variable {K : PySem.W.Frag} {mg : Str → Option Value} {σ : L2.St} {H B M G : Hp} {ta tb te tx ti tl : TE} {tr : TA} {t u : TT} {v w : V} {P P' : Hp → V → Prop} {Ns : List Hp} {D : Ends} {tu tz : TS} {wi : TI} {g : TG} {α β ι : Type} {T : Tp α} {S : Tp β} {Z : Hp → ι → L2.St → L2.St → Prop}
end
end Kj

/-! Kj24: dicts with tuple keys whose key tuples are known by their places: made, put into, walked by items and keys (the way of the library's d_setItem, turn_items, pi_items, call_list_dT). -/
namespace L2
open PySem PySem.Spec PyProof.Rows
abbrev Ent := List Key × Addr × V
def KX : List Ent → List (List Key × Addr × Value) → Prop := Paired fun p q => p.1 = q.1 ∧ p.2.1 = q.2.1 ∧ RelV p.2.2 q.2.2
def putX (xs : List Ent) (k : List Key) (b : Addr) (v : V) : List Ent := if (xs.any fun p => decide (p.1 = k)) = true then xs.map (fun p => if p.1 = k then (p.1, p.2.1, v) else p) else xs ++ [(k, b, v)]
theorem KX.has {xs : List Ent} {vs : List (List Key × Addr × Value)} (r : KX xs vs) (k : List Key) : (xs.any fun p => decide (p.1 = k)) = (atKey vs k).isSome := by
  unfold KX at r
  induction r with
  | nil => rfl
  | @cons p q ps qs h t ih =>
    rw [List.any_cons]
    by_cases e : p.1 = k
    · have e' : q.1 = k := h.1.symm.trans e
      have b : atKey (q :: qs) k = some q.2 := by simp [atKey, List.find?_cons, e']
      rw [b, decide_eq_true e]; rfl
    · have e' : ¬ q.1 = k := fun z => e (h.1.trans z)
      have b : atKey (q :: qs) k = atKey qs k := by simp [atKey, List.find?_cons, e']
      rw [b, decide_eq_false e, Bool.false_or]; exact ih
theorem KX.repl {xs : List Ent} {vs : List (List Key × Addr × Value)} (r : KX xs vs) (k : List Key) {y : V} {u : Value} (ry : RelV y u) : KX (xs.map fun p => if p.1 = k then (p.1, p.2.1, y) else p) (vs.map (putAt k u)) := by
  unfold KX at r ⊢
  induction r with
  | nil => exact .nil
  | @cons p q ps qs h t ih =>
    rw [List.map_cons, List.map_cons]
    refine .cons ?_ ih
    obtain ⟨h1, h2, h3⟩ := h
    unfold putAt
    by_cases e : p.1 = k
    · rw [if_pos e, if_pos (h1.symm.trans e)]; exact ⟨h1, h2, ry⟩
    · rw [if_neg e, if_neg (fun z => e (h1.trans z))]; exact ⟨h1, h2, h3⟩
theorem KX.put {xs : List Ent} {vs : List (List Key × Addr × Value)} (r : KX xs vs) (k : List Key) {b : Addr} {y : V} {u : Value} (ry : RelV y u) : KX (putX xs k b y) (storedH vs k b u) := by
  unfold putX storedH
  rw [r.has k]
  by_cases q : (atKey vs k).isSome = true
  · rw [if_pos q, if_pos q]; exact r.repl k ry
  · rw [if_neg q, if_neg q]; exact Paired.snoc r ⟨rfl, rfl, ry⟩
section
variable {P : Program} {w : World} {H : Hp} {h : Heap} {a : Addr} {xs : List Ent}
end
section
variable {X : Cx} {pins : List (Addr × Obj)} {σ : St} {H : Hp} {s : Shared} {d : Addr} {o : Obj}
end
section
variable {P : Program} {w : World} {K : PySem.W.Frag} {tg : Expr} {d : Addr} {o : Obj} {es : Array DictEntry} {ep : Nat}
end
section
variable {X : Cx} {tg e : Expr} {td : TE} {apos cpos : Pos}
end
end L2

/-! Kj25: dicts whose keys are tuples of texts, by kinds. -/
namespace Kj
open PySem PySem.Spec PyProof.Rows L2 Evl
/-- a tuple of the heap's own -/
def tZ {α : Type} (T : Tp α) : Tp (List α) := ⟨fun H v l => ∃ p xs, v = .ref p ∧ H p = some (.tup xs) ∧ Paired (T.R H) xs l ∧ l.length ≤ 40000, fun e ⟨p, xs, h1, h2, h3, h4⟩ => ⟨p, xs, h1, e _ _ h2, paired_up e h3, h4⟩⟩
instance {α : Type} {T : Tp α} : NN (tZ T) := ⟨fun ⟨_, _, h, _⟩ z => by cases h; cases z⟩
instance {K : PySem.W.Frag} {α : Type} {T S : Tp α} [Z : Sub T S] : Sub (tZ T) (tU K S) := ⟨fun ⟨p, xs, h1, h2, h3, h4⟩ => ⟨p, xs, h1, st_of h2, paired_imp (fun _ _ z => Z.to z) h3, h4⟩⟩
section
variable {P : Program} {w : World} {K : PySem.W.Frag} {mg : Str → Option Value} {σ : L2.St} {H B M G : Hp} {ta tb te td : TE} {tr : TA} {v : V} {Ns : List Hp} {D : Ends} {tz : TS} {g : TG} {α : Type} {T : Tp α} {l : List (List Str × α)} {xs : List Ent} {i j : Nat} {p : Addr}
end
end Kj

/-! Kj26: own lists of things that are told in part; slices of tuples. -/
namespace Kj
open PySem PySem.Spec PyProof.Rows L2 Evl
section
variable {K : PySem.W.Frag} {mg : Str → Option Value} {σ : L2.St} {H B M G : Hp} {ta tb te td : TE} {tr : TA} {Ns : List Hp} {D : Ends} {tz : TS} {α : Type} {T : Tp α} {l : List α} {xs : List V} {i j : Nat} {p : Addr} {Z : α → Prop}
end
end Kj

/-! Kj27: len(set(xs)) of numbers. -/
namespace Kj
open PySem PySem.Spec PyProof.Rows L2 Evl
theorem ed_catF {K : PySem.W.Frag} {σ : L2.St} {H B B' : Hp} {ta tb : TE} {α : Type} {T : Tp α} {l m : List α} [F : Flt T] (h : Ed (tW T) ta σ H B l) (h' : Ed (tW T) tb σ H B m) (eB : Ex B H) (hl : l.length + m.length ≤ 40000) : Ed (tW T) (tOp (rAddU K) ta tb) σ H B' (l ++ m) := fun H1 e Q q =>
  h H1 e _ fun v H2 N e2 e3 f ⟨p, xs, ev, g1, g2, hl0⟩ => h' H2 (e.trans e2) _ fun w H3 N' e4 e5 f' ⟨p', ys, ew, g1', g2', hl0'⟩ => by
    subst ev ew
    have u1 : Ex (uni B N) H3 := (uni_ex ((eB.trans e).trans e2) e3).trans e4
    have u2 : Ex (uni B N') H3 := uni_ex (((eB.trans e).trans e2).trans e4) e5
    exact .inr (.inl ⟨p, p', xs, ys, rfl, rfl, u1 _ _ g1, u2 _ _ g1', sz_of (by rw [Paired.length g2, Paired.length g2']; omega), fun r hr => q (.ref r) _ (sing r (.lst (xs ++ ys))) ((e2.trans e4).trans (Ex.new hr)) (sing_ex upd_same) (sing_fr (fresh_back (e2.trans e4) hr)) ⟨r, _, rfl, uni_r _ _ sing_at, paired_app' (paired_any g2) (paired_any g2'), by rw [List.length_append]; exact hl⟩⟩)
end Kj

/-! Kj28: xs.index(y) of plain data. -/
namespace Kj
open PySem PySem.Spec PyProof.Rows L2 Evl
section
variable {mg : Str → Option Value} {σ : L2.St} {H B : Hp} {te : TE} {tr : TA} {α : Type} {T : Tp α} {P : Hp → V → Prop} {E : L2.St → XK}
end
end Kj

/-! Kj29: things that change. Each is told of by its part of the heap and by what lies about it; a call may change the parts that are given to it. -/
namespace Kj
open PySem PySem.Spec PyProof.Rows L2 Evl
/-! ### parts -/
theorem own_iff {H : Hp} : ∀ {Ns : List Hp}, Own Ns H ↔ (∀ N ∈ Ns, Ex N H) ∧ Ns.Pairwise Dj
  | [] => ⟨fun _ => ⟨fun _ h => (nomatch h), .nil⟩, fun _ => trivial⟩
  | N :: r => by
    constructor
    · rintro ⟨a, b, c⟩
      obtain ⟨c1, c2⟩ := own_iff.mp c
      exact ⟨fun M hM => (List.mem_cons.mp hM).elim (fun z => z ▸ a) (c1 M), .cons b c2⟩
    · rintro ⟨a, b⟩
      cases b with
      | cons b1 b2 => exact ⟨a N List.mem_cons_self, b1, own_iff.mpr ⟨fun M hM => a M (List.mem_cons_of_mem _ hM), b2⟩⟩
def HvL (Ps : List Hp) (H H' : Hp) : Prop := ∀ a o, H a = some o → (∀ N ∈ Ps, N a = none) → H' a = some o
def NewL (Ps : List Hp) (H M : Hp) : Prop := ∀ a, M a ≠ none → H a = none ∨ ∃ N ∈ Ps, N a ≠ none
theorem ne_some {α : Type} {x : Option α} {o : α} (h : x = some o) : x ≠ none := by rw [h]; exact fun z => nomatch z
theorem dj_uni {A B C : Hp} (h1 : Dj A C) (h2 : Dj B C) : Dj (uni A B) C := fun a h => (uni_some h).elim (h1 a) (h2 a)
theorem own_sub {M G H : Hp} {Ps Rs : List Hp} (o : Own (M :: G :: (Ps ++ Rs)) H) : Own (uni G M :: Ps) H := by
  obtain ⟨a, b⟩ := own_iff.mp o
  cases b with
  | cons b1 b2 =>
    cases b2 with
    | cons c1 c2 =>
      obtain ⟨d1, d2, d3⟩ := List.pairwise_append.mp c2
      refine own_iff.mpr ⟨fun N hN => ?_, .cons (fun N hN => dj_uni (c1 N (List.mem_append.mpr (.inl hN))) (b1 N (List.mem_cons_of_mem _ (List.mem_append.mpr (.inl hN))))) d1⟩
      rcases List.mem_cons.mp hN with z | z
      · subst z
        exact uni_ex (a G (List.mem_cons_of_mem _ List.mem_cons_self)) (a M List.mem_cons_self)
      · exact a N (List.mem_cons_of_mem _ (List.mem_cons_of_mem _ (List.mem_append.mpr (.inl z))))
theorem hvl_ex {N H H' : Hp} {Ps : List Hp} (hv : HvL Ps H H') (e : Ex N H) (d : ∀ P ∈ Ps, Dj N P) : Ex N H' := fun a o h => hv a o (e a o h) fun P hP => d P hP a (ne_some h)
theorem newl_dj {N H M : Hp} {Ps : List Hp} (n : NewL Ps H M) (e : Ex N H) (d : ∀ P ∈ Ps, Dj N P) : Dj M N := fun a h => by
  rcases n a h with z | ⟨P, hP, z⟩
  · exact ex_none e z
  · exact (d P hP).symm a z
/-- behind a call that got the parts Ps and gave back Ps' -/
theorem own_back {M G H H' M' : Hp} {Ps Rs Ps' : List Hp} (o : Own (M :: G :: (Ps ++ Rs)) H) (hv : HvL Ps H H') (o' : Own (M' :: Ps') H') (n : ∀ N ∈ M' :: Ps', NewL Ps H N) : Own (uni M M' :: G :: (Ps' ++ Rs)) H' := by
  obtain ⟨a, b⟩ := own_iff.mp o
  obtain ⟨a', b'⟩ := own_iff.mp o'
  cases b with
  | cons b1 b2 =>
    cases b2 with
    | cons c1 c2 =>
      obtain ⟨d1, d2, d3⟩ := List.pairwise_append.mp c2
      cases b' with
      | cons e1 e2 =>
        have hM : Ex M H := a M List.mem_cons_self
        have hG : Ex G H := a G (List.mem_cons_of_mem _ List.mem_cons_self)
        have hR : ∀ N ∈ Rs, Ex N H := fun N hN => a N (List.mem_cons_of_mem _ (List.mem_cons_of_mem _ (List.mem_append.mpr (.inr hN))))
        have jM : ∀ P ∈ Ps, Dj M P := fun P hP => b1 P (List.mem_cons_of_mem _ (List.mem_append.mpr (.inl hP)))
        have jG : ∀ P ∈ Ps, Dj G P := fun P hP => c1 P (List.mem_append.mpr (.inl hP))
        have jR : ∀ N ∈ Rs, ∀ P ∈ Ps, Dj N P := fun N hN P hP => (d3 P hP N hN).symm
        have nM := n M' List.mem_cons_self
        refine own_iff.mpr ⟨fun N hN => ?_, .cons (fun N hN => ?_) (.cons (fun N hN => ?_) (List.pairwise_append.mpr ⟨e2, d2, fun P hP N hN => newl_dj (n P (List.mem_cons_of_mem _ hP)) (hR N hN) (jR N hN)⟩))⟩
        · rcases List.mem_cons.mp hN with z | z
          · subst z; exact uni_ex (hvl_ex hv hM jM) (a' M' List.mem_cons_self)
          · rcases List.mem_cons.mp z with z | z
            · subst z; exact hvl_ex hv hG jG
            · rcases List.mem_append.mp z with z | z
              · exact a' N (List.mem_cons_of_mem _ z)
              · exact hvl_ex hv (hR N z) (jR N z)
        · rcases List.mem_cons.mp hN with z | z
          · subst z
            exact dj_uni (b1 N List.mem_cons_self) (newl_dj nM hG jG)
          · rcases List.mem_append.mp z with z | z
            · exact dj_uni (newl_dj (n N (List.mem_cons_of_mem _ z)) hM jM).symm (e1 N z)
            · exact dj_uni (b1 N (List.mem_cons_of_mem _ (List.mem_append.mpr (.inr z)))) (newl_dj nM (hR N z) (jR N z))
        · rcases List.mem_append.mp hN with z | z
          · exact (newl_dj (n N (List.mem_cons_of_mem _ z)) hG jG).symm
          · exact c1 N (List.mem_append.mpr (.inr z))
theorem own_exl {M G H H' M' : Hp} {Ps Rs Ps' : List Hp} (o : Own (M :: G :: (Ps ++ Rs)) H) (n : ∀ N ∈ M' :: Ps', NewL Ps H N) : Ex M (uni M M') := by
  obtain ⟨a, b⟩ := own_iff.mp o
  cases b with
  | cons b1 b2 => exact uni_l fun x hx => newl_dj (n M' List.mem_cons_self) (a M List.mem_cons_self) (fun P hP => b1 P (List.mem_cons_of_mem _ (List.mem_append.mpr (.inl hP)))) x hx
/-- a part is moved to the front -/
theorem Own.front {M G H N : Hp} {Ns : List Hp} {j : Nat} (o : Own (M :: G :: Ns) H) (h : Ns[j]? = some N) : Own (M :: G :: ([N] ++ Ns.eraseIdx j)) H := by
  have o2 : Own (N :: M :: G :: Ns.eraseIdx j) H := Own.pull (i := j + 2) o h
  exact o2.rot
/-! ### promises -/
structure St (α : Type) where
  R : Hp → Hp → V → α → Prop
  up : ∀ {B B' N v x}, Ex B B' → R B N v x → R B' N v x
inductive ResX where
  | ok (P : Hp → List Hp → V → Prop)
  | err (x : Str) (fs : List (Str × V)) (P : Hp → List Hp → Prop)
structure RlX where
  R : List V → Hp → List Hp → ResX → Prop
def RetX (B : Hp) (Ps : List Hp) (H : Hp) (Q : VK) (P : Hp → List Hp → V → Prop) : Prop := ∀ v H' M Ps', HvL Ps H H' → Own (M :: Ps') H' → (∀ N ∈ M :: Ps', NewL Ps H N) → P (uni B M) Ps' v → Q v H'
/-- the fields of what was raised lie in what is new -/
def XdM (fs : List (Str × V)) (d : Option Addr) (M : Hp) : Prop := fs = [] ∧ d = none ∨ ∃ a, d = some a ∧ M a = some (.xd fs) ∧ fs ≠ []
theorem XdM.up {fs : List (Str × V)} {d : Option Addr} {M M' : Hp} (h : XdM fs d M) (e : Ex M M') : XdM fs d M' := h.imp id fun ⟨a, h1, h2, h3⟩ => ⟨a, h1, e _ _ h2, h3⟩
def RaiseL (mg : Str → Option Value) (x : Str) (fs : List (Str × V)) (B : Hp) (Ps : List Hp) (H : Hp) (E : XK) (P : Hp → List Hp → Prop) : Prop := ∀ H' M Ps' C d, HvL Ps H H' → Own (M :: Ps') H' → (∀ N ∈ M :: Ps', NewL Ps H N) → P (uni B M) Ps' → mg x = some (.ref C) → XdM fs d M → E (.ref C) d H'
def OutX (mg : Str → Option Value) (r : ResX) (B : Hp) (Ps : List Hp) (H : Hp) (Q : VK) (E : XK) : Prop := match r with
  | .ok P => RetX B Ps H Q P
  | .err x fs P => RaiseL mg x fs B Ps H E P
def RlX.sp (S : RlX) (mg : Str → Option Value) : Sp := fun vs H Q E => ∃ B Ps r, Own (B :: Ps) H ∧ S.R vs B Ps r ∧ OutX mg r B Ps H Q E
/-- an error, told by a name or none -/
def resX (e : Option Str) (P : Hp → List Hp → V → Prop) (PE : Hp → List Hp → Prop) : ResX := match e with
  | none => .ok P
  | some x => .err x [] PE
/-- a value that is known -/
def tIs (v : V) : Tp Unit := ⟨fun _ w _ => w = v, fun _ h => h⟩
/-! ### a call with parts -/
def EvC (te : TE) (σ : L2.St) (M G : Hp) (Ns : List Hp) (H : Hp) (W : Hp → List Hp → V → Prop) : Prop := ∀ Q : VK, (∀ v M1 Ns1 H1, Ex M M1 → Own (M1 :: G :: Ns1) H1 → W (uni G M1) Ns1 v → Q v H1) → te σ H Q
section
variable {K : PySem.W.Frag} {mg : Str → Option Value} {σ : L2.St} {H M G N : Hp} {Ns Ps Rs : List Hp} {ta te : TE} {tr : TA} {v : V} {as : List Arg} {S : RlX} {E : L2.St → XK} {W : Hp → List Hp → V → Prop} {Z : Hp → List Hp → Prop} {C : Addr} {mn : Str} {Wx : WX} {xn : Str} {fs : List (Str × V)}
theorem ec_args {H2 N1 : Hp} (o : Own (M :: G :: (Ps ++ Rs)) H) (e2 : Ex H H2) (e3 : Ex N1 H2) (f : Fr H N1) : Own (uni M N1 :: G :: (Ps ++ Rs)) H2 ∧ Ex M (uni M N1) ∧ uni (uni G M) N1 = uni G (uni M N1) := ⟨(o.add e2 e3 f).merge, uni_exl o.e0 f, uni_ass _ _ _⟩
/-- f(..) -/
theorem ec_call (o : Own (M :: G :: (Ps ++ Rs)) H) (ha : EvBs tr σ H (uni G M) as) (hR : ∀ vs B, Ex (uni G M) B → ArgsR B vs as → ∃ P, S.R vs B Ps (.ok P) ∧ ∀ G' Ps' w, P G' Ps' w → W G' (Ps' ++ Rs) w) : EvC (tCallS (S.sp mg) E tr) σ M G (Ps ++ Rs) H W := fun Q q => ha H (Ex.refl H) _ fun vs H2 N1 e2 e3 f p => by
  obtain ⟨o2, eM, eu⟩ := ec_args o e2 e3 f
  rw [eu] at p
  obtain ⟨P, h1, h2⟩ := hR vs _ (o2.uu eM) p
  refine ⟨uni G (uni M N1), Ps, .ok P, own_sub o2, h1, fun w H' M' Ps' hv o' n hp => q w (uni (uni M N1) M') (Ps' ++ Rs) H' (eM.trans (own_exl (H' := H') o2 n)) (own_back o2 hv o' n) ?_⟩
  have := h2 _ _ _ hp
  rw [uni_ass] at this
  exact this
/-- o.m(..), o a thing that changes -/
theorem ec_meth (o : Own (M :: G :: (Ps ++ Rs)) H) (hv : Ev ta σ H v) (hi : ∃ p dx gs, v = .ref p ∧ H p = some (.ins C dx gs) ∧ gs.lookup mn = none) (ha : EvBs tr σ H (uni G M) as) (hR : ∀ vs B, Ex (uni G M) B → ArgsR B vs as → ∃ P, S.R (v :: vs) B Ps (.ok P) ∧ ∀ G' Ps' w, P G' Ps' w → W G' (Ps' ++ Rs) w) : EvC (tMethS C mn (S.sp mg) E ta tr) σ M G (Ps ++ Rs) H W := fun Q q => hv H (Ex.refl H) _ fun H0 e0 => by
  obtain ⟨p, dx, gs, rfl, h1, h2⟩ := hi
  refine ⟨p, dx, gs, rfl, e0 _ _ h1, h2, ha H0 e0 _ fun vs H2 N1 e2 e3 f pa => ?_⟩
  obtain ⟨o2, eM, eu⟩ := ec_args (o.mono e0) e2 e3 f
  rw [eu] at pa
  obtain ⟨P, k1, k2⟩ := hR vs _ (o2.uu eM) pa
  refine ⟨uni G (uni M N1), Ps, .ok P, own_sub o2, k1, fun w H' M' Ps' hv o' n hp => q w (uni (uni M N1) M') (Ps' ++ Rs) H' (eM.trans (own_exl (H' := H') o2 n)) (own_back o2 hv o' n) ?_⟩
  have := k2 _ _ _ hp
  rw [uni_ass] at this
  exact this
/-! ### what changes nothing is an expression as any other -/
theorem hvl_same {H H' : Hp} (hv : HvL Ps H H') (o' : ∀ N ∈ Ps, Ex N H') (o : ∀ N ∈ Ps, Ex N H) : Ex H H' := fun a u h => by
  by_cases q : ∃ N ∈ Ps, N a ≠ none
  · obtain ⟨N, hN, z⟩ := q
    cases w : N a with
    | none => exact absurd w z
    | some o1 =>
      have := o N hN a o1 w
      rw [h] at this
      cases this
      exact o' N hN a _ w
  · refine hv a u h fun N hN => ?_
    cases w : N a with
    | none => rfl
    | some o1 => exact absurd ⟨N, hN, ne_some w⟩ q
section
variable {α : Type} {T : Tp α} {y : α}
theorem pure_core {H1 H2 N1 : Hp} {P : Hp → List Hp → V → Prop} {Q : VK} (o : Own (M :: G :: (Ps ++ Rs)) H) (e : Ex H H1) (e2 : Ex H1 H2) (e3 : Ex N1 H2) (f : Fr H1 N1) (h2 : ∀ G' Ps' w, P G' Ps' w → Ps' = Ps ∧ T.R G' w y) (q : ∀ v H3 N, Ex H1 H3 → Ex N H3 → Fr H1 N → T.R (uni (uni G M) N) v y → Q v H3) : RetX (uni G (uni M N1)) Ps H2 Q P := fun w H' M' Ps' hv o' n hp => by
  obtain ⟨o2, eM, eu⟩ := ec_args (o.mono e) e2 e3 f
  obtain ⟨rfl, hT⟩ := h2 _ _ _ hp
  obtain ⟨a', b'⟩ := own_iff.mp o'
  have os := own_iff.mp (own_sub o2)
  have e4 : Ex H2 H' := hvl_same hv (fun N hN => a' N (List.mem_cons_of_mem _ hN)) fun N hN => os.1 N (List.mem_cons_of_mem _ hN)
  have f' : Fr H2 M' := fun a ha => by
    rcases n M' List.mem_cons_self a ha with z | ⟨N, hN, z⟩
    · exact z
    · cases b' with
      | cons c1 c2 => exact absurd (c1 N hN a ha) z
  obtain ⟨g1, g2, g3, g4⟩ := two_parts (uni_ex (o.mono e).e1 (o.mono e).e0) e2 e3 f f' e4 (a' M' List.mem_cons_self)
  rw [← eu, uni_ass] at hT
  exact q w H' (uni N1 M') (e2.trans e4) g2 g1 hT
theorem ed_callP (o : Own (M :: G :: (Ps ++ Rs)) H) (ha : EvBs tr σ H (uni G M) as) (hR : ∀ vs B, Ex (uni G M) B → ArgsR B vs as → ∃ P, S.R vs B Ps (.ok P) ∧ ∀ G' Ps' w, P G' Ps' w → Ps' = Ps ∧ T.R G' w y) : Ed T (tCallS (S.sp mg) E tr) σ H (uni G M) y := fun H1 e Q q => ha H1 e _ fun vs H2 N1 e2 e3 f p => by
  obtain ⟨o2, eM, eu⟩ := ec_args (o.mono e) e2 e3 f
  rw [eu] at p
  obtain ⟨P, h1, h2⟩ := hR vs _ (o2.uu eM) p
  exact ⟨uni G (uni M N1), Ps, .ok P, own_sub o2, h1, pure_core o e e2 e3 f h2 q⟩
theorem ed_methP (o : Own (M :: G :: (Ps ++ Rs)) H) (hv : Ev ta σ H v) (hi : ∃ p dx gs, v = .ref p ∧ H p = some (.ins C dx gs) ∧ gs.lookup mn = none) (ha : EvBs tr σ H (uni G M) as) (hR : ∀ vs B, Ex (uni G M) B → ArgsR B vs as → ∃ P, S.R (v :: vs) B Ps (.ok P) ∧ ∀ G' Ps' w, P G' Ps' w → Ps' = Ps ∧ T.R G' w y) : Ed T (tMethS C mn (S.sp mg) E ta tr) σ H (uni G M) y := fun H1 e Q q => hv H1 e _ fun H0 e0 => by
  obtain ⟨p, dx, gs, rfl, h1, h2⟩ := hi
  refine ⟨p, dx, gs, rfl, e0 _ _ (e _ _ h1), h2, ha H0 (e.trans e0) _ fun vs H2 N1 e2 e3 f pa => ?_⟩
  obtain ⟨o2, eM, eu⟩ := ec_args (o.mono (e.trans e0)) e2 e3 f
  rw [eu] at pa
  obtain ⟨P, k1, k2⟩ := hR vs _ (o2.uu eM) pa
  exact ⟨uni G (uni M N1), Ps, .ok P, own_sub o2, k1, pure_core o (e.trans e0) e2 e3 f k2 fun w H3 N a b c d => q w H3 N (e0.trans a) b (c.back e0) d⟩
theorem err_core {H1 H2 N1 : Hp} {P : Hp → List Hp → Prop} (o : Own (M :: G :: (Ps ++ Rs)) H) (e : Ex H H1) (e2 : Ex H1 H2) (e3 : Ex N1 H2) (f : Fr H1 N1) (h2 : ∀ G' Ps', P G' Ps' → Ps' = Ps) (q : RaiseX mg xn fs H1 (WE Wx σ)) : RaiseL mg xn fs (uni G (uni M N1)) Ps H2 (WE Wx σ) P := fun H' M' Ps' C d hv o' n hp g c => by
  obtain ⟨o2, eM, eu⟩ := ec_args (o.mono e) e2 e3 f
  have z := h2 _ _ hp
  subst z
  obtain ⟨a', b'⟩ := own_iff.mp o'
  have os := own_iff.mp (own_sub o2)
  have e4 : Ex H2 H' := hvl_same hv (fun N hN => a' N (List.mem_cons_of_mem _ hN)) fun N hN => os.1 N (List.mem_cons_of_mem _ hN)
  refine q H' C d (e2.trans e4) g (c.imp id fun ⟨a, k1, k2, k3⟩ => ⟨a, k1, a' M' List.mem_cons_self _ _ k2, ?_, k3⟩)
  rcases n M' List.mem_cons_self a (ne_some k2) with z | ⟨N, hN, z⟩
  · exact ex_none e2 z
  · cases b' with
    | cons c1 c2 => exact absurd (c1 N hN a (ne_some k2)) z
theorem er_methP (o : Own (M :: G :: (Ps ++ Rs)) H) (hv : Ev ta σ H v) (hi : ∃ p dx gs, v = .ref p ∧ H p = some (.ins C dx gs) ∧ gs.lookup mn = none) (ha : EvBs tr σ H (uni G M) as) (hR : ∀ vs B, Ex (uni G M) B → ArgsR B vs as → ∃ P, S.R (v :: vs) B Ps (.err xn fs P) ∧ ∀ G' Ps', P G' Ps' → Ps' = Ps) : EvErr mg Wx xn fs (tMethS C mn (S.sp mg) (WE Wx) ta tr) σ H := fun H1 e q Q => hv H1 e _ fun H0 e0 => by
  obtain ⟨p, dx, gs, rfl, h1, h2⟩ := hi
  refine ⟨p, dx, gs, rfl, e0 _ _ (e _ _ h1), h2, ha H0 (e.trans e0) _ fun vs H2 N1 e2 e3 f pa => ?_⟩
  obtain ⟨o2, eM, eu⟩ := ec_args (o.mono (e.trans e0)) e2 e3 f
  rw [eu] at pa
  obtain ⟨P, k1, k2⟩ := hR vs _ (o2.uu eM) pa
  exact ⟨uni G (uni M N1), Ps, .err xn fs P, own_sub o2, k1, err_core o (e.trans e0) e2 e3 f k2 (q.fwd e0)⟩
end
/-! ### statements -/
variable {D : Ends} {tz : TS} {i : Nat} {g : TG}
theorem s_c (h : EvC te σ M G Ns H W) (k : ∀ v M1 Ns1 H1, Ex M M1 → Own (M1 :: G :: Ns1) H1 → W (uni G M1) Ns1 v → D.nx (σ.set i (some v)) H1) : tAsg te (gName i) D σ H := h _ fun v M1 Ns1 H1 a b c => k v M1 Ns1 H1 a b c
theorem q_c (h : EvC te σ M G Ns H W) (k : ∀ v M1 Ns1 H1, Ex M M1 → Own (M1 :: G :: Ns1) H1 → W (uni G M1) Ns1 v → tz D (σ.set i (some v)) H1) : tSeq (tAsg te (gName i)) tz D σ H := s_c (D := { D with nx := tz D }) h k
theorem s_cd (h : EvC te σ M G Ns H W) (k : ∀ v M1 Ns1 H1, Ex M M1 → Own (M1 :: G :: Ns1) H1 → W (uni G M1) Ns1 v → D.nx σ H1) : tDrop te D σ H := h _ fun v M1 Ns1 H1 a b c => k v M1 Ns1 H1 a b c
theorem q_cd (h : EvC te σ M G Ns H W) (k : ∀ v M1 Ns1 H1, Ex M M1 → Own (M1 :: G :: Ns1) H1 → W (uni G M1) Ns1 v → tz D σ H1) : tSeq (tDrop te) tz D σ H := s_cd (D := { D with nx := tz D }) h k
/-! ### fields of a thing of one's own -/
variable {p dx : Addr} {gs : List (Str × V)} {f : Str} {j : Nat} {P : Hp → V → Prop}
theorem ed_fldO {α : Type} {T : Tp α} {x : α} {B : Hp} {u : V} (hv : Ev ta σ H (.ref p)) (h : H p = some (.ins C dx gs)) (c : Cls K C) (n : NoAttr K C f) (hl : gs.lookup f = some u) (ht : T.R B u x) (eB : Ex B H) : Ed T (tFld K ta f) σ H B x := fun H1 e Q q => hv H1 e _ fun H2 e2 => ⟨p, C, dx, gs, u, rfl, e2 _ _ (e _ _ h), c, n, hl, q u H2 emp e2 emp_ex emp_fr (by rw [uni_emp]; exact ht)⟩
theorem s_fldX (o : Own (M :: G :: Ns) H) (hj : Ns[j]? = some (sing p (.ins C dx gs))) (hv : Ev ta σ H (.ref p)) (h : EvB te σ H (uni G M) P) (c : Cls K C) (n : NoAttr K C f) (hl : gs.length < 1000) (k : ∀ v M1 H1, Ex M M1 → Own (M1 :: G :: Ns.set j (sing p (.ins C dx (putF f v gs)))) H1 → P (uni G M1) v → D.nx σ H1) : sFld K ta te f D σ H := h H (Ex.refl H) _ fun v H1 N1 e e2 fr q => hv H1 e _ fun H2 e3 => by
  have o1 : Own (uni M N1 :: G :: Ns) H1 := (o.add e e2 fr).merge
  have o2 := o1.mono e3
  rw [uni_ass] at q
  exact ⟨p, C, dx, gs, rfl, o2.exO hj _ _ sing_at, c, n, hl, k v _ _ (uni_exl o.e0 fr) (o2.setO hj) q⟩
end
/-! ### the def that is called with parts -/
/-- what of H is in none of the parts -/
def rest2 (Ps : List Hp) (H : Hp) : Hp := fun a => if ∃ N ∈ Ps, N a ≠ none then none else H a
open Classical in
theorem rest2_some {Ps : List Hp} {H : Hp} {a : Addr} {o : HO} (h : rest2 Ps H a = some o) : H a = some o ∧ ∀ N ∈ Ps, N a = none := by
  unfold rest2 at h
  split at h
  · cases h
  · rename_i q
    refine ⟨h, fun N hN => ?_⟩
    cases w : N a with
    | none => rfl
    | some u => exact absurd ⟨N, hN, ne_some w⟩ q
theorem own_start {B H : Hp} {Ps : List Hp} (o : Own (B :: Ps) H) : Own (emp :: B :: (Ps ++ [rest2 (B :: Ps) H])) H := by
  obtain ⟨a, b⟩ := own_iff.mp o
  refine own_iff.mpr ⟨fun N hN => ?_, .cons (fun _ _ x hx => absurd rfl hx) ?_⟩
  · rcases List.mem_cons.mp hN with z | z
    · subst z; exact emp_ex
    · rw [← List.cons_append] at z
      rcases List.mem_append.mp z with z | z
      · exact a N z
      · rw [List.mem_singleton.mp z]
        exact fun x u h => (rest2_some h).1
  · rw [← List.cons_append]
    refine List.pairwise_append.mpr ⟨b, List.pairwise_singleton _ _, fun N hN R hR x hx => ?_⟩
    rw [List.mem_singleton.mp hR]
    cases q : rest2 (B :: Ps) H x with
    | none => rfl
    | some u => exact absurd ((rest2_some q).2 N hN) hx
theorem rest2_of {Ps : List Hp} {H : Hp} {a : Addr} {o : HO} (h : H a = some o) (n : ∀ N ∈ Ps, N a = none) : rest2 Ps H a = some o := by
  unfold rest2
  rw [if_neg fun ⟨N, hN, z⟩ => z (n N hN)]
  exact h
theorem x_fin {B H H' M : Hp} {Ps Ps' Rs : List Hp} (o0 : Own (B :: Ps) H) (o : Own (M :: B :: (Ps' ++ Rs)) H') (hr : rest2 (B :: Ps) H ∈ Rs) : HvL Ps H H' ∧ Own (M :: Ps') H' ∧ ∀ N ∈ M :: Ps', NewL Ps H N := by
  obtain ⟨a, b⟩ := own_iff.mp o
  obtain ⟨a0, b0⟩ := own_iff.mp o0
  cases b with
  | cons b1 b2 =>
    cases b2 with
    | cons c1 c2 =>
      obtain ⟨d1, d2, d3⟩ := List.pairwise_append.mp c2
      have hB : Ex B H' := a B (List.mem_cons_of_mem _ List.mem_cons_self)
      have hR : Ex (rest2 (B :: Ps) H) H' := a _ (List.mem_cons_of_mem _ (List.mem_cons_of_mem _ (List.mem_append.mpr (.inr hr))))
      refine ⟨fun x u h n => ?_, own_iff.mpr ⟨fun N hN => ?_, .cons (fun N hN => b1 N (List.mem_cons_of_mem _ (List.mem_append.mpr (.inl hN)))) d1⟩, fun N hN x hx => ?_⟩
      · cases q : B x with
        | some w =>
          have := a0 B List.mem_cons_self x w q
          rw [h] at this
          cases this
          exact hB x _ q
        | none => exact hR x u (rest2_of h fun N hN => (List.mem_cons.mp hN).elim (fun z => z ▸ q) (n N))
      · rcases List.mem_cons.mp hN with z | z
        · subst z; exact a N List.mem_cons_self
        · exact a N (List.mem_cons_of_mem _ (List.mem_cons_of_mem _ (List.mem_append.mpr (.inl z))))
      · by_cases hp : ∃ P ∈ Ps, P x ≠ none
        · exact .inr hp
        · refine .inl ?_
          have jB : Dj N B := by
            rcases List.mem_cons.mp hN with z | z
            · subst z; exact b1 B List.mem_cons_self
            · exact (c1 N (List.mem_append.mpr (.inl z))).symm
          have jR : Dj N (rest2 (B :: Ps) H) := by
            rcases List.mem_cons.mp hN with z | z
            · subst z; exact b1 _ (List.mem_cons_of_mem _ (List.mem_append.mpr (.inr hr)))
            · exact d3 N z _ hr
          cases q : H x with
          | none => rfl
          | some u =>
            have h1 := jR x hx
            rw [rest2_of q fun P hP => ?_] at h1
            · cases h1
            · rcases List.mem_cons.mp hP with z | z
              · rw [z]; exact jB x hx
              · cases w : P x with
                | none => rfl
                | some w' => exact absurd ⟨P, z, ne_some w⟩ hp
section
variable {mg : Str → Option Value} {σ : L2.St} {B H H' M : Hp} {Ps Ps' Rs : List Hp} {te : TE} {v : V} {D : Ends} {P : Hp → V → Prop} {PP : Hp → List Hp → V → Prop} {PE : Hp → List Hp → Prop} {e : Option Str} {Q : VK} {E : XK} {x : Str} {fs : List (Str × V)} {C : Addr}
theorem resX_ok (h : e = none) (k : OutX mg (resX e PP PE) B Ps H Q E) : RetX B Ps H Q PP := by subst h; exact k
theorem resX_err (h : e = some x) (k : OutX mg (resX e PP PE) B Ps H Q E) : RaiseL mg x [] B Ps H E PE := by subst h; exact k
theorem s_rbX (o0 : Own (B :: Ps) H) (o : Own (M :: B :: (Ps' ++ Rs)) H') (hr : rest2 (B :: Ps) H ∈ Rs) (h : EvB te σ H' (uni B M) P) (k : RetX B Ps H D.rt PP) (hp : ∀ G w, Ex (uni B M) G → P G w → PP G Ps' w) : tRet te D σ H' := h H' (Ex.refl H') _ fun w H1 N e1 e2 f q => by
  have o1 : Own (uni M N :: B :: (Ps' ++ Rs)) H1 := (o.add e1 e2 f).merge
  obtain ⟨h1, h2, h3⟩ := x_fin o0 o1 hr
  rw [uni_ass] at q
  exact k w H1 (uni M N) Ps' h1 h2 h3 (hp _ _ (o1.uu (uni_exl o.e0 f)) q)
theorem s_rvX (o0 : Own (B :: Ps) H) (o : Own (M :: B :: (Ps' ++ Rs)) H') (hr : rest2 (B :: Ps) H ∈ Rs) (h : Ev te σ H' v) (k : RetX B Ps H D.rt PP) (hp : PP (uni B M) Ps' v) : tRet te D σ H' := h H' (Ex.refl H') _ fun H1 e1 => by
  obtain ⟨h1, h2, h3⟩ := x_fin o0 (o.mono e1) hr
  exact k v H1 M Ps' h1 h2 h3 hp
theorem s_rnQ (o0 : Own (B :: Ps) H) (o : Own (M :: B :: (Ps' ++ Rs)) H') (hr : rest2 (B :: Ps) H ∈ Rs) (k : RetX B Ps H Q PP) (hp : PP (uni B M) Ps' .non) : Q .non H' := by
  obtain ⟨h1, h2, h3⟩ := x_fin o0 o hr
  exact k .non H' M Ps' h1 h2 h3 hp
theorem RaiseL.go (k : RaiseL mg x [] B Ps H E PE) (o0 : Own (B :: Ps) H) (o : Own (M :: B :: (Ps' ++ Rs)) H') (hr : rest2 (B :: Ps) H ∈ Rs) (hp : PE (uni B M) Ps') (g : mg x = some (.ref C)) : E (.ref C) none H' := by
  obtain ⟨h1, h2, h3⟩ := x_fin o0 o hr
  exact k H' M Ps' C none h1 h2 h3 hp g (.inl ⟨rfl, rfl⟩)
/-- a raise goes through -/
theorem RaiseL.fwd (k : RaiseL mg x fs B Ps H E PE) (o0 : Own (B :: Ps) H) (o : Own (M :: B :: (Ps' ++ Rs)) H') (hr : rest2 (B :: Ps) H ∈ Rs) (hp : ∀ G, Ex (uni B M) G → PE G Ps') : RaiseX mg x fs H' E := fun H1 C d e1 g c => by
  rcases c with ⟨rfl, rfl⟩ | ⟨a, rfl, h2, h3, h4⟩
  · obtain ⟨k1, k2, k3⟩ := x_fin o0 (o.mono e1) hr
    exact k H1 M Ps' C none k1 k2 k3 (hp _ (Ex.refl _)) g (.inl ⟨rfl, rfl⟩)
  · have o1 : Own (uni M (sing a (.xd fs)) :: B :: (Ps' ++ Rs)) H1 := (o.add e1 (sing_ex h2) (sing_fr h3)).merge
    obtain ⟨k1, k2, k3⟩ := x_fin o0 o1 hr
    exact k H1 _ Ps' C (some a) k1 k2 k3 (hp _ (o1.uu (uni_exl o.e0 (sing_fr h3)))) g (.inr ⟨a, rfl, uni_r _ _ sing_at, h4⟩)
end
/-! ### a field of one's own thing is laid anew -/
section
variable {K : PySem.W.Frag} {mg : Str → Option Value} {σ : L2.St} {H M G N : Hp} {Ns Ps Rs : List Hp} {ta te : TE} {tr : TA} {v : V} {as : List Arg} {S : RlX} {E : L2.St → XK} {W : Hp → List Hp → V → Prop} {C p dx : Addr} {Wx : WX} {xn : Str} {fs : List (Str × V)} {D : Ends} {tz : TS} {f : Str} {j : Nat} {P : Hp → V → Prop} {gs : List (Str × V)}
theorem s_fldY (gs' : V → List (Str × V)) (hq : ∀ v, putF f v gs = gs' v) (o : Own (M :: G :: Ns) H) (hj : Ns[j]? = some (sing p (.ins C dx gs))) (hv : Ev ta σ H (.ref p)) (h : EvB te σ H (uni G M) P) (c : Cls K C) (n : NoAttr K C f) (hl : gs.length < 1000) (k : ∀ v M1 H1, Ex M M1 → Own (M1 :: G :: Ns.set j (sing p (.ins C dx (gs' v)))) H1 → P (uni G M1) v → D.nx σ H1) : sFld K ta te f D σ H := s_fldX o hj hv h c n hl fun v M1 H1 a b c => k v M1 H1 a (by rw [← hq]; exact b) c
theorem q_fldY (gs' : V → List (Str × V)) (hq : ∀ v, putF f v gs = gs' v) (o : Own (M :: G :: Ns) H) (hj : Ns[j]? = some (sing p (.ins C dx gs))) (hv : Ev ta σ H (.ref p)) (h : EvB te σ H (uni G M) P) (c : Cls K C) (n : NoAttr K C f) (hl : gs.length < 1000) (k : ∀ v M1 H1, Ex M M1 → Own (M1 :: G :: Ns.set j (sing p (.ins C dx (gs' v)))) H1 → P (uni G M1) v → tz D σ H1) : tSeq (sFld K ta te f) tz D σ H := s_fldY (D := { D with nx := tz D }) gs' hq o hj hv h c n hl k
theorem ed_isv {B : Hp} (h : Ev te σ H v) : Ed (tIs v) te σ H B () := fun H1 e Q q => h H1 e _ fun H2 e2 => q v H2 emp e2 emp_ex emp_fr rfl
theorem resX_none {e : Option Str} {PP : Hp → List Hp → V → Prop} {PE : Hp → List Hp → Prop} (h : e = none) : resX e PP PE = .ok PP := by rw [h]; rfl
theorem resX_some {e : Option Str} {PP : Hp → List Hp → V → Prop} {PE : Hp → List Hp → Prop} {x : Str} (h : e = some x) : resX e PP PE = .err x [] PE := by rw [h]; rfl
/-! ### a new thing that will change -/
def RlX.spI (S : RlX) (mg : Str → Option Value) (C : Addr) : Sp := fun vs H Q E => ∃ (x dx : Addr) (us : List V) (G B : Hp) (r : ResX), vs = .ref x :: us ∧ H = upd (upd G dx (.own x)) x (.ins C dx []) ∧ G x = none ∧ G dx = none ∧ dx ≠ x ∧ Ex B G ∧ S.R us B [] r ∧
  match r with
  | .ok P => ∀ H' M Ps', Ex G H' → Own (M :: Ps') H' → (∀ N ∈ M :: Ps', Fr G N) → P (uni B M) Ps' (.ref x) → Q .non H'
  | .err xn fs _ => RaiseX mg xn fs G E
theorem ec_make (o : Own (M :: G :: Rs) H) (ha : EvBs tr σ H (uni G M) as) (hR : ∀ vs B, Ex (uni G M) B → ArgsR B vs as → ∃ P, S.R vs B [] (.ok P) ∧ ∀ G' Ps' w, P G' Ps' w → W G' (Ps' ++ Rs) w) : EvC (tMakeS C (S.spI mg C) E tr) σ M G Rs H W := fun Q q => ha H (Ex.refl H) _ fun vs H2 N1 e2 e3 f p x dx hx hdx hne => by
  obtain ⟨o2, eM, eu⟩ := ec_args (Ps := []) o e2 e3 f
  rw [eu] at p
  obtain ⟨P, h1, h2⟩ := hR vs _ (o2.uu eM) p
  refine ⟨x, dx, vs, H2, uni G (uni M N1), .ok P, rfl, rfl, hx, hdx, hne, (own_sub (Ps := []) o2).1, h1, fun H' M' Ps' e4 o' n hp => ⟨rfl, ?_⟩⟩
  have hv : HvL [] H2 H' := fun a u h _ => e4 a u h
  have n' : ∀ N ∈ M' :: Ps', NewL [] H2 N := fun N hN a ha => .inl (n N hN a ha)
  refine q (.ref x) (uni (uni M N1) M') (Ps' ++ Rs) H' (eM.trans (own_exl (Ps := []) (H' := H') o2 n')) (own_back (Ps := []) o2 hv o' n') ?_
  have := h2 _ _ _ hp
  rw [uni_ass] at this
  exact this
theorem er_makeX (o : Own (M :: G :: Rs) H) (ha : EvBs tr σ H (uni G M) as) (hR : ∀ vs B, Ex (uni G M) B → ArgsR B vs as → ∃ P, S.R vs B [] (.err xn fs P)) : EvErr mg Wx xn fs (tMakeS C (S.spI mg C) (WE Wx) tr) σ H := fun H1 e q Q => ha H1 e _ fun vs H2 N1 e2 e3 f p x dx hx hdx hne => by
  obtain ⟨o2, eM, eu⟩ := ec_args (Ps := []) (o.mono e) e2 e3 f
  rw [eu] at p
  obtain ⟨P, h1⟩ := hR vs _ (o2.uu eM) p
  exact ⟨x, dx, vs, H2, uni G (uni M N1), .err xn fs P, rfl, rfl, hx, hdx, hne, (own_sub (Ps := []) o2).1, h1, q.fwd e2⟩
end
/-! ### the __init__ of a thing that will change -/
theorem own_initX {G B : Hp} {x dx : Addr} {o : HO} (hx : G x = none) (hdx : G dx = none) (hne : dx ≠ x) (eB : Ex B G) : Own (emp :: B :: sing x o :: rest2 [B] G :: []) (upd (upd G dx (.own x)) x o) := by
  have o1 : Own [sing x o, G] (upd (upd G dx (.own x)) x o) := own_init hx hdx hne
  have e1 : Ex G (upd (upd G dx (.own x)) x o) := o1.2.2.1
  have eR : Ex (rest2 [B] G) G := fun a u h => (rest2_some h).1
  have djx : ∀ N : Hp, Ex N G → Dj (sing x o) N := fun N e a ha => by
    have z : a = x := Classical.byContradiction fun z => ha (sing_ne z)
    subst z
    exact ex_none e hx
  refine own_iff.mpr ⟨fun N hN => ?_, .cons (fun _ _ a ha => absurd rfl ha) (.cons (fun N hN => ?_) (.cons (fun N hN => ?_) (List.pairwise_singleton _ _)))⟩
  · simp only [List.mem_cons, List.not_mem_nil, or_false] at hN
    rcases hN with z | z | z | z
    · rw [z]; exact emp_ex
    · rw [z]; exact eB.trans e1
    · rw [z]; exact o1.1
    · rw [z]; exact eR.trans e1
  · simp only [List.mem_cons, List.not_mem_nil, or_false] at hN
    rcases hN with z | z
    · rw [z]; exact (djx B eB).symm
    · rw [z]
      intro a ha
      cases q : rest2 [B] G a with
      | none => rfl
      | some u => exact absurd ((rest2_some q).2 B (List.mem_singleton.mpr rfl)) ha
  · rw [List.mem_singleton.mp hN]
    exact djx _ eR
section
variable {mg : Str → Option Value} {G B M H' : Hp} {x : Addr} {e : Option Str} {xn : Str} {PP : Hp → List Hp → V → Prop} {PE : Hp → List Hp → Prop} {Q : VK} {E : XK} {C : Addr} {Ps' Rs : List Hp}
def InitK (mg : Str → Option Value) (G B : Hp) (x : Addr) (Q : VK) (E : XK) (r : ResX) : Prop := match r with
  | .ok P => ∀ H' M Ps', Ex G H' → Own (M :: Ps') H' → (∀ N ∈ M :: Ps', Fr G N) → P (uni B M) Ps' (.ref x) → Q .non H'
  | .err xn fs _ => RaiseX mg xn fs G E
theorem init_out {S : RlX} {vs : List V} {H : Hp} (h : S.spI mg C vs H Q E) : ∃ (x dx : Addr) (us : List V) (G B : Hp) (r : ResX), vs = .ref x :: us ∧ H = upd (upd G dx (.own x)) x (.ins C dx []) ∧ G x = none ∧ G dx = none ∧ dx ≠ x ∧ Ex B G ∧ S.R us B [] r ∧ InitK mg G B x Q E r := by
  obtain ⟨x, dx, us, G, B, r, h1, h2, h3, h4, h5, h6, h7, h8⟩ := h
  refine ⟨x, dx, us, G, B, r, h1, h2, h3, h4, h5, h6, h7, ?_⟩
  cases r with
  | ok P => exact h8
  | err x fs P => exact h8
theorem x_finI (eB : Ex B G) (o : Own (M :: B :: (Ps' ++ Rs)) H') (hr : rest2 [B] G ∈ Rs) : Ex G H' ∧ Own (M :: Ps') H' ∧ ∀ N ∈ M :: Ps', Fr G N := by
  have o0 : Own (B :: []) G := ⟨eB, (fun _ h => nomatch h), trivial⟩
  obtain ⟨h1, h2, h3⟩ := x_fin o0 o hr
  exact ⟨fun a u h => h1 a u h fun _ z => (nomatch z), h2, fun N hN a ha => (h3 N hN a ha).elim id fun ⟨_, z, _⟩ => (nomatch z)⟩
theorem init_fin (h : e = none) (k : InitK mg G B x Q E (resX e PP PE)) (eB : Ex B G) (o : Own (M :: B :: (Ps' ++ Rs)) H') (hr : rest2 [B] G ∈ Rs) (hp : PP (uni B M) Ps' (.ref x)) : Q .non H' := by
  subst h
  obtain ⟨h1, h2, h3⟩ := x_finI eB o hr
  exact k H' M Ps' h1 h2 h3 hp
theorem init_raise (h : e = some xn) (k : InitK mg G B x Q E (resX e PP PE)) (eB : Ex B G) (o : Own (M :: B :: (Ps' ++ Rs)) H') (hr : rest2 [B] G ∈ Rs) : RaiseX mg xn [] H' E := by
  subst h
  exact RaiseX.fwd (x_finI eB o hr).1 k
end
theorem uni_upl {B B' N : Hp} (e : Ex B B') : Ex (uni B N) (uni B' N) := fun a o h => by
  unfold uni at h ⊢
  cases q : N a with
  | some u => rw [q] at h; exact h
  | none => rw [q] at h; exact e a o h
/-- told of more -/
theorem ed_toB {α : Type} {T : Tp α} {te : TE} {σ : L2.St} {H B B' : Hp} {x : α} (e : Ex B B') (h : Ed T te σ H B x) : Ed T te σ H B' x := fun H1 e1 Q q => h H1 e1 _ fun v H2 N a b c p => q v H2 N a b c (T.up (uni_upl e) p)
end Kj

/-! Kj30: dicts with text keys that are known (records); a list times a number. -/
namespace Kj
open PySem PySem.Spec PyProof.Rows L2 Evl
/-- the pairs of a display whose keys are texts -/
def EvD (trs : List (TE × TE)) (σ : L2.St) (H B : Hp) (ks : List Str) (as : List Arg) : Prop := ∀ H1, Ex H H1 → ∀ Q : List (V × V) → Hp → Prop, (∀ vs H2 N, Ex H1 H2 → Ex N H2 → Fr H1 N → vs.length = ks.length → ArgsR (uni B N) vs as → Q ((ks.map V.str).zip vs) H2) → tPairs trs σ H1 Q
section
variable {K : PySem.W.Frag} {σ : L2.St} {H B M G : Hp} {ta tb te tk : TE} {trs : List (TE × TE)} {α β : Type} {T : Tp α} {S : Tp β} {x : α} {y : β} {as : List Arg} {ks : List Str} {k : Str} {Ns : List Hp} {D : Ends} {tz : TS} {i j : Nat} {p : Addr} {P : Hp → V → Prop} {kvs : List (Key × V)}
theorem evd_nil : EvD [] σ H B [] [] := fun H1 _ Q q => q [] H1 emp (Ex.refl H1) emp_ex emp_fr rfl trivial
theorem evd_cons (eB : Ex B H) (hk : Ev tk σ H (.str k)) (h : Ed T te σ H B x) (hr : EvD trs σ H B ks as) : EvD ((tk, te) :: trs) σ H B (k :: ks) (⟨T, x⟩ :: as) := fun H1 e Q q =>
  hk H1 e _ fun H2 e0 => h H2 (e.trans e0) _ fun v H3 N e2 e3 f p => hr H3 ((e.trans e0).trans e2) _ fun us H4 N' e4 e5 f' hl p' => by
    obtain ⟨g1, g2, g3, g4⟩ := two_parts ((eB.trans e).trans e0) e2 e3 f f' e4 e5
    exact q (v :: us) H4 (uni N N') ((e0.trans e2).trans e4) g2 (g1.back e0) (by rw [List.length_cons, List.length_cons, hl]) ⟨T.up g3 p, p'.up g4⟩
/-- {"k": v, ..} -/
theorem eb_disp (eB : Ex B H) (h : EvD trs σ H B ks as) (hl : ks.length ≤ 15) (i : ∀ G p vs, vs.length = ks.length → G p = some (.dK (mergeK [] ((ks.map (Sum.inr : Str → Key)).zip vs))) → ArgsR G vs as → P G (.ref p)) : EvB (tDisp trs) σ H B P := fun H1 e Q q p hp => by
  have en : Ex H1 (upd H1 p (.dK [])) := Ex.new hp
  refine h (upd H1 p (.dK [])) (e.trans en) _ fun vs H2 N e2 e3 f hv pa => ⟨e2 _ _ upd_same, (ks.map (Sum.inr : Str → Key)).zip vs, ?_, ?_, ?_⟩
  · rw [List.zip_map_left, List.zip_map_left, List.map_map]
    rfl
  · rw [List.length_zip, List.length_map, hv]
    omega
  · have fN : Fr H1 N := f.back en
    have np : N p = none := by
      cases z : N p with
      | none => rfl
      | some o =>
        have h1 := f p (ne_some z)
        rw [upd_same] at h1
        cases h1
    have eN : Ex N (upd H2 p (.dK (mergeK [] ((ks.map (Sum.inr : Str → Key)).zip vs)))) := fun a o ha => by
      have z : a ≠ p := fun z => by rw [z, np] at ha; cases ha
      rw [upd_ne z]
      exact e3 a o ha
    have eH : Ex H1 (upd H2 p (.dK (mergeK [] ((ks.map (Sum.inr : Str → Key)).zip vs)))) := fun a o ha => by
      have z : a ≠ p := fun z => by rw [z, hp] at ha; cases ha
      rw [upd_ne z]
      exact e2 a o (en a o ha)
    have fs : Fr H1 (sing p (.dK (mergeK [] ((ks.map (Sum.inr : Str → Key)).zip vs)))) := sing_fr hp
    have g1 : Fr H1 (uni N (sing p (.dK (mergeK [] ((ks.map (Sum.inr : Str → Key)).zip vs))))) := uni_fr fN fs
    have g3 : Ex (uni B N) (uni B (uni N (sing p (.dK (mergeK [] ((ks.map (Sum.inr : Str → Key)).zip vs)))))) := by
      rw [← uni_ass]
      refine uni_l fun a ha => ?_
      have z : a = p := Classical.byContradiction fun z => ha (sing_ne z)
      subst z
      unfold uni
      rw [np]
      exact ex_none (eB.trans e) hp
    exact q (.ref p) _ _ eH (uni_ex eN (sing_ex upd_same)) g1 (i _ p vs hv (uni_r _ _ (uni_r _ _ sing_at)) (pa.up g3))
/-- d["k"] -/
theorem ed_dgetR (h : Ed T ta σ H B x) (hk : Ev tb σ H (.str k)) (eB : Ex B H) (g : ∀ G v, T.R G v x → ∃ p kvs u, v = .ref p ∧ G p = some (.dK kvs) ∧ valV kvs (.inr k) = some u ∧ S.R G u y) : Ed S (tDGet ta tb) σ H B y := fun H1 e Q q => h H1 e _ fun v H2 N e2 e3 f r => hk H2 (e.trans e2) _ fun H3 e4 => by
  obtain ⟨p, kvs, u, rfl, h1, h2, h3⟩ := g _ _ r
  have hd : H3 p = some (.dK kvs) := e4 _ _ (uni_ex ((eB.trans e).trans e2) e3 _ _ h1)
  have := DGet.k (k := (.inr k : Key)) hd
  rw [h2] at this
  exact ⟨p, u, rfl, this, q u H3 N (e2.trans e4) (e3.trans e4) f h3⟩
/-! ### a list times a number -/
def repI {α : Type} (l : List α) (n : Int) : List α := (List.replicate n.toNat l).flatten
theorem paired_rep {β : Type} {R : V → β → Prop} {xs : List V} {l : List β} (h : Paired R xs l) : ∀ n : Nat, Paired R (List.replicate n xs).flatten (List.replicate n l).flatten
  | 0 => .nil
  | n + 1 => by
    rw [List.replicate_succ, List.replicate_succ, List.flatten_cons, List.flatten_cons]
    exact paired_app' h (paired_rep h n)
theorem repI_len {β : Type} (l : List β) (n : Int) : (repI l n).length = n.toNat * l.length := by
  unfold repI
  rw [List.length_flatten, List.map_replicate, List.sum_replicate_nat]
theorem en_rep {l : List α} {n : Int} (h : Ed (tW T) ta σ H B l) (hn : Ev tb σ H (.int n)) (eB : Ex B H) (hl : -1000 ≤ n ∧ n ≤ 1000 ∧ l.length ≤ 40) : Edn T (tOp rMulU ta tb) σ H B (repI l n) := fun H1 e Q q =>
  h H1 e _ fun v H2 N e2 e3 f ⟨p, xs, ev, g1, g2, hl0⟩ => hn H2 (e.trans e2) _ fun H3 e4 => by
    subst ev
    have hx : xs.length = l.length := Paired.length g2
    have hb : xs.length * n.toNat ≤ 40000 := by
      rw [hx]
      exact Nat.le_trans (Nat.mul_le_mul hl.2.2 (show n.toNat ≤ 1000 by omega)) (by decide)
    refine .inl (.inr ⟨p, n, xs, rfl, rfl, e4 _ _ (uni_ex ((eB.trans e).trans e2) e3 _ _ g1), by omega, by omega, by rw [sizeLine_eq]; omega, fun r hr => ?_⟩)
    refine q r _ _ N ((e2.trans e4).trans (Ex.new hr)) ((e3.trans e4).trans (Ex.new hr)) f (fresh_back (e2.trans e4) hr) (ex_none (e3.trans e4) hr) upd_same (paired_rep g2 n.toNat) ?_
    rw [repI_len, Nat.mul_comm, ← hx]
    exact hb
/-- a new list whose things lie apart from it -/
theorem s_oF {PP : Hp → V → Prop} {Z : List α → Prop} (o : Own (M :: G :: Ns) H) (h : EvP te σ H PP) (g : ∀ N v, PP N v → ∃ p xs y N', v = .ref p ∧ N p = some (.lst xs) ∧ Ex N' N ∧ N' p = none ∧ Paired (T.R N') xs y ∧ y.length ≤ 40000 ∧ Z y) (k : ∀ p xs y M1 H1, Ex M M1 → Own (M1 :: G :: sing p (.lst xs) :: Ns) H1 → Paired (T.R M1) xs y → y.length ≤ 40000 → Z y → D.nx (σ.set i (some (.ref p))) H1) : tAsg te (gName i) D σ H := h H (Ex.refl H) _ fun v H1 N e e2 f hp => by
  obtain ⟨p, xs, y, N', rfl, h1, h2, h3, h4, h5, h6⟩ := g _ _ hp
  have f' : Fr H N' := fun a ha => f a (by
    cases z : N' a with
    | none => exact absurd z ha
    | some u => exact ne_some (h2 a u z))
  have o1 : Own (uni M N' :: G :: Ns) H1 := (o.add e (h2.trans e2) f').merge
  have hpn : H p = none := f p (ne_some h1)
  refine k p xs y (uni M N') H1 (uni_exl o.e0 f') ?_ (paired_up uni_r h4) h5 h6
  have hM : uni M N' p = none := by
    unfold uni
    rw [h3]
    exact ex_none o.e0 hpn
  obtain ⟨a, b⟩ := own_iff.mp o1
  have o2 : Own (sing p (.lst xs) :: uni M N' :: G :: Ns) H1 := own_iff.mpr ⟨fun X hX => ?_, .cons (fun X hX x hx => ?_) b⟩
  · exact o2.rot
  · rcases List.mem_cons.mp hX with z | z
    · subst z; exact sing_ex (e2 _ _ h1)
    · exact a X z
  · have z : x = p := Classical.byContradiction fun z => hx (sing_ne z)
    subst z
    rcases List.mem_cons.mp hX with w | w
    · rw [w]; exact hM
    · exact ex_none ((own_iff.mp o).1 X (List.mem_cons_of_mem _ w)) hpn
theorem q_oF {PP : Hp → V → Prop} {Z : List α → Prop} (o : Own (M :: G :: Ns) H) (h : EvP te σ H PP) (g : ∀ N v, PP N v → ∃ p xs y N', v = .ref p ∧ N p = some (.lst xs) ∧ Ex N' N ∧ N' p = none ∧ Paired (T.R N') xs y ∧ y.length ≤ 40000 ∧ Z y) (k : ∀ p xs y M1 H1, Ex M M1 → Own (M1 :: G :: sing p (.lst xs) :: Ns) H1 → Paired (T.R M1) xs y → y.length ≤ 40000 → Z y → tz D (σ.set i (some (.ref p))) H1) : tSeq (tAsg te (gName i)) tz D σ H := s_oF (D := { D with nx := tz D }) o h g k
theorem outX_ok {mg : Str → Option Value} {PP : Hp → List Hp → V → Prop} {Ps : List Hp} {Q : VK} {E : XK} (k : OutX mg (.ok PP) B Ps H Q E) : RetX B Ps H Q PP := k
/-- a, b = f(..), f gives back parts -/
theorem s_cas {g : TG} {W : Hp → List Hp → V → Prop} (h : EvC te σ M G Ns H W) (k : ∀ v M1 Ns1 H1, Ex M M1 → Own (M1 :: G :: Ns1) H1 → W (uni G M1) Ns1 v → g v σ H1 D.nx) : tAsg te g D σ H := h _ fun v M1 Ns1 H1 a b c => k v M1 Ns1 H1 a b c
theorem q_cas {g : TG} {W : Hp → List Hp → V → Prop} (h : EvC te σ M G Ns H W) (k : ∀ v M1 Ns1 H1, Ex M M1 → Own (M1 :: G :: Ns1) H1 → W (uni G M1) Ns1 v → g v σ H1 (tz D)) : tSeq (tAsg te g) tz D σ H := s_cas (D := { D with nx := tz D }) h k
end
end Kj

/-! Kj31: lambdas without parameters that are made and called in one def (a dict of acts). The table of the def's code object is a part of the heap. -/
namespace LamX
open PySem PySem.Spec PyProof.Rows L2
/-- the thing at f is this object -/
def FunO (f : Addr) (o : Obj) : HO := .ext fun h => h.get? f = some o
/-- a lambda is made: the part N holds the table -/
def tMk (P : Addr) (q : Str) (ob : Value → Addr → Value → Obj) : TE := fun _ H Q => ∃ N : Hp, (∀ a o, N a = some o → H a = some o) ∧ TabS N P q ∧
  ∀ (f c' : Addr) (pm ctv : Value) (N1 H1 : Hp), (∀ a o, H a = some o → N a = none → H1 a = some o) → (∀ a o, N1 a = some o → H1 a = some o) → (∀ a, N1 a ≠ none → H a = none ∨ N a ≠ none) → TabS N1 P q → (∀ a o, N a = some o → (∀ ps, o ≠ .tbl ps) → N1 a = some o) → N1 c' = some (CodeO c' q) → H1 f = some (FunO f (ob pm c' ctv)) → H f = none → N1 f = none → Q (.ref f) H1
section
variable {X : Cx} {params : Arguments} {body : Expr} {scope : Scope} {pos : Pos} {c P : Addr}
end
end LamX
namespace Kj
open PySem PySem.Spec PyProof.Rows L2 Evl
/-- a def of the text whose code object is known -/
structure DfC (K : PySem.W.Frag) (mg : Str → Option Value) (x : Str) (st : Stmt) (ps : List Str) (c : Addr) : Prop where
  ex : ∃ (f : Addr) (oc : Value) (od : Option Addr) (kV doc pm : Value) (an : Option Addr) (ct : Value) (osl : Array (Option Value)), mg x = some (.ref f) ∧ K.lookup f = some ⟨oc, od, .func (PySem.W.fnOf x x (defArgs st) (defBody st) (defScope st) .none kV doc pm an (.ref c) ct), osl⟩ ∧ PySem.W.codeIn K (.ref c) x = true ∧ PySem.W.keepIn K (.ref f) = true ∧ Binds K (PySem.W.fnOf x x (defArgs st) (defBody st) (defScope st) .none kV doc pm an (.ref c) ct) ps []
theorem DfC.ok {P : Program} {w : World} {K : PySem.W.Frag} {mg : Str → Option Value} {base : Heap} {x : Str} {st : Stmt} {N ps : List Str} {k : Nat} {sp : Sp} {c : Addr} (D : DfC K mg x st ps c) (S : FnScope N ps (defScope st)) (len : ∀ vs H Q E, sp vs H Q E → vs.length = ps.length)
    (hbody : ∀ (f : Addr) (A : Around) (outer : List Env) (s : Shared) (H : Hp) (vs : List V) (Q : VK) (E : XK), Room k (A.deeper (envOfC x (defScope st) s.heap.objs.size f (.ref c))) → sp vs H Q E →
      ∃ t, PSs (cxOf (L2.CX P w) P w K mg base N x (defScope st) f (.ref c) A outer s H E) (defBody st) t ∧ t { nx := fun _ H' => Q .non H', rt := Q } (start N vs) H) : Ok P w K mg base (k + 1) x ps sp := by
  obtain ⟨f, oc, od, kV, doc, pm, an, ct, osl, g, lk, hcd, kp, b⟩ := D.ex
  exact ⟨f, _, g, kp, b, fn_of lk hcd S len fun A outer s H vs Q E hr h => hbody f A outer s H vs Q E hr h, oc, od, osl, lk⟩
open LamX
section
variable {K : PySem.W.Frag} {mg : Str → Option Value} {σ : L2.St} {H M G NT : Hp} {Ns : List Hp} {P : Addr} {q : Str}
/-- what a lambda that was made is: the thing in M, its code in the table's part -/
def LamR (q : Str) (M NT : Hp) (v : V) (ob : Value → Addr → Value → Obj) : Prop := ∃ (f c' : Addr) (pm ctv : Value), v = .ref f ∧ M f = some (FunO f (ob pm c' ctv)) ∧ NT c' = some (CodeO c' q)
theorem LamR.up {M1 NT1 : Hp} {v : V} {ob : Value → Addr → Value → Obj} (h : LamR q M NT v ob) (e : Ex M M1) (e2 : ∀ c', NT c' = some (CodeO c' q) → NT1 c' = some (CodeO c' q)) : LamR q M1 NT1 v ob := by
  obtain ⟨f, c', pm, ctv, h1, h2, h3⟩ := h
  exact ⟨f, c', pm, ctv, h1, e _ _ h2, e2 _ h3⟩
inductive LamT (P : Addr) (q : Str) : List (TE × TE) → List (Str × (Value → Addr → Value → Obj)) → Prop
  | nil : LamT P q [] []
  | cons {k : Str} {ob : Value → Addr → Value → Obj} {r : List (TE × TE)} {l : List (Str × (Value → Addr → Value → Obj))} (h : LamT P q r l) : LamT P q ((tC (.str k), tMk P q ob) :: r) ((k, ob) :: l)
end
end Kj

/-! Kj32: the end of a law by facts that the top's run in the kernel tells (HandS.Head*). -/
namespace Kj
open PySem PySem.Spec PyProof.Rows L2 Evl
section
variable {K : PySem.W.Frag} {mg : Str → Option Value} {h : Heap}
theorem fun_ofD {x q : Str} {st : Stmt} {kws : List (Str × V)} {f : Addr} {fd : FuncData} (F : FunD K x q (defArgs st) (defBody st) (defScope st) [] kws f fd) : Fun K x q st f fd := by
  obtain ⟨oc, od, dV, kV, doc, pm, an, cdv, ct, osl, rfl, lk, hcd, hD, hK⟩ := F.ex
  rcases hD with ⟨_, rfl⟩ | ⟨e, _⟩
  · exact ⟨⟨oc, od, kV, doc, pm, an, cdv, ct, osl, rfl, lk, hcd⟩, F.kp⟩
  · exact absurd rfl e
/-- an exception class with an __init__ of its own -/
def xobB (K : PySem.W.Frag) (C : Addr) : Bool := match K.lookup C with
  | some ⟨.type t, _, .cls cd, sl⟩ => (match cd.mro, sl.toList with
    | .ref D :: bm, [_, _, _, _, some (.builtin n), _] => decide (t = "type") && (decide (D = C) && (decide (n = "ValueError.__new__") && (!cd.hasDel && (cd.hasDict && PySem.HandSPX.refsVE bm))))
    | _, _ => false)
  | _ => false
def xiB (K : PySem.W.Frag) (x : Str) : Bool := xobB K (He.ga K x) && (decide (PySem.W.findIn K (.ref (He.ga K x)) "__setattr__" = some (some (.builtin "object.__setattr__"))) && (decide (PySem.W.subIn K (.ref (He.ga K x)) (.type "BaseException") = some true) && (decide (PySem.W.typeIn K (.ref (He.ga K x)) = some (.type "type")) && (PySem.W.keepIn K (.ref (He.ga K x)) && (decide (PySem.W.findIn K (.ref (He.ga K x)) "__init__" = some (some (.ref (He.ma K (He.ga K x) "__init__")))) && decide (PySem.W.typeIn K (.ref (He.ma K (He.ga K x) "__init__")) = some (.type "function")))))))
theorem ba {a b : Bool} (h : (a && b) = true) : a = true ∧ b = true := Bool.and_eq_true_iff.mp h
theorem xob_ok {C : Addr} (h : xobB K C = true) : ∃ nm q N bs bm sn sub ab col dd k0 k1 k2 k3 k5, K.lookup C = some (excClassObj nm q C N bs bm true sn sub ab col dd k0 k1 k2 k3 k5 "ValueError.__new__") ∧ PySem.HandSPX.refsVE bm = true := by
  unfold xobB at h
  split at h
  · rename_i t dd cd sl ho
    split at h
    · rename_i D bm k0 k1 k2 k3 n k5 hm hs
      obtain ⟨e1, h⟩ := ba h
      obtain ⟨e2, h⟩ := ba h
      obtain ⟨e3, h⟩ := ba h
      obtain ⟨e4, h⟩ := ba h
      obtain ⟨e5, e6⟩ := ba h
      have e1 := of_decide_eq_true e1
      have e2 := of_decide_eq_true e2
      have e3 := of_decide_eq_true e3
      obtain ⟨a1, a2, a3, a4, a5, a6, a7, a8, a9, a10, a11⟩ := cd
      dsimp only at hm e4 e5
      have e4 : a11 = false := by simpa using e4
      subst e1 e2 e3 hm e4 e5
      have es : sl = #[k0, k1, k2, k3, some (.builtin "ValueError.__new__"), k5] := by
        cases sl
        simp only at hs
        rw [hs]
      rw [ho, es]
      exact ⟨_, _, _, _, _, _, _, _, _, _, _, _, _, _, _, rfl, e6⟩
    · cases h
  · cases h
theorem xi_ok {x : Str} (h : xiB K x = true) : OexC K (He.ga K x) ∧ PySem.W.findIn K (.ref (He.ga K x)) "__init__" = some (some (.ref (He.ma K (He.ga K x) "__init__"))) ∧ PySem.W.typeIn K (.ref (He.ma K (He.ga K x) "__init__")) = some (.type "function") := by
  obtain ⟨h1, h⟩ := ba h
  obtain ⟨h2, h⟩ := ba h
  obtain ⟨h3, h⟩ := ba h
  obtain ⟨h4, h⟩ := ba h
  obtain ⟨h5, h⟩ := ba h
  obtain ⟨h6, h7⟩ := ba h
  exact ⟨⟨xob_ok h1, of_decide_eq_true h2, of_decide_eq_true h3, of_decide_eq_true h4, h5⟩, of_decide_eq_true h6, of_decide_eq_true h7⟩
theorem mkr_ok {x : Str} (c : (He.Fa.mkr x).ok K = true) : PySem.W.makesIn K (He.ga K x) = true ∧ PySem.W.keepIn K (.ref (He.ga K x)) = true := by
  obtain ⟨h1, h⟩ := ba (show (_ && _) = true from c)
  obtain ⟨h2, h⟩ := ba h
  exact ⟨h1, (ba h).2⟩
end
end Kj

/-! Kj33: the head's facts, the part of the heap that they look at laid open once (level by level, each value brought to its form). -/
namespace Kj
open PySem PySem.Spec PyProof.Rows L2 Evl
section
variable {β : Type}
def frV (v : Value) (k : Value → β) : β := match v with
  | .ref a => HandSHeadRun.frNat a fun a => k (.ref a)
  | v => k v
theorem frV_eq (v : Value) (k : Value → β) : frV v k = k v := by
  cases v with
  | ref a => exact HandSHeadRun.frNat_eq a fun a => k (.ref a)
  | _ => rfl
def frVs : List Value → (List Value → β) → β
  | [], k => k []
  | v :: r, k => frV v fun v => frVs r fun r => k (v :: r)
theorem frVs_eq : ∀ (l : List Value) (k : List Value → β), frVs l k = k l
  | [], _ => rfl
  | v :: r, k => by
    show frV v (fun v => frVs r fun r => k (v :: r)) = _
    rw [frV_eq, frVs_eq r]
def frEs : List DictEntry → (List DictEntry → β) → β
  | [], k => k []
  | ⟨h, u, v⟩ :: r, k => frV u fun u => frV v fun v => frEs r fun r => k (⟨h, u, v⟩ :: r)
theorem frEs_eq : ∀ (l : List DictEntry) (k : List DictEntry → β), frEs l k = k l
  | [], _ => rfl
  | ⟨h, u, v⟩ :: r, k => by
    show frV u (fun u => frV v fun v => frEs r fun r => k (⟨h, u, v⟩ :: r)) = _
    rw [frV_eq, frV_eq, frEs_eq r]
def frD (d : Data) (k : Data → β) : β := match d with
  | .dict es n => frEs es.toList fun l => k (.dict ⟨l⟩ n)
  | .fields vs => frVs vs.toList fun l => k (.fields ⟨l⟩)
  | .cls cd => frVs cd.mro fun m => HandSHeadRun.frNat cd.ns fun ns => k (.cls { cd with mro := m, ns := ns })
  | .func fd => frV fd.code fun c => frV fd.defaults fun dv => frV fd.kwdefaults fun kv => k (.func { fd with code := c, defaults := dv, kwdefaults := kv })
  | d => k d
theorem frD_eq (d : Data) (k : Data → β) : frD d k = k d := by
  cases d with
  | dict es n => exact frEs_eq es.toList fun l => k (.dict ⟨l⟩ n)
  | fields vs => exact frVs_eq vs.toList fun l => k (.fields ⟨l⟩)
  | cls cd => exact (frVs_eq cd.mro fun m => HandSHeadRun.frNat cd.ns fun ns => k (.cls { cd with mro := m, ns := ns })).trans (HandSHeadRun.frNat_eq cd.ns fun ns => k (.cls { cd with mro := cd.mro, ns := ns }))
  | func fd => exact (frV_eq fd.code fun c => frV fd.defaults fun dv => frV fd.kwdefaults fun kv => k (.func { fd with code := c, defaults := dv, kwdefaults := kv })).trans ((frV_eq fd.defaults fun dv => frV fd.kwdefaults fun kv => k (.func { fd with code := fd.code, defaults := dv, kwdefaults := kv })).trans (frV_eq fd.kwdefaults fun kv => k (.func { fd with code := fd.code, defaults := fd.defaults, kwdefaults := kv })))
  | _ => rfl
def frO (o : Obj) (k : Obj → β) : β := match o with
  | ⟨c, d, dt, sl⟩ => frV c fun c => frD dt fun dt => k ⟨c, d, dt, sl⟩
theorem frO_eq (o : Obj) (k : Obj → β) : frO o k = k o := by
  obtain ⟨c, d, dt, sl⟩ := o
  show frV c (fun c => frD dt fun dt => k ⟨c, d, dt, sl⟩) = _
  rw [frV_eq, frD_eq]
/-- what an object leads on to -/
def refs2 (o : Obj) : List Addr := match o.data with
  | .dict es _ => es.toList.flatMap fun e => He.refV e.val
  | .func fd => He.refV fd.code
  | .cls cd => [cd.ns]
  | _ => []
variable (g : Addr → Option Obj)
def nextY (l : List Addr) : List Addr := l.flatMap fun a => match g a with
  | some o => refs2 o
  | none => []
def fronts : Nat → List Addr → List Addr
  | 0, l => l
  | n + 1, l => l ++ fronts n (nextY g l)
def stepK : List Addr → (PySem.W.Frag → List Addr → β) → β
  | [], k => k [] []
  | a :: r, k => HandSHeadRun.frNat a fun a => match g a with
    | none => stepK r k
    | some o => frO o fun o => stepK r fun K l => k ((a, o) :: K) (refs2 o ++ l)
theorem stepK_eq : ∀ (l : List Addr) (k : PySem.W.Frag → List Addr → β), stepK g l k = k (He.frG g l) (nextY g l)
  | [], _ => rfl
  | a :: r, k => by
    show HandSHeadRun.frNat a (fun a => match g a with
      | none => stepK g r k
      | some o => frO o fun o => stepK g r fun K l => k ((a, o) :: K) (refs2 o ++ l)) = _
    rw [HandSHeadRun.frNat_eq]
    unfold He.frG nextY
    rw [List.filterMap_cons, List.flatMap_cons]
    cases e : g a with
    | none =>
      show stepK g r k = _
      rw [stepK_eq r]
      rfl
    | some o =>
      show frO o (fun o => stepK g r fun K l => k ((a, o) :: K) (refs2 o ++ l)) = _
      rw [frO_eq, stepK_eq r]
      rfl
def levK : Nat → List Addr → (PySem.W.Frag → β) → β
  | 0, l, k => stepK g l fun K _ => k K
  | n + 1, l, k => stepK g l fun K l' => levK n l' fun K' => k (K ++ K')
theorem levK_eq : ∀ (n : Nat) (l : List Addr) (k : PySem.W.Frag → β), levK g n l k = k (He.frG g (fronts g n l))
  | 0, l, k => stepK_eq g l _
  | n + 1, l, k => by
    show stepK g l (fun K l' => levK g n l' fun K' => k (K ++ K')) = _
    rw [stepK_eq, levK_eq n]
    show k (He.frG g l ++ He.frG g (fronts g n (nextY g l))) = k (He.frG g (l ++ fronts g n (nextY g l)))
    unfold He.frG
    rw [List.filterMap_append]
def frKf : PySem.W.Frag → (PySem.W.Frag → β) → β
  | [], k => k []
  | (a, o) :: r, k => match He.emptyTab o with
    | true => frKf r k
    | false => frKf r fun r => k ((a, o) :: r)
theorem frKf_eq : ∀ (K : PySem.W.Frag) (k : PySem.W.Frag → β), frKf K k = k (K.filter fun q => !He.emptyTab q.2)
  | [], _ => rfl
  | (a, o) :: r, k => by
    show (match He.emptyTab o with
      | true => frKf r k
      | false => frKf r fun r => k ((a, o) :: r)) = _
    rw [List.filter_cons]
    cases e : He.emptyTab o with
    | true =>
      show frKf r k = _
      rw [frKf_eq r]
      rfl
    | false =>
      show frKf r (fun r => k ((a, o) :: r)) = _
      rw [frKf_eq r]
      rfl
end
section
variable (n : Nat) (fa : List He.Fa) (fn : List He.DefD) (ts : List He.Tab) (tf : List He.Defn) (ex : PySem.W.Frag → Bool)
def obsY (g : Addr → Option Obj) : He.AlX := (He.obsT fa fn ts (He.frT g (fronts g n [mainGlobals])), ex (He.frT g (fronts g n [mainGlobals])) && He.tabsB g tf (He.frT g (fronts g n [mainGlobals])))
def obsYF (g : Addr → Option Obj) : He.AlX := levK g n [mainGlobals] fun K => frKf K fun K => (He.obsT fa fn ts K, ex K && He.tabsB g tf K)
theorem obsYF_eq (g : Addr → Option Obj) : obsYF n fa fn ts tf ex g = obsY n fa fn ts tf ex g := by
  unfold obsYF obsY He.frT
  rw [levK_eq, frKf_eq]
theorem saysY_of {w : World} {h : Heap} {as : List Addr} (e : ((He.obsT fa fn ts (He.frT h.get? as), ex (He.frT h.get? as) && He.tabsB h.get? tf (He.frT h.get? as)) : He.AlX) = He.valX fn ts w) : He.SaysX fa fn ts tf ex w h (He.frT h.get? as) := by
  have e1 : He.obsT fa fn ts (He.frT h.get? as) = He.valT fn ts w := congrArg (fun z : He.AlX => z.1) e
  have e2 : (ex (He.frT h.get? as) && He.tabsB h.get? tf (He.frT h.get? as)) = true := congrArg (fun z : He.AlX => z.2) e
  obtain ⟨h1, h2⟩ := He.ba e2
  have look : ∀ p ∈ tf, PySem.W.codeHdIn (He.frT h.get? as) (He.cT (He.frT h.get? as) p).1 (He.cT (He.frT h.get? as) p).2 = true ∧ ∃ o, h.get? (He.cT (He.frT h.get? as) p).2 = some o ∧ He.emptyTab o = true := fun p hp => by
    obtain ⟨a, b⟩ := He.ba (List.all_eq_true.mp h2 p hp)
    refine ⟨a, ?_⟩
    cases q : h.get? (He.cT (He.frT h.get? as) p).2 with
    | none => rw [q] at b; cases b
    | some o => rw [q] at b; exact ⟨o, rfl, b⟩
  refine ⟨e1, h1, fun p hp => (look p hp).1, fun p hp => ?_, fun p hp => ?_⟩
  · obtain ⟨_, o, q, z⟩ := look p hp
    exact He.frT_none q z
  · obtain ⟨_, o, q, z⟩ := look p hp
    rw [q, He.emptyTab_eq z]
def hookY : PySem.W.Hook where
  α := He.AlX
  obs := fun s => obsY n fa fn ts tf ex s.heap.get?
  val := fun w => He.valX fn ts w
  says := fun w h => ∃ K : PySem.W.Frag, K.In h ∧ He.SaysX fa fn ts tf ex w h K
  of := fun _ _ e => ⟨_, He.frT_in, saysY_of fa fn ts tf ex e⟩
  keeps := fun _ _ _ ⟨K, hK, c⟩ k => ⟨K, PySem.W.Frag.In.keeps hK k, ⟨c.t, c.more, c.hd, c.out, fun p hp => k _ _ (c.empty p hp)⟩⟩
theorem obsYF_at {g : Addr → Option Obj} {s : Shared} (h : ∀ a, g a = s.heap.get? a) : obsYF n fa fn ts tf ex g = (hookY n fa fn ts tf ex).obs s := by
  have e : g = s.heap.get? := funext h
  rw [e, obsYF_eq]
  rfl
end
end Kj

set_option Elab.async false
set_option linter.all false
set_option maxRecDepth 100000
set_option maxHeartbeats 2000000
namespace Kj
open PySem PySem.Spec PyProof.Rows L2 Evl
def topS (i : Nat) : Stmt := PySem.Challenge.pw_kimariji_k43_tables_opened.main.body.getD i (.Pass ⟨0, 0, 0, 0⟩)
local macro_rules | `(tactic| wtm_at "sq") => `(tactic| first
  | assumption
  | exact sq_of (by assumption)
  | exact st_of (by assumption)
  | exact sq_of (Own.at (j := 0) (by assumption) (by rfl))
  | exact sq_of (Own.at (j := 1) (by assumption) (by rfl))
  | exact sq_of (Own.at (j := 2) (by assumption) (by rfl))
  | exact sq_of (Own.at (j := 3) (by assumption) (by rfl))
  | exact st_of (Own.at (j := 0) (by assumption) (by rfl))
  | exact st_of (Own.at (j := 1) (by assumption) (by rfl))
  | exact st_of (Own.at (j := 2) (by assumption) (by rfl))
  | exact st_of (Own.at (j := 3) (by assumption) (by rfl))
  | exact ex_l (Own.e0 (by assumption)) (by assumption)
  | exact ex_l (Own.e1 (by assumption)) (by assumption)
  | exact ex_l (Own.e2 (by assumption)) (by assumption)
  | exact ex_l (Own.e3 (by assumption)) (by assumption)
  | exact ex_t (Own.e0 (by assumption)) (by assumption)
  | exact ex_t (Own.e1 (by assumption)) (by assumption)
  | exact ex_t (Own.e2 (by assumption)) (by assumption)
  | exact ex_t (Own.e3 (by assumption)) (by assumption)
  | exact dp_mono (Own.e0 (by assumption)) (by assumption)
  | exact dp_mono (Own.e1 (by assumption)) (by assumption)
  | exact dp_mono (Own.e2 (by assumption)) (by assumption)
  | exact dp_mono (Own.e3 (by assumption)) (by assumption)
  | exact dp_mono (Own.e4 (by assumption)) (by assumption))
local macro_rules | `(tactic| wtm_at "side") => `(tactic| first
  | assumption
  | exact cmul_small (by omega) (by omega)
  | (show (0 : Int) < _; first | decide | omega)
  | exact ⟨by decide, by decide⟩
  | exact ⟨by decide, by decide, by decide⟩
  | decide
  | omega)
local macro_rules | `(tactic| wtm_at "rv") => `(tactic| first
  | exact rv_addI
  | exact rv_I0
  | exact rv_eqI
  | exact rv_neI
  | exact rv_eqT
  | exact rv_neT
  | exact rv_isN
  | exact rv_isnN
  | exact rv_sign
  | exact rv_mulI (by wtm_at "side")
  | exact rv_I (by wtm_at "side")
  | exact rv_ixLs (by wtm_at "sq") (by first | assumption | with_reducible rfl | (show atI [_] _ = _; rfl) | (show atI [_, _] _ = _; rfl) | (show atI [_, _, _] _ = _; rfl) | (show atI [_, _, _, _] _ = _; rfl))
  | exact rv_ixTs (by wtm_at "sq") (by first | assumption | with_reducible rfl | (show atI [_] _ = _; rfl) | (show atI [_, _] _ = _; rfl) | (show atI [_, _, _] _ = _; rfl) | (show atI [_, _, _, _] _ = _; rfl))
  | exact rv_ixSs (by wtm_at "side") (by first | assumption | with_reducible rfl | (show atI [_] _ = _; rfl) | (show atI [_, _] _ = _; rfl) | (show atI [_, _, _] _ = _; rfl) | (show atI [_, _, _, _] _ = _; rfl))
  | exact rc_lenL (by wtm_at "sq")
  | exact rc_lenT (by wtm_at "sq")
  | exact rc_lenS (by wtm_at "side")
  | exact rc_abs
  | exact ru_neg
  | assumption)
local macro_rules | `(tactic| wtm_at "ev") => `(tactic| first
  | exact ev_var rfl
  | exact ev_c
  | exact ea_nil
  | exact eo_none
  | (apply eo_some; wtm_at "ev")
  | (apply ea_cons; wtm_at "ev"; wtm_at "ev")
  | (apply et_test; wtm_at "ev")
  | (apply et_B; wtm_at "ev")
  | (apply ev_op; wtm_at "ev"; wtm_at "ev"; wtm_at "rv")
  | (apply ev_un; wtm_at "ev"; wtm_at "rv")
  | (apply ev_cb; wtm_at "ev"; wtm_at "rv")
  | (apply ev_fld; wtm_at "ev"; wtm_at "obj"; wtm_at "obj"; wtm_at "obj"; wtm_at "obj")
  | (apply el_sl'; wtm_at "ev"; wtm_at "ev"; wtm_at "ev"; wtm_at "sq")
  | (apply el_lst; wtm_at "ev"; exact Nat.le_of_ble_eq_true rfl)
  | (apply eu_tup; wtm_at "ev"; exact Nat.le_of_ble_eq_true rfl)
  | (apply ep_l; wtm_at "ev")
  | (apply ep_u; wtm_at "ev")
  | (apply ev_callO; wtm_at "ev"; wtm_at "call")
  | (apply ep_call; wtm_at "ev"; wtm_at "call")
  | (apply ep_v; wtm_at "ev"))
local macro_rules | `(tactic| wtm_at "call") => `(tactic| assumption)
local macro_rules | `(tactic| wtm_at "obj") => `(tactic| first | assumption | rfl)
local macro_rules | `(tactic| wtm_at "vc") => `(tactic| first
  | assumption
  | omega
  | trivial
  | (simp only [rngI_get, rngI2_get, enumI_get, rngI_mem, rngI2_mem, rngI_len, rngI2_len, enumI_len, List.length_nil, List.length_cons, List.length_append, List.length_map, List.length_set, Bool.and_eq_true, Bool.or_eq_true, Bool.or_eq_false_iff, Bool.and_eq_false_iff, Bool.not_eq_true', Bool.not_eq_false', decide_eq_true_eq, decide_eq_false_iff_not, Int.reduceToNat, Nums] at *; omega)
  | (subst_vars; simp only [rngI_get, rngI2_get, enumI_get, rngI_mem, rngI2_mem, rngI_len, rngI2_len, enumI_len, List.length_nil, List.length_cons, List.length_append, List.length_map, List.length_set, Bool.and_eq_true, Bool.or_eq_true, Bool.or_eq_false_iff, Bool.and_eq_false_iff, Bool.not_eq_true', Bool.not_eq_false', decide_eq_true_eq, decide_eq_false_iff_not, Int.reduceToNat, Nums] at *; omega)
  | rfl
  | decide)
abbrev s__law_numbers : Stmt := topS 45
theorem sc__law_numbers : FnScope ["_law_script", "_law_many", "_law_row", "_law_seed", "_law_cell", "_law_rest", "_law_k"] ["_law_script", "_law_many"] (defScope s__law_numbers) := ⟨rfl, rfl, rfl, by decide +kernel, rfl, by decide +kernel, by decide +kernel⟩
section
variable {P : Program} {w : World} {K : PySem.W.Frag} {mg : Str → Option Value} {base : Heap}
/-- the law's numbers: so many, each from 0 to 9966 -/
def Nums (n : Nat) (ns : List Int) : Prop := ns.length = n ∧ ∀ x ∈ ns, 0 ≤ x ∧ x < 9967
abbrev pNums (n : Nat) : Hp → V → Prop := fun N v => ∃ (p : Addr) (ns : List Int), v = .ref p ∧ N p = some (.lst (ns.map V.int)) ∧ Nums n ns
def R__law_numbers (K : PySem.W.Frag) : Rl := ⟨fun vs H r => ∃ (a : Addr) (ns : List Int) (m : Int), vs = [.ref a, .int m] ∧ SqL K H a (ns.map V.int) ∧ 0 ≤ m ∧ m ≤ 5000 ∧ r = .ok (pNums m.toNat), fun e ⟨a, ns, m, h1, h2, h3⟩ => ⟨a, ns, m, h1, ex_l e h2, h3⟩⟩
/-- the row so far -/
structure Row (n : Nat) (ns : List Int) : Prop where
  len : ns.length ≤ n
  all : ∀ x ∈ ns, 0 ≤ x ∧ x < 9967
theorem Row.add {n : Nat} {ns : List Int} {x : Int} (h : Row n ns) (hx : 0 ≤ x ∧ x < 9967) : Row (n + 1) (ns ++ [x]) :=
  ⟨by rw [List.length_append, List.length_singleton]; have := h.len; omega, fun y hy => by
    rcases List.mem_append.mp hy with h1 | h1
    · exact h.all y h1
    · rw [List.mem_singleton.mp h1]; exact hx⟩
theorem Row.mono {n m : Nat} {ns : List Int} (h : Row n ns) (l : n ≤ m) : Row m ns := ⟨Nat.le_trans h.len l, h.all⟩
theorem mapI_add (ns : List Int) (x : Int) : ns.map V.int ++ [V.int x] = (ns ++ [x]).map V.int := by rw [List.map_append]; rfl
theorem ok__law_numbers (B : Bt mg) (D : Df K mg "_law_numbers" s__law_numbers ["_law_script", "_law_many"]) : Ok P w K mg base 1 "_law_numbers" ["_law_script", "_law_many"] ((R__law_numbers K).sp mg) := by
  refine D.ok sc__law_numbers (fun vs H Q E h => ?_) (fun f cdv A outer s H vs Q E hr h => ?_)
  · obtain ⟨r, ⟨a, ns, m, rfl, _⟩, _⟩ := h
    rfl
  · obtain ⟨r, ⟨a, ns, m, rfl, hS, h0, hm, rfl⟩, k⟩ := h
    refine ⟨_, (pss_cons (ps_set (i := 2) sc__law_numbers.nd rfl (.inl rfl) (pe_lst pa_nil))
      (pss_cons (ps_set (i := 3) sc__law_numbers.nd rfl (.inl rfl) pe_int)
      (pss_cons (ps_for (passes_of rfl) rfl (pi_listK K (pe_slice (sl_K K) (pv 0) po_none (po_some pe_int))) (pg_name (i := 4) sc__law_numbers.nd rfl (.inl rfl))
        (pss_cons (ps_set (i := 3) sc__law_numbers.nd rfl (.inl rfl) (pe_op op_mod (pe_op (op_addK K) (pe_op (op_addK K) (pe_op op_mulU (pv 3) pe_int) (pe_op op_mod (pv 4) pe_int)) pe_int) pe_int))
        (pss_cons (ps_set (i := 5) sc__law_numbers.nd rfl (.inl rfl) (pe_op op_sub (pv 4) (pe_op op_pow pe_int pe_int)))
        (Evl.pss_cut (ps_if (pt_cmpR op_lt (pv 5) pe_int (nomark _))
          (pss_one (ps_expr (pe_bmK K PySem.F.plainAttrs_list PySem.F.slot_list_append PySem.F.type_list_append mt_append (pv 2) (pa_cons (pe_op op_mod (pv 4) pe_int) pa_nil))))
          pss_nil)
        (pss_one (ps_for (passes_of rfl) rfl (pi_range1 (by rfl) B.range (pa_cons pe_int pa_nil)) (pg_name (i := 6) sc__law_numbers.nd rfl (.inl rfl))
          (pss_one (ps_if (pt_cmpR op_gt (pv 5) pe_int (nomark _))
            (pss_cons (ps_expr (pe_bmK K PySem.F.plainAttrs_list PySem.F.slot_list_append PySem.F.type_list_append mt_append (pv 2) (pa_cons (pe_op op_mod (pv 5) pe_int) pa_nil)))
            (pss_one (ps_set (i := 5) sc__law_numbers.nd rfl (.inl rfl) (pe_op op_fdiv (pv 5) pe_int))))
            pss_nil))))))))
      (pss_cons (ps_while (passes_of rfl) (pt_cmpR op_lt (pe_callB (call_lenK K) (by rfl) B.len boot_b_len (pa_cons (pv 2) pa_nil)) (pv 1) (nomark _))
        (pss_cons (ps_set (i := 3) sc__law_numbers.nd rfl (.inl rfl) (pe_op op_mod (pe_op (op_addK K) (pe_op (op_addK K) (pe_op (op_addK K) (pe_op op_mulU (pv 3) (pv 3)) (pe_op op_mulU pe_int (pv 3))) (pe_op op_mulU pe_int (pe_callB (call_lenK K) (by rfl) B.len boot_b_len (pa_cons (pv 2) pa_nil)))) pe_int) pe_int))
        (pss_one (ps_expr (pe_bmK K PySem.F.plainAttrs_list PySem.F.slot_list_append PySem.F.type_list_append mt_append (pv 2) (pa_cons (pe_op op_mod (pe_op op_fdiv (pv 3) pe_int) pe_int) pa_nil))))))
      (pss_one (ps_ret (pe_slice (sl_K K) (pv 2) po_none (po_some (pv 1))))))))), ?_⟩
    refine q_l (Own.one H) (by wtm_at "ev") fun l H1 o => ?_
    refine q_v o (by wtm_at "ev") fun H1 o => ?_
    refine q_fn o (by wtm_at "ev") (fun i p σ H' => ∃ xs seed y4 y5 y6, σ = [some (.ref a), some (.int m), some (.ref l), some (.int seed), y4, y5, y6] ∧ Own [sing p (.lst (cutV (ns.map V.int) none (some 63))), sing l (.lst (xs.map V.int)), H] H' ∧ Row (61 * i) xs ∧ 0 ≤ seed ∧ seed < 4294967296)
      (fun p H1 o => ⟨[], 41, _, _, _, rfl, o, ⟨Nat.zero_le _, fun _ h => nomatch h⟩, by decide, by decide⟩) (fun i p σ H' _ ⟨xs, seed, y4, y5, y6, _, o, _⟩ => o.at (j := 0) rfl) ?_ ?_
    · rintro i p x σ H' hx ⟨xs, seed, y4, y5, y6, rfl, o, hrow, hs1, hs2⟩
      have e63 : cutV (ns.map V.int) none (some 63) = (ns.map V.int).take 63 := cutV_take 63
      rw [e63] at hx
      have hi : i < 63 := by
        have := (List.getElem?_eq_some_iff.mp hx).1
        rw [List.length_take] at this
        omega
      obtain ⟨c, rfl⟩ : ∃ c, x = V.int c := by
        rw [List.getElem?_take, if_pos hi, List.getElem?_map] at hx
        cases e : ns[i]? with
        | none => rw [e] at hx; cases hx
        | some u => rw [e] at hx; exact ⟨u, (Option.some.inj hx).symm⟩
      have hl := hrow.len
      refine q_v o (by wtm_at "ev") fun H1 o => ?_
      refine q_v o (by wtm_at "ev") fun H1 o => ?_
      generalize hsd : ((seed * 40014 + c % 999983 + 17) % 2147483563) = seed'
      have hs1' : 0 ≤ seed' := by omega
      have hs2' : seed' < 4294967296 := by omega
      generalize (c - 10 ^ (18 : Int).toNat) = rest
      -- if rest < 0: row.append(cell % 9967)
      refine q_cut (M := fun σ H' => ∃ xs, σ = [some (.ref a), some (.int m), some (.ref l), some (.int seed'), some (.int c), some (.int rest), y6] ∧ Own [sing p (.lst (cutV (ns.map V.int) none (some 63))), sing l (.lst (xs.map V.int)), H] H' ∧ Row (61 * i + 1) xs) ?_ ?_
      · refine s_wh o (by wtm_at "ev") (fun hb H1 o => ?_) (fun hb H1 o => ?_)
        · refine s_app (j := 1) o rfl (by wtm_at "ev") (by wtm_at "ev") (by rw [List.length_map]; omega) fun H1 o => ?_
          rw [mapI_add] at o
          exact ⟨_, rfl, o, hrow.add (by omega)⟩
        · exact ⟨xs, rfl, o, hrow.mono (by omega)⟩
      · rintro σ H2 ⟨xs, rfl, o, hrow⟩
        refine s_rg o (by wtm_at "ev") (by decide) (fun j σ H' => ∃ xs rest y6, σ = [some (.ref a), some (.int m), some (.ref l), some (.int seed'), some (.int c), some (.int rest), y6] ∧ Own [sing p (.lst (cutV (ns.map V.int) none (some 63))), sing l (.lst (xs.map V.int)), H] H' ∧ Row (61 * i + 1 + j) xs)
          (fun H1 o => ⟨xs, rest, y6, rfl, o, hrow⟩) ?_ ?_
        · rintro j σ H' hj ⟨xs, rest, y6, rfl, o, hrow⟩
          have hl := hrow.len
          refine s_wh o (by wtm_at "ev") (fun hb H1 o => ?_) (fun hb H1 o => ?_)
          · refine q_app (j := 1) o rfl (by wtm_at "ev") (by wtm_at "ev") (by rw [List.length_map]; omega) fun H1 o => ?_
            rw [mapI_add] at o
            refine s_v o (by wtm_at "ev") fun H1 o => ?_
            exact ⟨_, _, _, rfl, o, hrow.add (by omega)⟩
          · exact ⟨xs, rest, _, rfl, o, hrow.mono (by omega)⟩
        · rintro σ H' ⟨xs, rest, y6, rfl, o, hrow⟩
          exact ⟨xs, seed', _, _, _, rfl, o, hrow.mono (by show 61 * i + 1 + 60 ≤ 61 * (i + 1); omega), hs1', hs2'⟩
    · rintro p σ H' ⟨xs, seed, y4, y5, y6, rfl, o, hrow, hs1, hs2⟩
      have hl : xs.length ≤ 3843 := by
        have h1 := hrow.len
        have h2 : (cutV (ns.map V.int) none (some 63)).length ≤ 63 := by
          rw [show cutV (ns.map V.int) none (some 63) = (ns.map V.int).take 63 from cutV_take 63, List.length_take]
          omega
        omega
      refine q_wl (fun q σ H' => ∃ xs seed, σ = [some (.ref a), some (.int m), some (.ref l), some (.int seed), y4, y5, y6] ∧ Own [sing p (.lst (cutV (ns.map V.int) none (some 63))), sing l (.lst (xs.map V.int)), H] H' ∧ Row 10000 xs ∧ 0 ≤ seed ∧ seed < 4294967296 ∧ q = 5000 - xs.length ∧ xs.length ≤ 5000) (5000 - xs.length) ⟨xs, seed, rfl, o, ⟨by omega, hrow.all⟩, hs1, hs2, rfl, by omega⟩ ?_
      rintro q σ H' ⟨xs, seed, rfl, o, hrow, hs1, hs2, hq, hl5⟩
      refine ⟨_, by wtm_at "ev", fun hb H1 e => ?_, fun hb H1 e => ?_⟩
      · have o := o.mono e
        have hb : ((xs.map V.int).length : Int) < m := of_decide_eq_true hb
        rw [List.length_map] at hb
        have hlm : (xs.map V.int).length = xs.length := List.length_map ..
        refine q_v o (by wtm_at "ev") fun H1 o => ?_
        have hs3 : 0 ≤ (seed * seed + 52774 * seed + 11 * (((xs.map V.int).length : Nat) : Int) + 3) % 2147483629 := Int.emod_nonneg _ (by decide)
        have hs4 : (seed * seed + 52774 * seed + 11 * (((xs.map V.int).length : Nat) : Int) + 3) % 2147483629 < 2147483629 := Int.emod_lt_of_pos _ (by decide)
        generalize ((seed * seed + 52774 * seed + 11 * (((xs.map V.int).length : Nat) : Int) + 3) % 2147483629) = seed' at hs3 hs4 ⊢
        refine s_app (j := 1) o rfl (by wtm_at "ev") (by wtm_at "ev") (by rw [List.length_map]; omega) fun H1 o => ?_
        rw [mapI_add] at o
        refine ⟨5000 - (xs.length + 1), by omega, _, _, rfl, o, ⟨?_, (hrow.add (by omega)).all⟩, hs3, by omega, ?_, ?_⟩
        · rw [List.length_append, List.length_singleton]; omega
        · rw [List.length_append, List.length_singleton]
        · rw [List.length_append, List.length_singleton]; omega
      · have hb : ¬ ((xs.map V.int).length : Int) < m := of_decide_eq_false hb
        rw [List.length_map] at hb
        obtain ⟨n, rfl⟩ : ∃ n : Nat, m = n := ⟨m.toNat, by omega⟩
        have o := o.mono e
        refine s_rn o (ep_l (by wtm_at "ev")) fun v H1 N o hp => o.ret k (i := 0) (j := 3) rfl rfl ?_
        obtain ⟨q, rfl, hp⟩ := hp
        rw [cutV_take, ← List.map_take] at hp
        refine ⟨q, xs.take n, rfl, hp, ?_, fun x hx => hrow.all x (List.mem_of_mem_take hx)⟩
        rw [List.length_take]
        omega
end
abbrev s__law_same : Stmt := topS 46
theorem sc__law_same : FnScope ["_law_found", "_law_due", "_law_one", "_law_other"] ["_law_found", "_law_due"] (defScope s__law_same) := ⟨rfl, rfl, rfl, by decide +kernel, rfl, by decide +kernel, by decide +kernel⟩
section
variable {P : Program} {w : World} {K : PySem.W.Frag} {mg : Str → Option Value} {base : Heap}
/-- two of the same data are found the same -/
def R__law_same (K : PySem.W.Frag) (n : Nat) : Rl := ⟨fun vs H r => ∃ (x y : V) (d : PyData), vs = [x, y] ∧ Dp K H x d ∧ Dp K H y d ∧ smD d ∧ d.depth < n ∧ r = .ok (is (.bl true)), fun e ⟨x, y, d, h1, h2, h3, h4⟩ => ⟨x, y, d, h1, dp_mono e h2, dp_mono e h3, h4⟩⟩
theorem Df.none {x : Str} {st : Stmt} {ps : List Str} {N : List Str} {S : Rl} (D : Df K mg x st ps) (sc : FnScope N ps (defScope st)) (h : ∀ vs H r, ¬ S.R vs H r) : Ok P w K mg base 0 x ps (S.sp mg) := by
  obtain ⟨f, fd, g, F, b⟩ := D.ex
  obtain ⟨oc, od, kV, doc, pm, an, cdv, ct, osl, hfd, lk, hcd⟩ := F.ex
  exact ⟨f, fd, g, F.kp, b, ⟨fun vs H Q E ⟨r, hr, _⟩ => absurd hr (h vs H r), fun _ _ _ _ _ _ _ _ _ _ _ _ _ ⟨r, hr, _⟩ => absurd hr (h _ _ r)⟩, oc, od, osl, lk⟩
theorem ok__law_same (B : Bt mg) (D : Df K mg "_law_same" s__law_same ["_law_found", "_law_due"]) : ∀ n, Ok P w K mg base n "_law_same" ["_law_found", "_law_due"] ((R__law_same K n).sp mg)
  | 0 => D.none sc__law_same fun vs H r ⟨_, _, d, _, _, _, _, h, _⟩ => absurd h (Nat.not_lt_zero _)
  | n + 1 => by
    have O__law_same := ok__law_same B D n
    refine D.ok sc__law_same (fun vs H Q E h => ?_) (fun f cdv A outer s H vs Q E hr h => ?_)
    · obtain ⟨r, ⟨x, y, d, rfl, _⟩, _⟩ := h
      rfl
    · obtain ⟨r, ⟨x, y, d, rfl, hx, hy, hsm, hd, rfl⟩, k⟩ := h
      refine ⟨_, (pss_cons (ps_if (pt_cmpR op_isN (pv 1) pe_non (nomark _))
        (pss_one (ps_ret (pe_cmpR op_isN (pv 0) pe_non (nomark _))))
        pss_nil)
      (pss_cons (ps_if (pt_val (pe_callB (call_isiK' K) (by rfl) B.isinstance boot_b_isinstance (pa_cons (pv 1) (pa_cons (pe_tup (pa_cons (pe_bltn (v := .ty "list") (by rfl) B.list boot_ty_list rfl) (pa_cons (pe_bltn (v := .ty "tuple") (by rfl) B.tuple boot_ty_tuple rfl) pa_nil))) pa_nil))))
        (pss_cons (ps_if (PW.pt (pw_or (pt_cmpR (op_neK K (hu65 hr)) (pe_callB (call_isiK' K) (by rfl) B.isinstance boot_b_isinstance (pa_cons (pv 0) (pa_cons (pe_bltn (v := .ty "list") (by rfl) B.list boot_ty_list rfl) pa_nil))) (pe_callB (call_isiK' K) (by rfl) B.isinstance boot_b_isinstance (pa_cons (pv 1) (pa_cons (pe_bltn (v := .ty "list") (by rfl) B.list boot_ty_list rfl) pa_nil))) (nomark _)) (pw_or1 (pt_cmpR (op_neK K (hu65 hr)) (pe_callB (call_isiK' K) (by rfl) B.isinstance boot_b_isinstance (pa_cons (pv 0) (pa_cons (pe_bltn (v := .ty "tuple") (by rfl) B.tuple boot_ty_tuple rfl) pa_nil))) (pe_callB (call_isiK' K) (by rfl) B.isinstance boot_b_isinstance (pa_cons (pv 1) (pa_cons (pe_bltn (v := .ty "tuple") (by rfl) B.tuple boot_ty_tuple rfl) pa_nil))) (nomark _)))))
          (pss_one (ps_ret pe_bl))
          pss_nil)
        (pss_one (ps_ret (pe_and (pe_cmpR (op_eqK K (hu65 hr)) (pe_callB (call_lenK K) (by rfl) B.len boot_b_len (pa_cons (pv 0) pa_nil)) (pe_callB (call_lenK K) (by rfl) B.len boot_b_len (pa_cons (pv 1) pa_nil)) (nomark _)) (pe_one (pe_callB (cr_allK K rfl) (by rfl) B.all boot_b_all (pa_cons (pe_lc (own := [("_law_one", 2), ("_law_other", 3)]) rfl sc__law_same.nd (pi_zipK K (by rfl) B.zip (pa_cons (pv 0) (pa_cons (pv 1) pa_nil))) (blkOk_by (N := ["_law_found", "_law_due", "_law_one", "_law_other"]) (sc := defScope s__law_same) (by decide +kernel)) (fun _ _ _ _ _ => (pg_tupK K (n := 2) rfl (pgs_cons (pg_name (i := 2) sc__law_same.nd rfl (.inl rfl)) (pgs_cons (pg_name (i := 3) sc__law_same.nd rfl (.inl rfl)) pgs_nil)))) (fun _ _ _ _ _ => pts_nil) (fun _ _ _ _ _ => (pe_callO O__law_same (hr.mono (by omega)) (by rfl) takes0 (pa_cons (pv 2) (pa_cons (pv 3) pa_nil))))) pa_nil)))))))
        pss_nil)
      (pss_cons (ps_if (PW.pt (pw_or (pt_cmpR (op_neK K (hu65 hr)) (pe_callB (call_isiK' K) (by rfl) B.isinstance boot_b_isinstance (pa_cons (pv 0) (pa_cons (pe_bltn (v := .ty "bool") (by rfl) B.bool boot_ty_bool rfl) pa_nil))) (pe_callB (call_isiK' K) (by rfl) B.isinstance boot_b_isinstance (pa_cons (pv 1) (pa_cons (pe_bltn (v := .ty "bool") (by rfl) B.bool boot_ty_bool rfl) pa_nil))) (nomark _)) (pw_or1 (pt_cmpR (op_neK K (hu65 hr)) (pe_callB (call_isiK' K) (by rfl) B.isinstance boot_b_isinstance (pa_cons (pv 0) (pa_cons (pe_bltn (v := .ty "str") (by rfl) B.str boot_ty_str rfl) pa_nil))) (pe_callB (call_isiK' K) (by rfl) B.isinstance boot_b_isinstance (pa_cons (pv 1) (pa_cons (pe_bltn (v := .ty "str") (by rfl) B.str boot_ty_str rfl) pa_nil))) (nomark _)))))
        (pss_one (ps_ret pe_bl))
        pss_nil)
      (pss_one (ps_ret (pe_and (pe_cmpR (op_eqK K (hu65 hr)) (pe_callB (call_isiK' K) (by rfl) B.isinstance boot_b_isinstance (pa_cons (pv 0) (pa_cons (pe_bltn (v := .ty "int") (by rfl) B.int boot_ty_int rfl) pa_nil))) (pe_callB (call_isiK' K) (by rfl) B.isinstance boot_b_isinstance (pa_cons (pv 1) (pa_cons (pe_bltn (v := .ty "int") (by rfl) B.int boot_ty_int rfl) pa_nil))) (nomark _)) (pe_one (pe_cmpR (op_eqK K (hu65 hr)) (pv 0) (pv 1) (nomark _))))))))), ?_⟩
      refine q_wh (Own.one H) (by wtm_at "ev") (fun hb H1 o => ?_) (fun hb H1 o => ?_)
      · have hb : y = .non := by simpa using hb
        subst hb
        cases hy
        cases hx
        exact s_rv o (by wtm_at "ev") fun H1 o => o.retV k (j := 0) rfl rfl
      · have hb : ¬ y = .non := by simpa using hb
        have hx1 := dp_mono o.e0 hx
        have hy1 := dp_mono o.e0 hy
        -- a list or a tuple; else a number, a text, a bool
        have cls : (∃ (ds : List PyData) (xs ys : List V) (a b : Addr), x = .ref a ∧ y = .ref b ∧ d.depth = PyData.depthAll ds + 1 ∧ DpAll K H xs ds ∧ DpAll K H ys ds ∧ ds.length ≤ 40000 ∧ (∀ z ∈ ds, smD z) ∧ (SqL K H a xs ∧ SqL K H b ys ∧ kindS d = "list" ∨ SqT K H a xs ∧ SqT K H b ys ∧ kindS d = "tuple")) ∨
            ((∃ i, x = .int i ∧ y = .int i ∧ kindS d = "int") ∨ (∃ i, x = .str i ∧ y = .str i ∧ kindS d = "str") ∨ ∃ i, x = .bl i ∧ y = .bl i ∧ kindS d = "bool") := by
          cases hx with
          | non => cases hy; exact absurd rfl hb
          | bl i => cases hy; exact .inr (.inr (.inr ⟨i, rfl, rfl, rfl⟩))
          | int i => cases hy; exact .inr (.inl ⟨i, rfl, rfl, rfl⟩)
          | str i => cases hy; exact .inr (.inr (.inl ⟨i, rfl, rfl, rfl⟩))
          | lst h1 h2 =>
            cases hy with
            | lst h3 h4 => exact .inl ⟨_, _, _, _, _, rfl, rfl, by simp only [PyData.depth], h2, h4, (smD_list.mp hsm).1, (smD_list.mp hsm).2, .inl ⟨h1, h3, rfl⟩⟩
          | tup h1 h2 =>
            cases hy with
            | tup h3 h4 => exact .inl ⟨_, _, _, _, _, rfl, rfl, by simp only [PyData.depth], h2, h4, (smD_tuple.mp hsm).1, (smD_tuple.mp hsm).2, .inr ⟨h1, h3, rfl⟩⟩
        rcases cls with ⟨ds, xs, ys, a, b, ex, ey, hdd, ha, hb2, hl40, hsa, hq⟩ | sc
        · subst ex ey
          have kd : ∃ b1 b2, kitB (kindS d) "list" = some b1 ∧ kitB (kindS d) "tuple" = some b2 ∧ (b1 || b2) = true := by
            rcases hq with ⟨_, _, e⟩ | ⟨_, _, e⟩
            · rw [e]; exact ⟨true, false, by decide +kernel, by decide +kernel, rfl⟩
            · rw [e]; exact ⟨false, true, by decide +kernel, by decide +kernel, rfl⟩
          obtain ⟨b1, b2, k1, k2, k12⟩ := kd
          have lx := dpa_len ha
          have ly := dpa_len hb2
          refine q_fi (b := true) o (et_is (et_B (ev_isi2 (ev_var rfl) hy1 k1 k2)) k12) (fun _ H1 o => ?_) (fun h => nomatch h)
          have hx1 := dp_mono o.e0 hx
          have hy1 := dp_mono o.e0 hy
          refine q_wh (b := false) o (et_is (et_or (et_test (ev_op (ev_isi (ev_var rfl) hx1 k1) (ev_isi (ev_var rfl) hy1 k1) (rv_neS (by cases b1 <;> rfl)))) fun _ => et_test (ev_op (ev_isi (ev_var rfl) hx1 k2) (ev_isi (ev_var rfl) hy1 k2) (rv_neS (by cases b2 <;> rfl)))) (by simp)) (fun h => nomatch h) (fun _ H1 o => ?_)
          have EZ : EvI (RZ.iZipA K (tCons (tVar 0) (tCons (tVar 1) tNil))) [some (.ref a), some (.ref b), none, none] H1 H1 xs.length (fun i x H' => ∃ T y z, x = .ref T ∧ H' T = some (.tup [y, z]) ∧ xs[i]? = some y ∧ ys[i]? = some z) := by
            rcases hq with ⟨q1, q2, _⟩ | ⟨q1, q2, _⟩
            · exact ei_zip (by wtm_at "ev") (ex_l o.e0 q1) (ex_l o.e0 q2) (by omega) (Ex.refl _)
            · exact ei_zipT (by wtm_at "ev") (ex_t o.e0 q1) (ex_t o.e0 q2) (by omega) (Ex.refl _)
          have LX : RC (rLenU K) [.ref a] H1 (.int (xs.length : Int)) ∧ RC (rLenU K) [.ref b] H1 (.int (ys.length : Int)) := by
            rcases hq with ⟨q1, q2, _⟩ | ⟨q1, q2, _⟩
            · exact ⟨rc_lenL (ex_l o.e0 q1), rc_lenL (ex_l o.e0 q2)⟩
            · exact ⟨rc_lenT (ex_t o.e0 q1), rc_lenT (ex_t o.e0 q2)⟩
          refine s_rv o (v := .bl true) (ev_is (ev_andV (b := true) (ev_op (ev_cb (by wtm_at "ev") LX.1) (ev_cb (by wtm_at "ev") LX.2) rv_eqI) fun _ => ev_cb1 (ep_l (el_lc (fun i => [some (.ref a), some (.ref b), xs[i]?.map id, ys[i]?.map id]) (fun _ => true) (fun _ => .bl true) EZ (Ex.refl _) (by omega) ?_ ?_ ?_ ?_)) (fun v N H2 e2 i2 ⟨p, ev, hp⟩ => ?_)) ?_) fun H1 o => o.retV k (j := 0) rfl rfl
          · rintro i x H' hi ⟨T, y, z, rfl, hT, g1, g2⟩ Q hQ
            refine ⟨T, [y, z], rfl, st_of hT, rfl, y, [z], rfl, z, [], rfl, rfl, ?_⟩
            rw [g1, g2] at hQ
            exact hQ
          · intro i hi
            rfl
          · intro i H2 e2 hi H3 e3 Q q
            exact q H3 (Ex.refl _)
          · intro i H2 e2 hi _
            obtain ⟨y, hy2⟩ : ∃ y, xs[i]? = some y := ⟨_, List.getElem?_eq_getElem hi⟩
            obtain ⟨z, hz2⟩ : ∃ z, ys[i]? = some z := ⟨_, List.getElem?_eq_getElem (by omega)⟩
            obtain ⟨d1, g1, p1⟩ := dpa_get ha hy2
            obtain ⟨d2, g2, p2⟩ := dpa_get hb2 hz2
            rw [g1] at g2
            cases g2
            have dl := depthAll_get g1
            refine ev_callO (vs := [y, z]) (ea_cons (ev_var (by rw [hy2]; rfl)) (ea_cons (ev_var (by rw [hz2]; rfl)) ea_nil)) ⟨y, z, d1, rfl, dp_mono (o.e0.trans e2) p1, dp_mono (o.e0.trans e2) p2, hsa _ (List.mem_of_getElem? g1), by omega, rfl⟩
          · subst ev
            have hp : N p = some (.lst (((picks xs.length fun _ => true).map fun _ => true).map V.bl)) := by
              rw [hp, List.map_map]
              rfl
            have z := rc_all (K := K) (sq_of (i2 _ _ hp))
            rw [all_true] at z
            exact z
          · rw [lx, ly]
            simp
        · have kd : x = y ∧ scal x y = true ∧ kitB (kindS d) "list" = some false ∧ kitB (kindS d) "tuple" = some false ∧ ∃ b3 b4 b5, kitB (kindS d) "bool" = some b3 ∧ kitB (kindS d) "str" = some b4 ∧ kitB (kindS d) "int" = some b5 := by
            rcases sc with ⟨i, rfl, rfl, e⟩ | ⟨i, rfl, rfl, e⟩ | ⟨i, rfl, rfl, e⟩
            · rw [e]; exact ⟨rfl, rfl, by decide +kernel, by decide +kernel, false, false, true, by decide +kernel, by decide +kernel, by decide +kernel⟩
            · rw [e]; exact ⟨rfl, rfl, by decide +kernel, by decide +kernel, false, true, false, by decide +kernel, by decide +kernel, by decide +kernel⟩
            · rw [e]; exact ⟨rfl, rfl, by decide +kernel, by decide +kernel, true, false, true, by decide +kernel, by decide +kernel, by decide +kernel⟩
          obtain ⟨rfl, hsc, k1, k2, b3, b4, b5, k3, k4, k5⟩ := kd
          refine q_wh (b := false) o (et_is (et_B (ev_isi2 (ev_var rfl) hy1 k1 k2)) rfl) (fun h => nomatch h) (fun _ H1 o => ?_)
          have hx1 := dp_mono o.e0 hx
          refine q_wh (b := false) o (et_is (et_or (et_test (ev_op (ev_isi (ev_var rfl) hx1 k3) (ev_isi (ev_var rfl) hx1 k3) (rv_neS (by cases b3 <;> rfl)))) fun _ => et_test (ev_op (ev_isi (ev_var rfl) hx1 k4) (ev_isi (ev_var rfl) hx1 k4) (rv_neS (by cases b4 <;> rfl)))) (by simp)) (fun h => nomatch h) (fun _ H1 o => ?_)
          have hx1 := dp_mono o.e0 hx
          exact s_rv o (v := .bl true) (ev_is (ev_andV (ev_op (ev_isi (ev_var rfl) hx1 k5) (ev_isi (ev_var rfl) hx1 k5) (rv_eqS (by cases b5 <;> rfl))) fun _ => ev_op (ev_var rfl) (ev_var rfl) (rv_eqS hsc)) (by simp)) fun H1 o => o.retV k (j := 0) rfl rfl
end
abbrev s_is_syllable : Stmt := topS 23
theorem sc_is_syllable : FnScope ["text", "sign"] ["text"] (defScope s_is_syllable) := ⟨rfl, rfl, rfl, by decide +kernel, rfl, by decide +kernel, by decide +kernel⟩
abbrev s_is_verse : Stmt := topS 24
theorem sc_is_verse : FnScope ["line", "text"] ["line"] (defScope s_is_verse) := ⟨rfl, rfl, rfl, by decide +kernel, rfl, by decide +kernel, by decide +kernel⟩
abbrev s_begins : Stmt := topS 25
theorem sc_begins : FnScope ["heard", "line"] ["heard", "line"] (defScope s_begins) := ⟨rfl, rfl, rfl, by decide +kernel, rfl, by decide +kernel, by decide +kernel⟩
abbrev s_alike : Stmt := topS 26
theorem sc_alike : FnScope ["one", "other"] ["one", "other"] (defScope s_alike) := ⟨rfl, rfl, rfl, by decide +kernel, rfl, by decide +kernel, by decide +kernel⟩
section
variable {P : Program} {w : World} {K : PySem.W.Frag} {mg : Str → Option Value} {base : Heap}
/-! ### texts and lists of texts -/
def LT : List Nat := ("abcdefghijklmnopqrstuvwxyz" : Str).cps.toList
def isSyl (s : Str) : Bool := (decide ((1 : Int) ≤ (s.length : Int)) && decide ((s.length : Int) ≤ 3)) && s.cps.toList.all fun c => decide (c ∈ LT)
def isVer (l : List Str) : Bool := (decide ((1 : Int) ≤ (l.length : Int)) && decide ((l.length : Int) ≤ 8)) && l.all isSyl
def begM (h l : List Str) : Bool := decide (l.take h.length = h)
def alikeM (a b : List Str) : Bool := begM a b || begM b a
def R_is_syllable : Rl := ⟨fun vs _ r => ∃ s : Str, vs = [.str s] ∧ s.length ≤ 1000 ∧ r = .ok (is (.bl (isSyl s))), fun _ h => h⟩
def inLT : V → Bool
  | .str s => s.cps.toList.all fun c => decide (c ∈ LT)
  | _ => false
theorem signs_in (z : Str) : (signs z).all inLT = z.cps.toList.all fun c => decide (c ∈ LT) := by
  unfold signs
  rw [List.all_map]
  congr 1
  funext c
  simp [inLT]
theorem ok_is_syllable (B : Bt mg) {t_LETTERS t_MOST_SIGNS : Tok} (c_LETTERS : mg "LETTERS" = some (.str "abcdefghijklmnopqrstuvwxyz" t_LETTERS)) (c_MOST_SIGNS : mg "MOST_SIGNS" = some (.int 3 t_MOST_SIGNS)) (D : Df K mg "is_syllable" s_is_syllable ["text"]) : Ok P w K mg base 1 "is_syllable" ["text"] (R_is_syllable.sp mg) := by
  refine D.ok sc_is_syllable (fun vs H Q E h => ?_) (fun f cdv A outer s H vs Q E hr h => ?_)
  · obtain ⟨r, ⟨s, rfl, _⟩, _⟩ := h
    rfl
  · obtain ⟨r, ⟨z, rfl, hz, rfl⟩, k⟩ := h
    refine ⟨_, (pss_one (ps_ret (pe_and (pe_chain op_le op_le pe_int (pe_callB (call_lenK K) (by rfl) B.len boot_b_len (pa_cons (pv 0) pa_nil)) (pe_glob (v := .int 3) (by rfl) c_MOST_SIGNS ⟨_, rfl⟩)) (pe_one (pe_callB (cr_allK K rfl) (by rfl) B.all boot_b_all (pa_cons (pe_lc (own := [("sign", 1)]) rfl sc_is_syllable.nd (pi_str (pv 0)) (blkOk_by (N := ["text", "sign"]) (sc := defScope s_is_syllable) (by decide +kernel)) (fun _ _ _ _ _ => (pg_name (i := 1) sc_is_syllable.nd rfl (.inl rfl))) (fun _ _ _ _ _ => pts_nil) (fun _ _ _ _ _ => (pe_cmpR (op_inK K (hu65 hr)) (pv 1) (pe_glob (v := .str "abcdefghijklmnopqrstuvwxyz") (by rfl) c_LETTERS ⟨_, rfl⟩) (by rfl)))) pa_nil)))))), ?_⟩
    refine s_rv (Own.one H) (ev_is (ev_andV (ev_chain ev_c (ev_cb (by wtm_at "ev") (rc_lenS (by omega))) ev_c) fun _ => ev_allX (fun x => [some (.str z), some x]) inLT (ei_strX (G := H) (ev_var rfl)) (Ex.refl _) (by rw [signs_len]; omega) (fun _ _ _ _ q => q) (fun _ => rfl) ?_) (by rw [signs_in]; rfl)) fun H1 o => o.retV k (j := 0) rfl rfl
    intro x H2 e2 hx
    obtain ⟨c, _, rfl⟩ := List.mem_map.mp hx
    exact ev_is (ev_op (ev_var rfl) ev_c rv_sign) (by simp [inLT, LT])
/-- a list of texts at p -/
def Ln (K : PySem.W.Frag) (H : Hp) (p : Addr) (l : List Str) : Prop := SqL K H p (l.map V.str) ∧ l.length ≤ 1000 ∧ ∀ s ∈ l, TxtOk s
theorem Ln.mono {H H' : Hp} {p : Addr} {l : List Str} (e : Ex H H') (h : Ln K H p l) : Ln K H' p l := ⟨ex_l e h.1, h.2⟩
def R_is_verse (K : PySem.W.Frag) : Rl := ⟨fun vs H r => ∃ (p : Addr) (l : List Str), vs = [.ref p] ∧ Ln K H p l ∧ r = .ok (is (.bl (isVer l))), fun e ⟨p, l, h1, h2, h3⟩ => ⟨p, l, h1, h2.mono e, h3⟩⟩
def sylV : V → Bool
  | .str s => isSyl s
  | _ => false
theorem ok_is_verse (B : Bt mg) {t_MOST_SYLLABLES : Tok} (c_MOST_SYLLABLES : mg "MOST_SYLLABLES" = some (.int 8 t_MOST_SYLLABLES)) (O_is_syllable : Ok P w K mg base 1 "is_syllable" ["text"] (R_is_syllable.sp mg)) (D : Df K mg "is_verse" s_is_verse ["line"]) : Ok P w K mg base 2 "is_verse" ["line"] ((R_is_verse K).sp mg) := by
  refine D.ok sc_is_verse (fun vs H Q E h => ?_) (fun f cdv A outer s H vs Q E hr h => ?_)
  · obtain ⟨r, ⟨p, l, rfl, _⟩, _⟩ := h
    rfl
  · obtain ⟨r, ⟨p, l, rfl, ⟨h1, hl, ht⟩, rfl⟩, k⟩ := h
    refine ⟨_, (pss_one (ps_ret (pe_and (pe_chain op_le op_le pe_int (pe_callB (call_lenK K) (by rfl) B.len boot_b_len (pa_cons (pv 0) pa_nil)) (pe_glob (v := .int 8) (by rfl) c_MOST_SYLLABLES ⟨_, rfl⟩)) (pe_one (pe_callB (cr_allK K rfl) (by rfl) B.all boot_b_all (pa_cons (pe_lc (own := [("text", 1)]) rfl sc_is_verse.nd (pi_listK K (pv 0)) (blkOk_by (N := ["line", "text"]) (sc := defScope s_is_verse) (by decide +kernel)) (fun _ _ _ _ _ => (pg_name (i := 1) sc_is_verse.nd rfl (.inl rfl))) (fun _ _ _ _ _ => pts_nil) (fun _ _ _ _ _ => (pe_callO O_is_syllable (hr.mono (by omega)) (by rfl) takes0 (pa_cons (pv 1) pa_nil)))) pa_nil)))))), ?_⟩
    refine s_rv (Own.one H) (ev_is (ev_andV (ev_chain ev_c (ev_cb (by wtm_at "ev") (rc_lenL h1)) ev_c) fun _ => ev_allX (fun x => [some (.ref p), some x]) sylV (ei_list (ev_var rfl) h1 (Ex.refl _)) (Ex.refl _) (by rw [List.length_map]; omega) (fun _ _ _ _ q => q) (fun _ => rfl) ?_) ?_) fun H1 o => o.retV k (j := 0) rfl rfl
    · intro x H2 e2 hx
      obtain ⟨z, hz, rfl⟩ := List.mem_map.mp hx
      exact ev_callO (S := R_is_syllable) (by wtm_at "ev") ⟨z, rfl, (ht z hz).1, rfl⟩
    · rw [List.length_map, List.all_map]
      rfl
theorem cut_line (l : List Str) (n : Nat) : cutV (l.map V.str) none (some (n : Int)) = (l.take n).map V.str := by rw [cutV_take, List.map_take]
def R_begins (K : PySem.W.Frag) : Rl := ⟨fun vs H r => ∃ (p q : Addr) (h l : List Str), vs = [.ref p, .ref q] ∧ Ln K H p h ∧ Ln K H q l ∧ r = .ok (is (.bl (begM h l))), fun e ⟨p, q, h, l, h1, h2, h3, h4⟩ => ⟨p, q, h, l, h1, h2.mono e, h3.mono e, h4⟩⟩
theorem ok_begins (B : Bt mg) (D : Df K mg "begins" s_begins ["heard", "line"]) : Ok P w K mg base 1 "begins" ["heard", "line"] ((R_begins K).sp mg) := by
  refine D.ok sc_begins (fun vs H Q E h => ?_) (fun f cdv A outer s H vs Q E hr h => ?_)
  · obtain ⟨r, ⟨p, q, h, l, rfl, _⟩, _⟩ := h
    rfl
  · obtain ⟨r, ⟨p, q, h, l, rfl, ⟨h1, hl, ht⟩, ⟨h2, hl2, ht2⟩, rfl⟩, k⟩ := h
    refine ⟨_, (pss_one (ps_ret (pe_cmpR (op_eqK K (hu65 hr)) (pe_slice (sl_K K) (pv 1) po_none (po_some (pe_callB (call_lenK K) (by rfl) B.len boot_b_len (pa_cons (pv 0) pa_nil)))) (pv 0) (nomark _)))), ?_⟩
    refine s_rv (Own.one H) (ev_op1 (ep_l (el_sl' (ev_var rfl) eo_none (eo_some (ev_cb (by wtm_at "ev") (rc_lenL h1))) h2)) (ev_var rfl) ?_) fun H1 o => o.retV k (j := 0) rfl rfl
    rintro v N H1 e i1 ⟨c, rfl, hc⟩
    rw [cut_line, List.length_map] at hc
    have z := rv_eqD (K := K) (H := H1) (dp_line.mpr ⟨c, rfl, sq_of (i1 _ _ hc)⟩) (dp_line.mpr ⟨p, rfl, ex_l e h1⟩) (shaped_line fun s hs => ht2 s (List.mem_of_mem_take hs)) (shaped_line ht)
    rw [eqv_line] at z
    exact z
def R_alike (K : PySem.W.Frag) : Rl := ⟨fun vs H r => ∃ (p q : Addr) (h l : List Str), vs = [.ref p, .ref q] ∧ Ln K H p h ∧ Ln K H q l ∧ r = .ok (is (.bl (alikeM h l))), fun e ⟨p, q, h, l, h1, h2, h3, h4⟩ => ⟨p, q, h, l, h1, h2.mono e, h3.mono e, h4⟩⟩
theorem ok_alike (B : Bt mg) (O_begins : Ok P w K mg base 1 "begins" ["heard", "line"] ((R_begins K).sp mg)) (D : Df K mg "alike" s_alike ["one", "other"]) : Ok P w K mg base 2 "alike" ["one", "other"] ((R_alike K).sp mg) := by
  refine D.ok sc_alike (fun vs H Q E h => ?_) (fun f cdv A outer s H vs Q E hr h => ?_)
  · obtain ⟨r, ⟨p, q, h, l, rfl, _⟩, _⟩ := h
    rfl
  · obtain ⟨r, ⟨p, q, h, l, rfl, h1, h2, rfl⟩, k⟩ := h
    refine ⟨_, (pss_one (ps_ret (pe_or (pe_callO O_begins (hr.mono (by omega)) (by rfl) (takes_of rfl rfl rfl rfl) (pa_cons (pv 0) (pa_cons (pv 1) pa_nil))) (pe_one (pe_callO O_begins (hr.mono (by omega)) (by rfl) (takes_of rfl rfl rfl rfl) (pa_cons (pv 1) (pa_cons (pv 0) pa_nil))))))), ?_⟩
    exact s_rv (Own.one H) (ev_orV (ev_callO (S := R_begins K) (by wtm_at "ev") ⟨p, q, h, l, rfl, h1, h2, rfl⟩) fun _ => ev_callO (S := R_begins K) (by wtm_at "ev") ⟨q, p, l, h, rfl, h2, h1, rfl⟩) fun H1 o => o.retV k (j := 0) rfl rfl
end
abbrev s_BadVersed__initd_ : Stmt := inClass (topS 16) 0
theorem sc_BadVersed__initd_ : FnScope ["self", "row"] ["self", "row"] (defScope s_BadVersed__initd_) := ⟨rfl, rfl, rfl, by decide +kernel, rfl, by decide +kernel, by decide +kernel⟩
abbrev s_Aliked__initd_ : Stmt := inClass (topS 17) 0
theorem sc_Aliked__initd_ : FnScope ["self", "one", "other"] ["self", "one", "other"] (defScope s_Aliked__initd_) := ⟨rfl, rfl, rfl, by decide +kernel, rfl, by decide +kernel, by decide +kernel⟩
abbrev s_need_verses : Stmt := topS 27
theorem sc_need_verses : FnScope ["verses", "row", "line", "other", "one"] ["verses"] (defScope s_need_verses) := ⟨rfl, rfl, rfl, by decide +kernel, rfl, by decide +kernel, by decide +kernel⟩
section
variable {P : Program} {w : World} {K : PySem.W.Frag} {mg : Str → Option Value} {base : Heap}
/-! ### what is refused of rows -/
def row1 (ls : List (List Str)) (i : Nat) : List Str := ls.getD i []
def badRow (ls : List (List Str)) : Option Nat := (List.range ls.length).find? fun i => !isVer (row1 ls i)
def badOne (ls : List (List Str)) (j : Nat) : Option Nat := (List.range j).find? fun i => alikeM (row1 ls i) (row1 ls j)
def badTwo (ls : List (List Str)) : Option Nat := (List.range ls.length).find? fun j => (badOne ls j).isSome
def needM (ls : List (List Str)) : Option (Str × List (Str × V)) :=
  if 1 ≤ ls.length ∧ ls.length ≤ 40 then
    match badRow ls with
    | some i => some ("BadVerse", [("row", .int (i : Nat))])
    | none => match badTwo ls with
      | some j => some ("Alike", [("other", .int (j : Nat)), ("one", .int (((badOne ls j).getD 0 : Nat)))])
      | none => none
  else some ("BadBook", [])
def needR (ls : List (List Str)) (P : Hp → V → Prop) : Res := match needM ls with
  | some (x, fs) => .err x fs
  | none => .ok P
/-- rows of texts at v -/
def Bk (K : PySem.W.Frag) (H : Hp) (v : Addr) (ls : List (List Str)) : Prop := Dp K H (.ref v) (eBook ls) ∧ ls.length ≤ 1000 ∧ ∀ l ∈ ls, l.length ≤ 1000 ∧ ∀ s ∈ l, TxtOk s
theorem Bk.mono {H H' : Hp} {v : Addr} {ls : List (List Str)} (e : Ex H H') (h : Bk K H v ls) : Bk K H' v ls := ⟨dp_mono e h.1, h.2⟩
theorem Bk.rows {H : Hp} {v : Addr} {ls : List (List Str)} (h : Bk K H v ls) : ∃ xs, SqL K H v xs ∧ Rows K H xs ls := by
  obtain ⟨q, xs, e, h1, h2⟩ := dp_book.mp h.1
  cases e
  exact ⟨xs, h1, h2⟩
theorem row1_get {ls : List (List Str)} {i : Nat} (h : i < ls.length) : ls[i]? = some (row1 ls i) := by
  unfold row1
  rw [List.getD_eq_getElem?_getD, List.getElem?_eq_getElem h]
  rfl
theorem row1_mem {ls : List (List Str)} {i : Nat} (h : i < ls.length) : row1 ls i ∈ ls := List.mem_of_getElem? (row1_get h)
/-- the i-th row, in whatever heap -/
theorem Bk.row {H : Hp} {v : Addr} {ls : List (List Str)} {xs : List V} {i : Nat} (h : Bk K H v ls) (r : Rows K H xs ls) (hi : i < ls.length) : ∃ q, xs[i]? = some (.ref q) ∧ Ln K H q (row1 ls i) := by
  obtain ⟨q, h1, h2⟩ := r.get (row1_get hi)
  exact ⟨q, h1, h2, h.2.2 _ (row1_mem hi)⟩
theorem okx_BadVerse {C : Addr} (T : OexC K C) (n1 : PySem.W.findIn K (.ref C) "row" = some none) {f : Addr} {fd : FuncData} (F : Fun K "__init__" "BadVerse.__init__" s_BadVersed__initd_ f fd) : FnOk P w K mg base (L2.CX P w) 1 f fd ["self", "row"] (spXi C ["row"]) := by
  refine F.okX sc_BadVersed__initd_ (fun vs H Q E h => ?_) (fun cdv A outer s H vs Q E hr h => ?_)
  · obtain ⟨a, us, G, rfl, hl, _⟩ := h
    simpa using hl
  · obtain ⟨a, us, G, rfl, hl, rfl, ha, k⟩ := h
    obtain ⟨y, rfl⟩ : ∃ y, us = [y] := by
      match us, hl with
      | [y], _ => exact ⟨y, rfl⟩
    refine ⟨_, (pss_one (ps_ostK K (pv 0) (pv 1))), ?_⟩
    refine ⟨y, rfl, .ref a, rfl, a, C, rfl, T, n1, .inl ⟨upd_same, fun dx hdx hne => ?_⟩⟩
    rw [upd_ne hne] at hdx
    exact k dx _ hdx hne upd_same (by rw [upd_ne hne, upd_same]; rfl) (fun b h1 h2 => by rw [upd_ne h1, upd_ne h2, upd_ne h1])
theorem okx_Alike {C : Addr} (T : OexC K C) (n1 : PySem.W.findIn K (.ref C) "one" = some none) (n2 : PySem.W.findIn K (.ref C) "other" = some none) {f : Addr} {fd : FuncData} (F : Fun K "__init__" "Alike.__init__" s_Aliked__initd_ f fd) : FnOk P w K mg base (L2.CX P w) 1 f fd ["self", "one", "other"] (spXi C ["one", "other"]) := by
  refine F.okX sc_Aliked__initd_ (fun vs H Q E h => ?_) (fun cdv A outer s H vs Q E hr h => ?_)
  · obtain ⟨a, us, G, rfl, hl, _⟩ := h
    simpa using hl
  · obtain ⟨a, us, G, rfl, hl, rfl, ha, k⟩ := h
    obtain ⟨y, z, rfl⟩ : ∃ y z, us = [y, z] := by
      match us, hl with
      | [y, z], _ => exact ⟨y, z, rfl⟩
    refine ⟨_, (pss_cons (ps_ostK K (pv 0) (pv 1))
      (pss_one (ps_ostK K (pv 0) (pv 2)))), ?_⟩
    refine ⟨y, rfl, .ref a, rfl, a, C, rfl, T, n1, .inl ⟨upd_same, fun dx hdx hne => ?_⟩⟩
    rw [upd_ne hne] at hdx
    refine ⟨z, rfl, .ref a, rfl, a, C, rfl, T, n2, .inr ⟨dx, [("one", y)], upd_same, by rw [upd_ne hne, upd_same], by show 1 ≤ 900; decide, ?_⟩⟩
    exact k dx _ hdx hne (by rw [upd_ne hne.symm, upd_same]) upd_same (fun b h1 h2 => by rw [upd_ne h2, upd_ne h1, upd_ne h2, upd_ne h1])
def R_need_verses (K : PySem.W.Frag) : Rl := ⟨fun vs H r => ∃ (v : Addr) (ls : List (List Str)), vs = [.ref v] ∧ Bk K H v ls ∧ r = needR ls (is .non), fun e ⟨v, ls, h1, h2, h3⟩ => ⟨v, ls, h1, h2.mono e, h3⟩⟩
theorem ok_need_verses (B : Bt mg) {t_MOST_VERSES : Tok} (c_MOST_VERSES : mg "MOST_VERSES" = some (.int 40 t_MOST_VERSES)) {C_BadBook C_BadVerse C_Alike : Addr} (X_BadBook : Xc K mg "BadBook" C_BadBook) (X_BadVerse : Xi P w K mg base "BadVerse" C_BadVerse ["row"]) (X_Alike : Xi P w K mg base "Alike" C_Alike ["one", "other"])
    (O_is_verse : Ok P w K mg base 2 "is_verse" ["line"] ((R_is_verse K).sp mg)) (O_alike : Ok P w K mg base 2 "alike" ["one", "other"] ((R_alike K).sp mg)) (D : Df K mg "need_verses" s_need_verses ["verses"]) : Ok P w K mg base 3 "need_verses" ["verses"] ((R_need_verses K).sp mg) := by
  refine D.ok sc_need_verses (fun vs H Q E h => ?_) (fun f cdv A outer s H vs Q E hr h => ?_)
  · obtain ⟨r, ⟨v, ls, rfl, _⟩, _⟩ := h
    rfl
  · obtain ⟨r, ⟨v, ls, rfl, hB, rfl⟩, k⟩ := h
    obtain ⟨xs, hS, hR⟩ := hB.rows
    have hlen := hR.len
    refine ⟨_, (pss_cons (ps_if (pt_not (pt_chain op_le op_le pe_int (pe_callB (call_lenK K) (by rfl) B.len boot_b_len (pa_cons (pv 0) pa_nil)) (pe_glob (v := .int 40) (by rfl) c_MOST_VERSES ⟨_, rfl⟩)))
        (pss_one (ps_raise rfl (takes_of rfl rfl rfl rfl) (pmk_ex X_BadBook (by rfl))))
        pss_nil)
      (pss_cons (ps_for (passes_of rfl) rfl (pi_enumK K (by rfl) B.enumerate (pa_cons (pv 0) pa_nil)) (pg_tupK K (n := 2) rfl (pgs_cons (pg_name (i := 1) sc_need_verses.nd rfl (.inl rfl)) (pgs_cons (pg_name (i := 2) sc_need_verses.nd rfl (.inl rfl)) pgs_nil)))
        (pss_one (ps_if (pt_not (pt_val (pe_callO O_is_verse (hr.mono (by omega)) (by rfl) (takes_of rfl rfl rfl rfl) (pa_cons (pv 2) pa_nil))))
          (pss_one (ps_raise rfl (takes_of rfl rfl rfl rfl) (pmk_exI X_BadVerse hr (by omega) (by rfl) (pa_cons (pv 1) pa_nil))))
          pss_nil)))
      (pss_one (ps_for (passes_of rfl) rfl (pi_range1 (by rfl) B.range (pa_cons (pe_callB (call_lenK K) (by rfl) B.len boot_b_len (pa_cons (pv 0) pa_nil)) pa_nil)) (pg_name (i := 3) sc_need_verses.nd rfl (.inl rfl))
        (pss_one (ps_for (passes_of rfl) rfl (pi_range1 (by rfl) B.range (pa_cons (pv 3) pa_nil)) (pg_name (i := 4) sc_need_verses.nd rfl (.inl rfl))
          (pss_one (ps_if (pt_val (pe_callO O_alike (hr.mono (by omega)) (by rfl) (takes_of rfl rfl rfl rfl) (pa_cons (pe_ix (ix_seqK K) (pv 0) (pv 4) (fun _ _ => rfl)) (pa_cons (pe_ix (ix_seqK K) (pv 0) (pv 3) (fun _ _ => rfl)) pa_nil))))
            (pss_one (ps_raise rfl (takes_of rfl rfl rfl rfl) (pmk_exI X_Alike hr (by omega) (by rfl) (pa_cons (pv 4) (pa_cons (pv 3) pa_nil)))))
            pss_nil)))))))), ?_⟩
    have hl2 := hB.2.1
    refine q_wh (Own.one H) (et_not (et_test (ev_chain ev_c (ev_cb (by wtm_at "ev") (rc_lenL hS)) ev_c))) (fun hb H1 o => ?_) (fun hb H1 o => ?_)
    · have hb : ¬ (1 ≤ ls.length ∧ ls.length ≤ 40) := by
        rw [hlen] at hb
        intro ⟨z1, z2⟩
        rw [decide_eq_true (show (1 : Int) ≤ ((ls.length : Nat) : Int) by omega), decide_eq_true (show ((ls.length : Nat) : Int) ≤ 40 by omega)] at hb
        cases hb
      have e : needR ls (is .non) = .err "BadBook" [] := by
        unfold needR needM
        rw [if_neg hb]
      rw [e] at k
      exact k H1 C_BadBook none (o.ix (i := 0) rfl) X_BadBook.g (.inl ⟨rfl, rfl⟩)
    · have hb : 1 ≤ ls.length ∧ ls.length ≤ 40 := by
        rw [hlen] at hb
        by_cases z1 : (1 : Int) ≤ ((ls.length : Nat) : Int)
        · by_cases z2 : ((ls.length : Nat) : Int) ≤ 40
          · omega
          · rw [decide_eq_false z2, Bool.and_false] at hb
            cases hb
        · rw [decide_eq_false z1, Bool.false_and] at hb
          cases hb
      -- the rows one by one
      refine q_for (G := H) o (ei_enum (by wtm_at "ev") hS o.e0) (fun i σ H' => ∃ y1 y2, σ = [some (.ref v), y1, y2, none, none] ∧ Own [H] H' ∧ ∀ j, j < i → isVer (row1 ls j) = true) (fun H1 o => ⟨_, _, rfl, o, fun j hj => absurd hj (Nat.not_lt_zero _)⟩) (fun i σ H' _ ⟨_, _, _, o, _⟩ => o.e0) ?_ ?_
      · rintro i x σ H1 H2 hi ⟨y1, y2, rfl, o, ha⟩ e ⟨T, y, rfl, hT, hy⟩
        obtain ⟨q, hq, hLn⟩ := hB.row hR (i := i) (by omega)
        rw [hq] at hy
        cases hy
        have o := o.mono e
        refine ⟨T, _, rfl, st_of hT, rfl, _, _, rfl, _, _, rfl, rfl, ?_⟩
        refine s_wh o (et_not (et_B (ev_callO (S := R_is_verse K) (vs := [.ref q]) (by wtm_at "ev") ⟨q, _, rfl, hLn.mono o.e0, rfl⟩))) (fun hb2 H3 o => ?_) (fun hb2 H3 o => ?_)
        · have hv : isVer (row1 ls i) = false := by simpa using hb2
          have er : badRow ls = some i := List.find?_range_eq_some.mpr ⟨by rw [hv]; rfl, List.mem_range.mpr (by omega), fun j hj => by rw [ha j hj]; rfl⟩
          have e : needR ls (is .non) = .err "BadVerse" [("row", .int (i : Nat))] := by
            unfold needR needM
            rw [if_pos hb, er]
          rw [e] at k
          exact raise_xi (j := 0) (vs := [.int (i : Nat)]) o rfl (by wtm_at "ev") rfl (by show 1 ≤ 1000; decide) (by decide) X_BadVerse.g k
        · have hv : isVer (row1 ls i) = true := by simpa using hb2
          exact ⟨_, _, rfl, o, fun j hj => by
            rcases Nat.lt_succ_iff_lt_or_eq.mp hj with z | z
            · exact ha j z
            · rw [z]; exact hv⟩
      · rintro σ H1 ⟨y1, y2, rfl, o, ha⟩
        have er : badRow ls = none := by
          unfold badRow
          rw [List.find?_range_eq_none]
          intro j hj
          rw [ha j (by rw [hlen]; exact hj)]
          rfl
        have hS1 := ex_l o.e0 hS
        refine s_forN (G := H) o (ei_rng1 (ea_cons (ev_cb (by wtm_at "ev") (rc_lenL hS1)) ea_nil) (by omega)) (fun i σ H' => ∃ y3 y4, σ = [some (.ref v), y1, y2, y3, y4] ∧ Own [H] H' ∧ ∀ j, j < i → badOne ls j = none) (fun H1 o => ⟨_, _, rfl, o, fun j hj => absurd hj (Nat.not_lt_zero _)⟩) (fun i σ H' _ ⟨_, _, _, o, _⟩ => o.e0) ?_ ?_
        · rintro j x σ H1 H2 hj ⟨y3, y4, rfl, o, hb1⟩ e rfl
          have hj : j < ls.length := by omega
          have o := o.mono e
          refine s_forN (G := H) o (ei_rng1 (by wtm_at "ev") (by omega)) (fun i σ H' => ∃ y4, σ = [some (.ref v), y1, y2, some (.int (j : Nat)), y4] ∧ Own [H] H' ∧ ∀ i', i' < i → alikeM (row1 ls i') (row1 ls j) = false) (fun H1 o => ⟨_, rfl, o, fun j hj => absurd hj (Nat.not_lt_zero _)⟩) (fun i σ H' _ ⟨_, _, o, _⟩ => o.e0) ?_ ?_
          · rintro i x σ H3 H4 hi ⟨y4, rfl, o, hb2⟩ e rfl
            have hi : i < j := by omega
            have o := o.mono e
            obtain ⟨q1, hq1, hL1⟩ := hB.row hR (i := i) (by omega)
            obtain ⟨q2, hq2, hL2⟩ := hB.row hR (i := j) (by omega)
            have a1 : atI xs ((i : Nat) : Int) = some (.ref q1) := atI_nat hq1
            have a2 : atI xs ((j : Nat) : Int) = some (.ref q2) := atI_nat hq2
            have ix1 : Ev (tOp (rIx K) (tVar 0) (tVar 4)) [some (.ref v), y1, y2, some (.int (j : Nat)), some (.int (i : Nat))] H4 (.ref q1) := ev_op (ev_var rfl) (ev_var rfl) (rv_ixLs (ex_l o.e0 hS) a1)
            have ix2 : Ev (tOp (rIx K) (tVar 0) (tVar 3)) [some (.ref v), y1, y2, some (.int (j : Nat)), some (.int (i : Nat))] H4 (.ref q2) := ev_op (ev_var rfl) (ev_var rfl) (rv_ixLs (ex_l o.e0 hS) a2)
            refine s_wh o (et_B (ev_callO (S := R_alike K) (vs := [.ref q1, .ref q2]) (ea_cons ix1 (ea_cons ix2 ea_nil)) ⟨q1, q2, _, _, rfl, hL1.mono o.e0, hL2.mono o.e0, rfl⟩)) (fun hb3 H5 o => ?_) (fun hb3 H5 o => ?_)
            · have e1 : badOne ls j = some i := List.find?_range_eq_some.mpr ⟨hb3, List.mem_range.mpr hi, fun i' hi' => by rw [hb2 i' hi']; rfl⟩
              have e2 : badTwo ls = some j := List.find?_range_eq_some.mpr ⟨by rw [e1]; rfl, List.mem_range.mpr hj, fun j' hj' => by rw [hb1 j' hj']; rfl⟩
              have e : needR ls (is .non) = .err "Alike" [("other", .int (j : Nat)), ("one", .int (i : Nat))] := by
                unfold needR needM
                rw [if_pos hb, er, e2]
                simp only [e1, Option.getD_some]
              rw [e] at k
              exact raise_xi (j := 0) (vs := [.int (i : Nat), .int (j : Nat)]) o rfl (by wtm_at "ev") rfl (by show 2 ≤ 1000; decide) (by decide) X_Alike.g k
            · exact ⟨_, rfl, o, fun i' hi' => by
                rcases Nat.lt_succ_iff_lt_or_eq.mp hi' with z | z
                · exact hb2 i' z
                · rw [z]; exact hb3⟩
          · rintro σ H3 ⟨y4, rfl, o, hb2⟩
            refine ⟨_, _, rfl, o, fun j' hj' => ?_⟩
            rcases Nat.lt_succ_iff_lt_or_eq.mp hj' with z | z
            · exact hb1 j' z
            · rw [z]
              unfold badOne
              rw [List.find?_range_eq_none]
              intro i hi
              rw [hb2 i (by omega)]
              rfl
        · rintro σ H1 ⟨y3, y4, rfl, o, hb1⟩
          have e2 : badTwo ls = none := by
            unfold badTwo
            rw [List.find?_range_eq_none]
            intro j hj
            rw [hb1 j (by omega)]
            rfl
          have e : needR ls (is .non) = .ok (is .non) := by
            unfold needR needM
            rw [if_pos hb, er, e2]
          rw [e] at k
          exact o.retV k (j := 0) rfl rfl
abbrev s_Bookd__initd_ : Stmt := inClass (topS 28) 0
theorem sc_Bookd__initd_ : FnScope ["self", "verses", "line"] ["self", "verses"] (defScope s_Bookd__initd_) := ⟨rfl, rfl, rfl, by decide +kernel, rfl, by decide +kernel, by decide +kernel⟩
abbrev s_Book_many : Stmt := inClass (topS 28) 1
theorem sc_Book_many : FnScope ["self"] ["self"] (defScope s_Book_many) := ⟨rfl, rfl, rfl, by decide +kernel, rfl, by decide +kernel, by decide +kernel⟩
abbrev s_Book_verse : Stmt := inClass (topS 28) 2
theorem sc_Book_verse : FnScope ["self", "number"] ["self", "number"] (defScope s_Book_verse) := ⟨rfl, rfl, rfl, by decide +kernel, rfl, by decide +kernel, by decide +kernel⟩
abbrev s_Book_verses : Stmt := inClass (topS 28) 3
theorem sc_Book_verses : FnScope ["self", "line"] ["self"] (defScope s_Book_verses) := ⟨rfl, rfl, rfl, by decide +kernel, rfl, by decide +kernel, by decide +kernel⟩
/-! ### books -/
/-- a book: its verses lie in lists of its own -/
def BookAt (K : PySem.W.Frag) (C : Addr) (H : Hp) (b : Addr) (ls : List (List Str)) : Prop := (∃ dx p, H b = some (.ins C dx [("lines", .ref p)]) ∧ Bk K H p ls) ∧ needM ls = none
theorem BookAt.mono {C : Addr} {H H' : Hp} {b : Addr} {ls : List (List Str)} (e : Ex H H') (h : BookAt K C H b ls) : BookAt K C H' b ls := by
  obtain ⟨⟨dx, p, h1, h2⟩, h3⟩ := h
  exact ⟨⟨dx, p, e _ _ h1, h2.mono e⟩, h3⟩
abbrev pBook (K : PySem.W.Frag) (C : Addr) (ls : List (List Str)) : Hp → V → Prop := fun N v => ∃ b, v = .ref b ∧ BookAt K C N b ls
/-- what the class of books has -/
structure TBook (K : PySem.W.Frag) (mg : Str → Option Value) (C : Addr) : Prop where
  cl : Cls K C
  g : mg "Book" = some (.ref C)
  n_lines : NoAttr K C "lines"
def R_Book (K : PySem.W.Frag) (C : Addr) : Rl := ⟨fun vs H r => ∃ (v : Addr) (ls : List (List Str)), vs = [.ref v] ∧ Bk K H v ls ∧ r = needR ls (pBook K C ls), fun e ⟨v, ls, h1, h2, h3⟩ => ⟨v, ls, h1, h2.mono e, h3⟩⟩
/-- a copy of rows: new lists -/
def Cells (N : Hp) (p : Addr) (ls : List (List Str)) : Prop := ∃ xs, N p = some (.lst xs) ∧ Paired (fun x l => ∃ q, x = V.ref q ∧ N q = some (.lst (l.map V.str))) xs ls
abbrev pRows (K : PySem.W.Frag) (ls : List (List Str)) : Hp → V → Prop := fun N v => ∃ p, v = .ref p ∧ Bk K N p ls ∧ Cells N p ls
theorem ep_list {σ : L2.St} {H : Hp} {te : TE} {p : Addr} {xs : List V} (h : Ev te σ H (.ref p)) (hs : SqL K H p xs ∨ SqT K H p xs) : EvP (tCB (rListS K) (tCons te tNil)) σ H (pLst xs) := fun H1 e Q q =>
  h H1 e _ fun H2 e2 => ⟨p, xs, rfl, hs.imp (ex_l (e.trans e2)) (ex_t (e.trans e2)), fun l hl => q (.ref l) _ (sing l (.lst xs)) (e2.trans (Ex.new hl)) (sing_ex upd_same) (sing_fr (fresh_back e2 hl)) ⟨l, rfl, sing_at⟩⟩
/-- [list(line) for line in rows]; S: the slots with the row at hand -/
theorem ep_copy {σ : L2.St} {H : Hp} {tl : TE} {p : Addr} {ls : List (List Str)} {j : Nat} {vs : List Nat} (S : V → L2.St) (h : Ev tl σ H (.ref p)) (hB : Bk K H p ls) (hg : ∀ x, (wipe σ vs).set j (some x) = S x) (hw : ∀ x, wipe (S x) vs = wipe σ vs) (hj : ∀ x, (S x)[j]? = some (some x)) :
    EvP (tLc (iList K tl) (gName j) tYes (tCB (rListS K) (tCons (tVar j) tNil)) vs) σ H (pRows K ls) := by
  obtain ⟨xs, hS, hR⟩ := hB.rows
  have hl := hR.len
  have hl2 := hB.2.1
  refine ep_imp (ep_lc (n := xs.length) (fun i => S (xs.getD i .non)) (fun _ => true) (fun i N y => ∃ p, y = .ref p ∧ N p = some (.lst ((row1 ls i).map V.str))) (fun i N N' v e ⟨p, h3, h4⟩ => ⟨p, h3, e _ _ h4⟩) (ei_list h hS (Ex.refl _)) (Ex.refl _) (by omega) (fun i x H' _ hx Q q => by rw [getD_of hx, ← hg] at q; exact q) (fun _ _ => hw _) (fun _ _ _ _ => et_yes) (fun i H1 e hlt _ => ?_)) ?_
  · obtain ⟨q, hq, hL⟩ := hB.row hR (i := i) (by omega)
    rw [getD_of hq]
    exact ep_list (ev_var (hj _)) (.inl (ex_l e hL.1))
  · rintro N v ⟨p', ys, rfl, hp, hpr⟩
    rw [picks_all] at hpr
    have hly := Paired.length hpr
    rw [List.length_range] at hly
    suffices z : Paired (fun x l => ∃ q, x = V.ref q ∧ N q = some (.lst (l.map V.str))) ys ls by
      exact ⟨p', rfl, ⟨dp_book.mpr ⟨p', ys, rfl, sq_of hp, paired_imp (fun _ _ ⟨q, h1, h2⟩ => ⟨q, h1, sq_of h2⟩) z⟩, hB.2⟩, ys, hp, z⟩
    refine paired_of (by omega) fun i y l h1 h2 => ?_
    have hi : i < ls.length := (List.getElem?_eq_some_iff.mp h2).1
    obtain ⟨y', h3, p, h4, h5⟩ := paired_get hpr (i := i) (x := i) (List.getElem?_range (by omega))
    rw [h1] at h3
    cases h3
    rw [row1_get hi] at h2
    cases h2
    exact ⟨p, h4, h5⟩
theorem ok_Bookd__initd_ (B : Bt mg) {C_Book : Addr} (T : TBook K mg C_Book) (O_need_verses : Ok P w K mg base 3 "need_verses" ["verses"] ((R_need_verses K).sp mg)) (D : Dm K C_Book "__init__" "Book.__init__" s_Bookd__initd_ ["self", "verses"]) : OkM P w K mg base 4 C_Book "__init__" ["self", "verses"] ((R_Book K C_Book).spI mg C_Book) := by
  refine D.ok sc_Bookd__initd_ (fun vs H Q E h => ?_) (fun f cdv A outer s H vs Q E hr h => ?_)
  · obtain ⟨x, dx, us, G, r, rfl, _, _, _, _, ⟨v, ls, rfl, _⟩, _⟩ := h
    rfl
  · obtain ⟨x, dx, us, G, r, rfl, rfl, hx, hdx, hne, ⟨v, ls, rfl, hB, rfl⟩, k⟩ := h
    refine ⟨_, (pss_cons (ps_expr (pe_callO O_need_verses (hr.mono (by omega)) (by rfl) (takes_of rfl rfl rfl rfl) (pa_cons (pv 1) pa_nil)))
      (pss_one (ps_fldK K (pv 0) (pe_lc (own := [("line", 2)]) rfl sc_Bookd__initd_.nd (pi_listK K (pv 1)) (blkOk_by (N := ["self", "verses", "line"]) (sc := defScope s_Bookd__initd_) (by decide +kernel)) (fun _ _ _ _ _ => (pg_name (i := 2) sc_Bookd__initd_.nd rfl (.inl rfl))) (fun _ _ _ _ _ => pts_nil) (fun _ _ _ _ _ => (pe_callTy (call_listK K) (by rfl) B.list boot_ty_list (pa_cons (pv 2) pa_nil))))))), ?_⟩
    have o : Own [sing x (.ins C_Book dx []), G] _ := own_init hx hdx hne
    cases hn : needM ls with
    | some z =>
      obtain ⟨xn, fs⟩ := z
      have e : needR ls (pBook K C_Book ls) = .err xn fs := by unfold needR; rw [hn]
      rw [e] at k
      exact q_der (er_call (S := R_need_verses K) (by wtm_at "ev") ⟨v, ls, rfl, hB.mono o.e1, by unfold needR; rw [hn]⟩) (k.fwd o.e1)
    | none =>
      have e : needR ls (pBook K C_Book ls) = .ok (pBook K C_Book ls) := by unfold needR; rw [hn]
      rw [e] at k
      refine q_dv o (ep_call (S := R_need_verses K) (P := is .non) (by wtm_at "ev") ⟨v, ls, rfl, hB.mono o.e1, by unfold needR; rw [hn]⟩) fun H1 o => ?_
      refine s_fld (j := 0) o rfl (ev_var rfl) (ep_copy (fun x' => [some (.ref x), some (.ref v), some x']) (ev_var rfl) (hB.mono o.e1) (fun _ => rfl) (fun _ => rfl) (fun _ => rfl)) T.cl T.n_lines (by show 0 < 1000; decide) fun v2 H1 N o hp => ?_
      obtain ⟨p, rfl, hp, _⟩ := hp
      have o : Own [N, sing x (.ins C_Book dx [("lines", .ref p)]), G] H1 := o
      exact k H1 (uni (sing x (.ins C_Book dx [("lines", .ref p)])) N) o.e2 o.merge.e0 (o.merge.dj (i := 0) (j := 1) (by decide) rfl rfl) ⟨x, rfl, ⟨dx, p, uni_l (o.dj (i := 0) (j := 1) (by decide) rfl rfl) _ _ sing_at, hp.mono uni_r⟩, hn⟩
end
section
variable {P : Program} {w : World} {K : PySem.W.Frag} {mg : Str → Option Value} {base : Heap}
abbrev pLine (l : List Str) : Hp → V → Prop := pLst (l.map V.str)
def R_Book_many (K : PySem.W.Frag) (C : Addr) : Rl := ⟨fun vs H r => ∃ (b : Addr) (ls : List (List Str)), vs = [.ref b] ∧ BookAt K C H b ls ∧ r = .ok (is (.int (ls.length : Nat))), fun e ⟨b, ls, h1, h2, h3⟩ => ⟨b, ls, h1, h2.mono e, h3⟩⟩
theorem ok_Book_many (B : Bt mg) {C_Book : Addr} (T : TBook K mg C_Book) (D : Dm K C_Book "many" "Book.many" s_Book_many ["self"]) : OkM P w K mg base 1 C_Book "many" ["self"] ((R_Book_many K C_Book).sp mg) := by
  refine D.ok sc_Book_many (fun vs H Q E h => ?_) (fun f cdv A outer s H vs Q E hr h => ?_)
  · obtain ⟨r, ⟨b, ls, rfl, _⟩, _⟩ := h
    rfl
  · obtain ⟨r, ⟨b, ls, rfl, ⟨⟨dx, p, hb, hB⟩, hn⟩, rfl⟩, k⟩ := h
    refine ⟨_, (pss_one (ps_ret (pe_callB (call_lenK K) (by rfl) B.len boot_b_len (pa_cons (pe_fldK K (pv 0)) pa_nil)))), ?_⟩
    obtain ⟨xs, hS, hR⟩ := hB.rows
    refine s_rv (Own.one H) (ev_cb (ea_cons (ev_fld (ev_var rfl) hb T.cl T.n_lines rfl) ea_nil) (rc_lenL hS)) fun H1 o => o.retV k (j := 0) rfl ?_
    rw [hR.len]
def verseR (ls : List (List Str)) (i : Int) : Res := if 0 ≤ i ∧ i < ls.length then .ok (pLine (row1 ls i.toNat)) else .err "NoVerse" []
def R_Book_verse (K : PySem.W.Frag) (C : Addr) : Rl := ⟨fun vs H r => ∃ (b : Addr) (ls : List (List Str)) (i : Int), vs = [.ref b, .int i] ∧ BookAt K C H b ls ∧ r = verseR ls i, fun e ⟨b, ls, i, h1, h2, h3⟩ => ⟨b, ls, i, h1, h2.mono e, h3⟩⟩
theorem ok_Book_verse (B : Bt mg) {C_Book C_NoVerse : Addr} (T : TBook K mg C_Book) (X_NoVerse : Xc K mg "NoVerse" C_NoVerse) (D : Dm K C_Book "verse" "Book.verse" s_Book_verse ["self", "number"]) : OkM P w K mg base 1 C_Book "verse" ["self", "number"] ((R_Book_verse K C_Book).sp mg) := by
  refine D.ok sc_Book_verse (fun vs H Q E h => ?_) (fun f cdv A outer s H vs Q E hr h => ?_)
  · obtain ⟨r, ⟨b, ls, i, rfl, _⟩, _⟩ := h
    rfl
  · obtain ⟨r, ⟨b, ls, i, rfl, ⟨⟨dx, p, hb, hB⟩, hn⟩, rfl⟩, k⟩ := h
    refine ⟨_, (pss_cons (ps_if (pt_not (pt_chain op_le op_lt pe_int (pv 1) (pe_callB (call_lenK K) (by rfl) B.len boot_b_len (pa_cons (pe_fldK K (pv 0)) pa_nil))))
        (pss_one (ps_raise rfl (takes_of rfl rfl rfl rfl) (pmk_ex X_NoVerse (by rfl))))
        pss_nil)
      (pss_one (ps_ret (pe_callTy (call_listK K) (by rfl) B.list boot_ty_list (pa_cons (pe_ix (ix_seqK K) (pe_fldK K (pv 0)) (pv 1) (fun _ _ => rfl)) pa_nil))))), ?_⟩
    obtain ⟨xs, hS, hR⟩ := hB.rows
    have hl := hR.len
    refine q_wh (Own.one H) (et_not (et_test (ev_chain ev_c (ev_var rfl) (ev_cb (ea_cons (ev_fld (ev_var rfl) hb T.cl T.n_lines rfl) ea_nil) (rc_lenL hS))))) (fun h0 H1 o => ?_) (fun h0 H1 o => ?_)
    · have h0 : ¬ (0 ≤ i ∧ i < ls.length) := fun ⟨z1, z2⟩ => by
        rw [hl, decide_eq_true z1, decide_eq_true z2] at h0
        cases h0
      unfold verseR at k
      rw [if_neg h0] at k
      exact k H1 C_NoVerse none (o.ix (i := 0) rfl) X_NoVerse.g (.inl ⟨rfl, rfl⟩)
    · have h0 : 0 ≤ i ∧ i < ls.length := by
        rw [hl] at h0
        by_cases z1 : 0 ≤ i
        · by_cases z2 : i < ls.length
          · exact ⟨z1, z2⟩
          · rw [decide_eq_false z2, Bool.and_false] at h0
            cases h0
        · rw [decide_eq_false z1, Bool.false_and] at h0
          cases h0
      unfold verseR at k
      rw [if_pos h0] at k
      obtain ⟨n, rfl⟩ : ∃ n : Nat, i = n := ⟨i.toNat, by omega⟩
      obtain ⟨q, hq, hL⟩ := hB.row hR (i := n) (by omega)
      refine s_rn o (ep_list (K := K) (ev_op (ev_fld (ev_var rfl) (o.e0 _ _ hb) T.cl T.n_lines rfl) (ev_var rfl) (rv_ixLs (ex_l o.e0 hS) (atI_nat hq))) (.inl (ex_l o.e0 hL.1))) fun v H1 N o p => o.ret k (i := 0) (j := 1) rfl rfl p
def R_Book_verses (K : PySem.W.Frag) (C : Addr) : Rl := ⟨fun vs H r => ∃ (b : Addr) (ls : List (List Str)), vs = [.ref b] ∧ BookAt K C H b ls ∧ r = .ok (pRows K ls), fun e ⟨b, ls, h1, h2, h3⟩ => ⟨b, ls, h1, h2.mono e, h3⟩⟩
theorem ok_Book_verses (B : Bt mg) {C_Book : Addr} (T : TBook K mg C_Book) (D : Dm K C_Book "verses" "Book.verses" s_Book_verses ["self"]) : OkM P w K mg base 1 C_Book "verses" ["self"] ((R_Book_verses K C_Book).sp mg) := by
  refine D.ok sc_Book_verses (fun vs H Q E h => ?_) (fun f cdv A outer s H vs Q E hr h => ?_)
  · obtain ⟨r, ⟨b, ls, rfl, _⟩, _⟩ := h
    rfl
  · obtain ⟨r, ⟨b, ls, rfl, ⟨⟨dx, p, hb, hB⟩, hn⟩, rfl⟩, k⟩ := h
    refine ⟨_, (pss_one (ps_ret (pe_lc (own := [("line", 1)]) rfl sc_Book_verses.nd (pi_listK K (pe_fldK K (pv 0))) (blkOk_by (N := ["self", "line"]) (sc := defScope s_Book_verses) (by decide +kernel)) (fun _ _ _ _ _ => (pg_name (i := 1) sc_Book_verses.nd rfl (.inl rfl))) (fun _ _ _ _ _ => pts_nil) (fun _ _ _ _ _ => (pe_callTy (call_listK K) (by rfl) B.list boot_ty_list (pa_cons (pv 1) pa_nil)))))), ?_⟩
    exact s_rn (Own.one H) (ep_copy (fun x => [some (.ref b), some x]) (ev_fld (ev_var rfl) hb T.cl T.n_lines rfl) hB (fun _ => rfl) (fun _ => rfl) (fun _ => rfl)) fun v H1 N o p => o.ret k (i := 0) (j := 1) rfl rfl p
end
abbrev s__law_sound : Stmt := topS 47
theorem sc__law_sound : FnScope ["_law_number", "_law_letters", "_law_k"] ["_law_number"] (defScope s__law_sound) := ⟨rfl, rfl, rfl, by decide +kernel, rfl, by decide +kernel, by decide +kernel⟩
abbrev s__law_pool : Stmt := topS 48
theorem sc__law_pool : FnScope ["_law_d", "_law_k"] ["_law_d"] (defScope s__law_pool) := ⟨rfl, rfl, rfl, by decide +kernel, rfl, by decide +kernel, by decide +kernel⟩
abbrev s__law_alike : Stmt := topS 49
theorem sc__law_alike : FnScope ["_law_one", "_law_other", "_law_size"] ["_law_one", "_law_other"] (defScope s__law_alike) := ⟨rfl, rfl, rfl, by decide +kernel, rfl, by decide +kernel, by decide +kernel⟩
section
variable {P : Program} {w : World} {K : PySem.W.Frag} {mg : Str → Option Value} {base : Heap}
theorem LT_lt {c : Nat} (h : c ∈ LT) : c < 128 := by
  have z : LT.all (fun c => decide (c < 128)) = true := by decide +kernel
  exact of_decide_eq_true (List.all_eq_true.mp z c h)
theorem syl_ok {s : Str} (h : isSyl s = true) : TxtOk s := by
  unfold isSyl at h
  simp only [Bool.and_eq_true, decide_eq_true_eq, List.all_eq_true] at h
  exact ⟨by omega, fun c hc => LT_lt (h.2 c hc)⟩
theorem join1 (a : Nat) : Txt.join ("" : Str) [⟨#[a]⟩] = ⟨#[a]⟩ := by rw [TL.join_eq]; rfl
theorem join2 (a b : Nat) : Txt.join ("" : Str) [⟨#[a]⟩, ⟨#[b]⟩] = ⟨#[a, b]⟩ := by rw [TL.join_eq]; rfl
theorem join3 (a b c : Nat) : Txt.join ("" : Str) [⟨#[a]⟩, ⟨#[b]⟩, ⟨#[c]⟩] = ⟨#[a, b, c]⟩ := by rw [TL.join_eq]; rfl
abbrev pStr (C : Str → Prop) : Hp → V → Prop := fun _ v => ∃ s, v = .str s ∧ C s
def R__law_sound : Rl := ⟨fun vs _ r => ∃ n : Int, vs = [.int n] ∧ 0 ≤ n ∧ n < 10000 ∧ r = .ok (pStr fun s => isSyl s = true), fun _ h => h⟩
def soundC (n : Int) (k : Int) : Nat := LT.getD ((n / 3 + k * (n / 79)) % 26).toNat 0
theorem sound_at (n k : Int) : atI LT ((n / 3 + k * (n / 79)) % 26) = some (soundC n k) ∧ soundC n k ∈ LT := by
  have h0 : 0 ≤ (n / 3 + k * (n / 79)) % 26 := Int.emod_nonneg _ (by decide)
  have h1 : (n / 3 + k * (n / 79)) % 26 < 26 := Int.emod_lt_of_pos _ (by decide)
  unfold soundC
  generalize (n / 3 + k * (n / 79)) % 26 = z at *
  obtain ⟨m, rfl⟩ : ∃ m : Nat, z = m := ⟨z.toNat, by omega⟩
  have hl : LT.length = 26 := by decide +kernel
  have hm : m < LT.length := by omega
  have e : LT.getD m 0 = LT[m] := by rw [List.getD_eq_getElem?_getD, List.getElem?_eq_getElem hm]; rfl
  rw [show ((m : Nat) : Int).toNat = m from rfl, e]
  exact ⟨atI_nat (List.getElem?_eq_getElem hm), List.getElem_mem hm⟩
theorem isSyl_of {l : List Nat} (h1 : 1 ≤ l.length) (h3 : l.length ≤ 3) (h : ∀ c ∈ l, c ∈ LT) : isSyl ⟨l.toArray⟩ = true := by
  unfold isSyl
  have e : (⟨l.toArray⟩ : Str).length = l.length := by simp [Str.length]
  rw [e]
  simp only [Bool.and_eq_true, decide_eq_true_eq, List.all_eq_true]
  exact ⟨⟨by omega, by omega⟩, fun c hc => h c (by simpa using hc)⟩
theorem mt_join_ev {σ : L2.St} {H : Hp} {te : TE} {ys : List Str} {a : Str} (h : EvL te σ H (ys.map V.str)) (hz : (ys.map (·.length)).sum + ys.length * a.length ≤ 16777216) : Ev (tBM K "str" (rJoin K) (tC (.str a)) (tCons te tNil)) σ H (.str (Txt.join a ys)) := fun H1 e Q q =>
  ⟨rfl, h H1 e _ fun p H2 hp e2 h2 => ⟨a, p, ys, rfl, rfl, .inl (sq_of h2), hz, q H2 e2⟩⟩
theorem ok__law_sound (B : Bt mg) (D : Df K mg "_law_sound" s__law_sound ["_law_number"]) : Ok P w K mg base 1 "_law_sound" ["_law_number"] (R__law_sound.sp mg) := by
  refine D.ok sc__law_sound (fun vs H Q E h => ?_) (fun f cdv A outer s H vs Q E hr h => ?_)
  · obtain ⟨r, ⟨n, rfl, _⟩, _⟩ := h
    rfl
  · obtain ⟨r, ⟨n, rfl, h0, h1, rfl⟩, k⟩ := h
    refine ⟨_, (pss_cons (ps_set (i := 1) sc__law_sound.nd rfl (.inr rfl) pe_str)
      (pss_one (ps_ret (pe_bmK K PySem.F.plainAttrs_str PySem.F.slot_str_join PySem.F.type_str_join (mt_joinK K) pe_str (pa_cons (pe_lc (own := [("_law_k", 2)]) rfl sc__law_sound.nd (pi_range1 (by rfl) B.range (pa_cons (pe_op (op_addK K) pe_int (pe_op op_mod (pv 0) pe_int)) pa_nil)) (blkOk_by (N := ["_law_number", "_law_letters", "_law_k"]) (sc := defScope s__law_sound) (by decide +kernel)) (fun _ _ _ _ _ => (pg_name (i := 2) sc__law_sound.nd rfl (.inl rfl))) (fun _ _ _ _ _ => pts_nil) (fun _ _ _ _ _ => (pe_ix (ix_seqK K) (pv 1) (pe_op op_mod (pe_op (op_addK K) (pe_op op_fdiv (pv 0) pe_int) (pe_op op_mulU (pv 2) (pe_op op_fdiv (pv 0) pe_int))) pe_int) (fun _ _ => rfl)))) pa_nil))))), ?_⟩
    refine q_v (Own.one H) ev_c fun H1 o => ?_
    have hnn : -100 ≤ n / 79 ∧ n / 79 ≤ 1000 := by omega
    have hm : n % 3 = 0 ∨ n % 3 = 1 ∨ n % 3 = 2 := by omega
    have fin : isSyl (Txt.join ("" : Str) ((List.range (1 + n % 3).toNat).map fun i => (⟨#[soundC n (i : Nat)]⟩ : Str))) = true ∧ (((List.range (1 + n % 3).toNat).map fun i => (⟨#[soundC n (i : Nat)]⟩ : Str)).map (·.length)).sum ≤ 3 ∧ ((List.range (1 + n % 3).toNat).map fun i => (⟨#[soundC n (i : Nat)]⟩ : Str)).length ≤ 3 := by
      have m : ∀ k : Int, soundC n k ∈ LT := fun k => (sound_at n k).2
      rcases hm with hm | hm | hm
      · rw [hm]
        refine ⟨?_, Nat.le_of_ble_eq_true rfl, Nat.le_of_ble_eq_true rfl⟩
        show isSyl (Txt.join ("" : Str) [⟨#[soundC n 0]⟩]) = true
        rw [join1]
        exact isSyl_of (l := [_]) (Nat.le_of_ble_eq_true rfl) (Nat.le_of_ble_eq_true rfl) (by simp [m])
      · rw [hm]
        refine ⟨?_, Nat.le_of_ble_eq_true rfl, Nat.le_of_ble_eq_true rfl⟩
        show isSyl (Txt.join ("" : Str) [⟨#[soundC n 0]⟩, ⟨#[soundC n 1]⟩]) = true
        rw [join2]
        exact isSyl_of (l := [_, _]) (Nat.le_of_ble_eq_true rfl) (Nat.le_of_ble_eq_true rfl) (by simp [m])
      · rw [hm]
        refine ⟨?_, Nat.le_of_ble_eq_true rfl, Nat.le_of_ble_eq_true rfl⟩
        show isSyl (Txt.join ("" : Str) [⟨#[soundC n 0]⟩, ⟨#[soundC n 1]⟩, ⟨#[soundC n 2]⟩]) = true
        rw [join3]
        exact isSyl_of (l := [_, _, _]) (Nat.le_of_ble_eq_true rfl) (Nat.le_of_ble_eq_true rfl) (by simp [m])
    refine s_rv o (mt_join_ev (ys := (List.range (1 + n % 3).toNat).map fun i => (⟨#[soundC n (i : Nat)]⟩ : Str)) (el_is (el_lcX (fun x => [some (.int n), some (.str "abcdefghijklmnopqrstuvwxyz"), some x]) (fun _ => true) (fun x => match x with | .int i => .str ⟨#[soundC n i]⟩ | _ => .non) (ei_rngX (G := H1) (by wtm_at "ev") (by omega)) (Ex.refl _) (by rw [rngV_len]; omega) (fun _ _ _ _ q => q) (fun _ => rfl) (fun _ _ _ _ => et_yes) ?_) ?_) ?_) fun H1 o => o.retV k (j := 0) rfl ⟨_, rfl, fin.1⟩
    · intro x H2 e2 hx _
      obtain ⟨i, hi, rfl⟩ := List.mem_map.mp hx
      have hi := List.mem_range.mp hi
      exact ev_op (ev_var rfl) (by wtm_at "ev") (rv_ixSs (by decide) (sound_at n (i : Nat)).1)
    · rw [filter_all]
      unfold rngV
      rw [List.map_map, List.map_map]
      rfl
    · have h2 := fin.2.1
      have h3 : ("" : Str).length = 0 := by decide +kernel
      rw [h3]
      omega
/-- drawn numbers at p -/
def Nm (K : PySem.W.Frag) (H : Hp) (p : Addr) (ns : List Int) : Prop := SqL K H p (ns.map V.int) ∧ ∀ n ∈ ns, 0 ≤ n ∧ n < 9967
theorem Nm.mono {H H' : Hp} {p : Addr} {ns : List Int} (e : Ex H H') (h : Nm K H p ns) : Nm K H' p ns := ⟨ex_l e h.1, h.2⟩
theorem strs_of {C : Str → Prop} {α : Type} : ∀ {xs : List α} {ys : List V}, Paired (fun _ y => ∃ s, y = V.str s ∧ C s) xs ys → ∃ l : List Str, ys = l.map V.str ∧ l.length = xs.length ∧ ∀ s ∈ l, C s
  | _, _, .nil => ⟨[], rfl, rfl, fun _ h => nomatch h⟩
  | _, _, .cons ⟨s, e, h⟩ r => by
    obtain ⟨l, e2, h2, h3⟩ := strs_of r
    subst e e2
    exact ⟨s :: l, rfl, by simp [h2], fun t ht => by
      rcases List.mem_cons.mp ht with z | z
      · rw [z]; exact h
      · exact h3 t z⟩
abbrev pPool (n : Nat) : Hp → V → Prop := fun N v => ∃ (p : Addr) (l : List Str), v = .ref p ∧ N p = some (.lst (l.map V.str)) ∧ l.length = n ∧ ∀ s ∈ l, isSyl s = true
def R__law_pool (K : PySem.W.Frag) : Rl := ⟨fun vs H r => ∃ (p : Addr) (ns : List Int), vs = [.ref p] ∧ Nm K H p ns ∧ 7 ≤ ns.length ∧ r = .ok (pPool 6), fun e ⟨p, ns, h1, h2, h3⟩ => ⟨p, ns, h1, h2.mono e, h3⟩⟩
theorem atI_map {ns : List Int} {j : Nat} (h : j < ns.length) : atI (ns.map V.int) (j : Int) = some (V.int ns[j]) := atI_nat (by rw [List.getElem?_map, List.getElem?_eq_getElem h]; rfl)
theorem ok__law_pool (B : Bt mg) (O__law_sound : Ok P w K mg base 1 "_law_sound" ["_law_number"] (R__law_sound.sp mg)) (D : Df K mg "_law_pool" s__law_pool ["_law_d"]) : Ok P w K mg base 2 "_law_pool" ["_law_d"] ((R__law_pool K).sp mg) := by
  refine D.ok sc__law_pool (fun vs H Q E h => ?_) (fun f cdv A outer s H vs Q E hr h => ?_)
  · obtain ⟨r, ⟨p, ns, rfl, _⟩, _⟩ := h
    rfl
  · obtain ⟨r, ⟨p, ns, rfl, ⟨hS, hall⟩, hl, rfl⟩, k⟩ := h
    refine ⟨_, (pss_cons (ps_if (pt_cmpR (op_eqK K (hu65 hr)) (pe_op op_mod (pe_ix (ix_seqK K) (pv 0) pe_int (fun _ _ => rfl)) pe_int) pe_int (nomark _))
        (pss_one (ps_ret (pe_lst (pa_cons pe_str (pa_cons pe_str (pa_cons pe_str (pa_cons pe_str (pa_cons pe_str (pa_cons pe_str pa_nil)))))))))
        pss_nil)
      (pss_cons (ps_if (pt_cmpR (op_eqK K (hu65 hr)) (pe_op op_mod (pe_ix (ix_seqK K) (pv 0) pe_int (fun _ _ => rfl)) pe_int) pe_int (nomark _))
        (pss_one (ps_ret (pe_lst (pa_cons pe_str (pa_cons pe_str (pa_cons pe_str (pa_cons pe_str (pa_cons pe_str (pa_cons pe_str pa_nil)))))))))
        pss_nil)
      (pss_one (ps_ret (pe_lc (own := [("_law_k", 1)]) rfl sc__law_pool.nd (pi_range2 (by rfl) B.range (pa_cons pe_int (pa_cons pe_int pa_nil))) (blkOk_by (N := ["_law_d", "_law_k"]) (sc := defScope s__law_pool) (by decide +kernel)) (fun _ _ _ _ _ => (pg_name (i := 1) sc__law_pool.nd rfl (.inl rfl))) (fun _ _ _ _ _ => pts_nil) (fun _ _ _ _ _ => (pe_callO O__law_sound (hr.mono (by omega)) (by rfl) takes0 (pa_cons (pe_ix (ix_seqK K) (pv 0) (pv 1) (fun _ _ => rfl)) pa_nil)))))))), ?_⟩
    have a0 := atI_map (ns := ns) (j := 0) (by omega)
    refine q_wh (Own.one H) (by wtm_at "ev") (fun hb H1 o => ?_) (fun hb H1 o => ?_)
    · exact s_rn o (ep_lst (by wtm_at "ev")) fun v H1 N o ⟨q, e, hq⟩ => o.ret k (i := 0) (j := 1) rfl rfl ⟨q, ["a", "b", "ab", "ba", "aa", "bab"], e, hq, rfl, by decide +kernel⟩
    · refine q_wh o (by wtm_at "ev") (fun hb H1 o => ?_) (fun hb H1 o => ?_)
      · exact s_rn o (ep_lst (by wtm_at "ev")) fun v H1 N o ⟨q, e, hq⟩ => o.ret k (i := 0) (j := 1) rfl rfl ⟨q, ["ka", "ki", "k", "i", "kik", "ma"], e, hq, rfl, by decide +kernel⟩
      · refine s_rn o (ep_lcX (fun x => [some (.ref p), some x]) (fun _ => true) (fun x N v => ∃ s, v = .str s ∧ isSyl s = true) (fun _ _ _ _ _ h => h) (ei_rngX2 (G := H1) (by wtm_at "ev") (by decide) (by decide)) (Ex.refl _) (by rw [rngV2_len]; decide) (fun _ _ _ _ q => q) (fun _ => rfl) (fun _ _ _ _ => et_yes) ?_) fun v H1 N o hp => o.ret k (i := 0) (j := 1) rfl rfl ?_
        · intro x H2 e2 hx _
          obtain ⟨i, hi, rfl⟩ := List.mem_map.mp hx
          have hi : i < 6 := List.mem_range.mp hi
          have hi1 : 1 + i < ns.length := by omega
          have ai : atI (ns.map V.int) (1 + ((i : Nat) : Int)) = some (V.int ns[1 + i]) := atI_map (j := 1 + i) hi1
          have hn := hall _ (List.getElem_mem hi1)
          exact ep_call (S := R__law_sound) (vs := [.int ns[1 + i]]) (ea_cons (ev_op (ev_var rfl) (ev_var rfl) (rv_ixLs (ex_l (o.e0.trans e2) hS) ai)) ea_nil) ⟨_, rfl, hn.1, by omega, rfl⟩
        · obtain ⟨q, ys, rfl, hq, hpr⟩ := hp
          obtain ⟨l, rfl, h2, h3⟩ := strs_of hpr
          rw [filter_all, rngV2_len] at h2
          exact ⟨q, l, rfl, hq, h2, h3⟩
theorem take_min (a b : List Str) : decide (a.take (min a.length b.length) = b.take (min a.length b.length)) = alikeM a b := by
  unfold alikeM begM
  rcases Nat.le_total a.length b.length with h | h
  · rw [Nat.min_eq_left h, List.take_length]
    by_cases h2 : b.take a.length = a
    · rw [decide_eq_true h2.symm, decide_eq_true h2]; rfl
    · rw [decide_eq_false (fun z => h2 z.symm), decide_eq_false h2, Bool.false_or, Eq.comm]
      refine decide_eq_false fun z => ?_
      have hl : b.length ≤ a.length := by
        have := congrArg List.length z
        rw [List.length_take] at this
        omega
      have e : a.length = b.length := by omega
      rw [← e, List.take_length] at z
      exact h2 (by rw [e, List.take_length]; exact z.symm)
  · rw [Nat.min_eq_right h, List.take_length]
    by_cases h2 : a.take b.length = b
    · rw [decide_eq_true h2, Bool.or_true]
    · rw [decide_eq_false h2, Bool.or_false, Eq.comm]
      refine decide_eq_false fun z => ?_
      have hl : a.length ≤ b.length := by
        have := congrArg List.length z
        rw [List.length_take] at this
        omega
      have e : a.length = b.length := by omega
      rw [e, List.take_length] at z
      exact h2 (by rw [← e, List.take_length]; exact z.symm)
theorem rc_min2 {H : Hp} {i j : Int} : RC (fun xs H Q => ∃ i j, xs = [.int i, .int j] ∧ Q (.int (if j < i then j else i)) H) [.int i, .int j] H (.int (min i j)) := fun H1 _ _ q => ⟨i, j, rfl, by
  have e : (if j < i then j else i) = min i j := by
    split <;> omega
  rw [e]
  exact q H1 (Ex.refl H1)⟩
theorem ok__law_alike (B : Bt mg) (D : Df K mg "_law_alike" s__law_alike ["_law_one", "_law_other"]) : Ok P w K mg base 1 "_law_alike" ["_law_one", "_law_other"] ((R_alike K).sp mg) := by
  refine D.ok sc__law_alike (fun vs H Q E h => ?_) (fun f cdv A outer s H vs Q E hr h => ?_)
  · obtain ⟨r, ⟨p, q, h, l, rfl, _⟩, _⟩ := h
    rfl
  · obtain ⟨r, ⟨p, q, h, l, rfl, ⟨h1, hl1, ht1⟩, ⟨h2, hl2, ht2⟩, rfl⟩, k⟩ := h
    refine ⟨_, (pss_cons (ps_set (i := 2) sc__law_alike.nd rfl (.inl rfl) (pe_callB (call_min2 rfl) (by rfl) B.min boot_b_min (pa_cons (pe_callB (call_lenK K) (by rfl) B.len boot_b_len (pa_cons (pv 0) pa_nil)) (pa_cons (pe_callB (call_lenK K) (by rfl) B.len boot_b_len (pa_cons (pv 1) pa_nil)) pa_nil))))
      (pss_one (ps_ret (pe_cmpR (op_eqK K (hu65 hr)) (pe_slice (sl_K K) (pv 0) po_none (po_some (pv 2))) (pe_slice (sl_K K) (pv 1) po_none (po_some (pv 2))) (nomark _))))), ?_⟩
    refine q_v (Own.one H) (ev_cb (ea_cons (ev_cb (by wtm_at "ev") (rc_lenL h1)) (ea_cons (ev_cb (by wtm_at "ev") (rc_lenL h2)) ea_nil)) rc_min2) fun H1 o => ?_
    have e : min (((h.map V.str).length : Nat) : Int) (((l.map V.str).length : Nat) : Int) = ((min h.length l.length : Nat) : Int) := by
      rw [List.length_map, List.length_map]
      omega
    rw [e]
    refine s_rv o (ev_opN (ep_l (el_sl' (ev_var rfl) eo_none (eo_some (ev_var rfl)) (ex_l o.e0 h1))) (ep_l (el_sl' (ev_var rfl) eo_none (eo_some (ev_var rfl)) (ex_l o.e0 h2))) ?_) fun H1 o => o.retV k (j := 0) rfl rfl
    rintro v1 v2 N1 N2 H2 e2 i1 i2 ⟨c1, rfl, g1⟩ ⟨c2, rfl, g2⟩
    rw [cut_line] at g1 g2
    have z := rv_eqD (K := K) (H := H2) (dp_line.mpr ⟨c1, rfl, sq_of (i1 _ _ g1)⟩) (dp_line.mpr ⟨c2, rfl, sq_of (i2 _ _ g2)⟩) (shaped_line fun s hs => ht1 s (List.mem_of_mem_take hs)) (shaped_line fun s hs => ht2 s (List.mem_of_mem_take hs))
    rw [eqv_line, take_min] at z
    exact z
end
abbrev s__law_verse : Stmt := topS 50
theorem sc__law_verse : FnScope ["_law_verses", "_law_pool_here", "_law_d", "_law_line", "_law_ahead", "_law_k"] ["_law_verses", "_law_pool_here", "_law_d"] (defScope s__law_verse) := ⟨rfl, rfl, rfl, by decide +kernel, rfl, by decide +kernel, by decide +kernel⟩
abbrev s__law_wide : Stmt := topS 51
theorem sc__law_wide : FnScope ["_law_d", "_law_size", "_law_verses", "_law_k", "_law_at", "_law_line"] ["_law_d", "_law_size"] (defScope s__law_wide) := ⟨rfl, rfl, rfl, by decide +kernel, rfl, by decide +kernel, by decide +kernel⟩
abbrev s__law_book : Stmt := topS 52
theorem sc__law_book : FnScope ["_law_d", "_law_most", "_law_pool_here", "_law_verses", "_law_k", "_law_line", "_law_one"] ["_law_d", "_law_most"] (defScope s__law_book) := ⟨rfl, rfl, rfl, by decide +kernel, rfl, by decide +kernel, by decide +kernel⟩
abbrev s__law_copy : Stmt := topS 53
theorem sc__law_copy : FnScope ["_law_rows", "_law_row"] ["_law_rows"] (defScope s__law_copy) := ⟨rfl, rfl, rfl, by decide +kernel, rfl, by decide +kernel, by decide +kernel⟩
section
variable {P : Program} {w : World} {K : PySem.W.Frag} {mg : Str → Option Value} {base : Heap}
theorem cutV_mid {xs : List V} (a b : Nat) (h : a ≤ b) : cutV xs (some (a : Int)) (some (b : Int)) = (xs.drop a).take (b - a) := by
  unfold cutV
  rw [HT.sIx_nat, HT.sIx_nat]
  by_cases h1 : a ≤ xs.length
  · rw [Nat.min_eq_left h1]
    by_cases h2 : b ≤ xs.length
    · rw [Nat.min_eq_left h2]
    · rw [Nat.min_eq_right (by omega)]
      have e1 : (xs.drop a).take (xs.length - a) = xs.drop a := List.take_of_length_le (by rw [List.length_drop]; omega)
      have e2 : (xs.drop a).take (b - a) = xs.drop a := List.take_of_length_le (by rw [List.length_drop]; omega)
      rw [e1, e2]
  · rw [Nat.min_eq_right (show xs.length ≤ a by omega), Nat.min_eq_right (show xs.length ≤ b by omega), List.drop_length, List.drop_of_length_le (by omega)]
    simp
theorem cut_mid (ns : List Int) (a b : Nat) (h : a ≤ b) : cutV (ns.map V.int) (some (a : Int)) (some (b : Int)) = ((ns.drop a).take (b - a)).map V.int := by rw [cutV_mid a b h, List.map_take, List.map_drop]
abbrev pVer : Hp → V → Prop := fun N v => ∃ (p : Addr) (l : List Str), v = .ref p ∧ N p = some (.lst (l.map V.str)) ∧ isVer l = true
def SylL (l : List Str) : Prop := ∀ s ∈ l, isSyl s = true
theorem isVer_iff {l : List Str} : isVer l = true ↔ 1 ≤ l.length ∧ l.length ≤ 8 ∧ SylL l := by
  unfold isVer SylL
  simp only [Bool.and_eq_true, decide_eq_true_eq, List.all_eq_true]
  constructor
  · rintro ⟨⟨h1, h2⟩, h3⟩
    exact ⟨by omega, by omega, h3⟩
  · rintro ⟨h1, h2, h3⟩
    exact ⟨⟨by omega, by omega⟩, h3⟩
/-- rows that are verses, at v; ps: where the rows lie -/
def Vs (K : PySem.W.Frag) (H : Hp) (v : Addr) (ls : List (List Str)) : Prop := Bk K H v ls ∧ ∀ l ∈ ls, isVer l = true
theorem Vs.mono {H H' : Hp} {v : Addr} {ls : List (List Str)} (e : Ex H H') (h : Vs K H v ls) : Vs K H' v ls := ⟨h.1.mono e, h.2⟩
def R__law_verse (K : PySem.W.Frag) : Rl := ⟨fun vs H r => ∃ (v p q : Addr) (ls : List (List Str)) (pool : List Str) (ns : List Int), vs = [.ref v, .ref p, .ref q] ∧ Vs K H v ls ∧ SqL K H p (pool.map V.str) ∧ 1 ≤ pool.length ∧ pool.length ≤ 1000 ∧ SylL pool ∧ Nm K H q ns ∧ 6 ≤ ns.length ∧ r = .ok pVer,
  fun e ⟨v, p, q, ls, pool, ns, h1, h2, h3, h4, h5, h6, h7, h8⟩ => ⟨v, p, q, ls, pool, ns, h1, h2.mono e, ex_l e h3, h4, h5, h6, h7.mono e, h8⟩⟩
theorem eqv_book_nil (ls : List (List Str)) : PyData.eqv (eBook ls) (.list []) = decide (ls = []) := by
  have h := eqv_book ls []
  exact h
theorem ok__law_verse (B : Bt mg) (D : Df K mg "_law_verse" s__law_verse ["_law_verses", "_law_pool_here", "_law_d"]) : Ok P w K mg base 1 "_law_verse" ["_law_verses", "_law_pool_here", "_law_d"] ((R__law_verse K).sp mg) := by
  refine D.ok sc__law_verse (fun vs H Q E h => ?_) (fun f cdv A outer s H vs Q E hr h => ?_)
  · obtain ⟨r, ⟨v, p, q, ls, pool, ns, rfl, _⟩, _⟩ := h
    rfl
  · obtain ⟨r, ⟨v, p, q, ls, pool, ns, rfl, ⟨hB, hV⟩, hP, hp1, hp2, hsyl, ⟨hN, hall⟩, hl, rfl⟩, k⟩ := h
    refine ⟨_, (pss_cons (ps_set (i := 3) sc__law_verse.nd rfl (.inl rfl) (pe_lst pa_nil))
      (Evl.pss_cut (ps_if (PW.pt (pw_and (pt_cmpR (op_neK K (hu65 hr)) (pv 0) (pe_lst pa_nil) (nomark _)) (pw_and1 (pt_cmpR op_gt (pe_op op_mod (pe_ix (ix_seqK K) (pv 2) pe_int (fun _ _ => rfl)) pe_int) pe_int (nomark _)))))
        (pss_cons (ps_set (i := 4) sc__law_verse.nd rfl (.inl rfl) (pe_ix (ix_seqK K) (pv 0) (pe_op op_mod (pe_ix (ix_seqK K) (pv 2) pe_int (fun _ _ => rfl)) (pe_callB (call_lenK K) (by rfl) B.len boot_b_len (pa_cons (pv 0) pa_nil))) (fun _ _ => rfl)))
        (pss_one (ps_set (i := 3) sc__law_verse.nd rfl (.inl rfl) (pe_slice (sl_K K) (pv 4) po_none (po_some (pe_op op_mod (pe_op op_fdiv (pe_ix (ix_seqK K) (pv 2) pe_int (fun _ _ => rfl)) pe_int) (pe_op (op_addK K) (pe_callB (call_lenK K) (by rfl) B.len boot_b_len (pa_cons (pv 4) pa_nil)) pe_int)))))))
        pss_nil)
      (pss_cons (ps_set (i := 3) sc__law_verse.nd rfl (.inl rfl) (pe_op (op_addK K) (pv 3) (pe_lc (own := [("_law_k", 5)]) rfl sc__law_verse.nd (pi_range1 (by rfl) B.range (pa_cons (pe_op (op_addK K) pe_int (pe_op op_mod (pe_ix (ix_seqK K) (pv 2) pe_int (fun _ _ => rfl)) pe_int)) pa_nil)) (blkOk_by (N := ["_law_verses", "_law_pool_here", "_law_d", "_law_line", "_law_ahead", "_law_k"]) (sc := defScope s__law_verse) (by decide +kernel)) (fun _ _ _ _ _ => (pg_name (i := 5) sc__law_verse.nd rfl (.inl rfl))) (fun _ _ _ _ _ => pts_nil) (fun _ _ _ _ _ => (pe_ix (ix_seqK K) (pv 1) (pe_op op_mod (pe_ix (ix_seqK K) (pv 2) (pe_op (op_addK K) pe_int (pv 5)) (fun _ _ => rfl)) (pe_callB (call_lenK K) (by rfl) B.len boot_b_len (pa_cons (pv 1) pa_nil))) (fun _ _ => rfl))))))
      (pss_one (ps_ret (pe_slice (sl_K K) (pv 3) po_none (po_some pe_int))))))), ?_⟩
    have a0 := atI_map (ns := ns) (j := 0) (by omega)
    have a1 := atI_map (ns := ns) (j := 1) (by omega)
    have a2 := atI_map (ns := ns) (j := 2) (by omega)
    have n0 := hall _ (List.getElem_mem (show 0 < ns.length by omega))
    have n1 := hall _ (List.getElem_mem (show 1 < ns.length by omega))
    obtain ⟨xs, hS, hR⟩ := hB.rows
    have hlen := hR.len
    have hl2 := hB.2.1
    refine q_l (Own.one H) (by wtm_at "ev") fun l0 H1 o => ?_
    refine q_cut (M := fun σ H' => ∃ l y4 N line, σ = [some (.ref v), some (.ref p), some (.ref q), some (.ref l), y4, none] ∧ Own [N, H] H' ∧ N l = some (.lst (line.map V.str)) ∧ line.length ≤ 8 ∧ SylL line) ?_ ?_
    · have hne : EvT (tTest (tOp (rNeU K) (tVar 0) (tLst tNil))) [some (.ref v), some (.ref p), some (.ref q), some (.ref l0), none, none] H1 (!decide (ls = [])) := et_test (ev_opN (ep_v (ev_var rfl)) (ep_lst ea_nil) fun v1 v2 N1 N2 H2 e2 i1 i2 hv1 ⟨c, hc, g⟩ => by
        have hv1 : v1 = .ref v := hv1
        subst hv1 hc
        have z := rv_neD (K := K) (H := H2) (dp_mono (o.e1.trans e2) hB.1) (Dp.lst (sq_of (i2 _ _ g)) .nil) (shaped_book fun l hl s hs => (hB.2.2 l hl).2 s hs) (by decide)
        rw [eqv_book_nil] at z
        exact z)
      refine s_wh o (et_and hne fun _ => by wtm_at "ev") (fun hb H1 o => ?_) (fun hb H1 o => ⟨l0, _, _, [], rfl, o, sing_at, by simp, fun _ h => nomatch h⟩)
      have hb1 : ls ≠ [] := by
        rw [Bool.and_eq_true] at hb
        simpa using hb.1
      have hpos : 0 < ls.length := List.length_pos_iff.mpr hb1
      -- ahead = verses[d[1] % len(verses)]
      obtain ⟨i, hi⟩ : ∃ i : Nat, ns[1] % ((xs.length : Nat) : Int) = i := ⟨(ns[1] % ((xs.length : Nat) : Int)).toNat, by have := Int.emod_nonneg ns[1] (show ((xs.length : Nat) : Int) ≠ 0 by omega); omega⟩
      have hi2 : i < ls.length := by
        have := Int.emod_lt_of_pos ns[1] (show 0 < ((xs.length : Nat) : Int) by omega)
        omega
      obtain ⟨c, hc, hL⟩ := hB.row hR hi2
      have hv := isVer_iff.mp (hV _ (row1_mem hi2))
      have hS1 := ex_l o.e1 hS
      have hN1 := ex_l o.e1 hN
      refine q_v (v := .ref c) o (ev_op (ev_var rfl) (ev_is (ev_op (ev_op (ev_var rfl) ev_c (rv_ixLs hN1 a1)) (ev_cb (by wtm_at "ev") (rc_lenL hS1)) (rv_I (show (0 : Int) < _ by omega))) (by rw [hi])) (rv_ixLs hS1 (atI_nat hc))) fun H1 o => ?_
      have hL1 := ex_l o.e1 hL.1
      have hN1 := ex_l o.e1 hN
      obtain ⟨m, hm⟩ : ∃ m : Nat, (ns[0] / 4) % ((((row1 ls i).map V.str).length : Nat) + 1 : Int) = m := ⟨((ns[0] / 4) % ((((row1 ls i).map V.str).length : Nat) + 1 : Int)).toNat, by have := Int.emod_nonneg (ns[0] / 4) (show ((((row1 ls i).map V.str).length : Nat) + 1 : Int) ≠ 0 by omega); omega⟩
      refine s_n (P := pLst (((row1 ls i).take m).map V.str)) o (ep_imp (ep_l (el_sl' (ev_var rfl) eo_none (eo_some (ev_is (ev_op (ev_op (ev_op (ev_var rfl) ev_c (rv_ixLs hN1 a0)) ev_c (rv_I ⟨by decide, by decide⟩)) (ev_op (ev_cb (by wtm_at "ev") (rc_lenL hL1)) ev_c rv_addI) (rv_I (show (0 : Int) < _ by omega))) (by rw [hm]))) hL1)) fun N v h => by rw [cut_line] at h; exact h) fun v2 H1 N o hp => ?_
      obtain ⟨c2, rfl, hc2⟩ := hp
      exact ⟨c2, _, N, (row1 ls i).take m, rfl, ⟨o.1, fun M hM => o.2.1 M (List.mem_cons_of_mem _ hM), o.2.2.2.2⟩, hc2, by rw [List.length_take]; omega, fun s hs => hv.2.2 s (List.mem_of_mem_take hs)⟩
    · rintro σ H2 ⟨l, y4, N, line, rfl, o, hl1, hl8, hsl⟩
      have n2 := hall _ (List.getElem_mem (show 2 < ns.length by omega))
      -- line + [pool[d[3 + k] % len(pool)] for k in range(1 + d[2] % 3)]
      refine q_n (P := fun N v => ∃ (c : Addr) (more : List Str), v = .ref c ∧ N c = some (.lst ((line ++ more).map V.str)) ∧ 1 ≤ more.length ∧ more.length ≤ 3 ∧ SylL more) o (ep_cat (xs := line.map V.str) (P2 := fun N v => ∃ (c : Addr) (more : List Str), v = .ref c ∧ N c = some (.lst (more.map V.str)) ∧ 1 ≤ more.length ∧ more.length ≤ 3 ∧ SylL more) (ev_var rfl) (o.e0 _ _ hl1) (ep_imp (ep_lcX (fun x => [some (.ref v), some (.ref p), some (.ref q), some (.ref l), y4, some x]) (fun _ => true) (fun x N v => ∃ s, v = .str s ∧ isSyl s = true) (fun _ _ _ _ _ h => h) (ei_rngX (G := H2) (ea_cons (ev_op ev_c (ev_op (ev_op (ev_var rfl) ev_c (rv_ixLs (ex_l o.e1 hN) a2)) ev_c (rv_I (by decide))) rv_addI) ea_nil) (by omega)) (Ex.refl _) (by rw [rngV_len]; omega) (fun _ _ _ _ q => q) (fun _ => rfl) (fun _ _ _ _ => et_yes) ?_) ?_) ?_) fun v2 H1 N2 o hp => ?_
      · intro x H3 e3 hx _
        obtain ⟨i, hi, rfl⟩ := List.mem_map.mp hx
        have hi : i < (1 + ns[2] % 3).toNat := List.mem_range.mp hi
        have hi3 : 3 + i < ns.length := by omega
        have ai : atI (ns.map V.int) (3 + ((i : Nat) : Int)) = some (V.int ns[3 + i]) := atI_map (j := 3 + i) hi3
        have e := (o.e1.trans e3)
        obtain ⟨m, hm⟩ : ∃ m : Nat, ns[3 + i] % (((pool.map V.str).length : Nat) : Int) = m := ⟨(ns[3 + i] % (((pool.map V.str).length : Nat) : Int)).toNat, by have := Int.emod_nonneg ns[3 + i] (show (((pool.map V.str).length : Nat) : Int) ≠ 0 by rw [List.length_map]; omega); omega⟩
        have hm2 : m < pool.length := by
          have := Int.emod_lt_of_pos ns[3 + i] (show 0 < (((pool.map V.str).length : Nat) : Int) by rw [List.length_map]; omega)
          rw [List.length_map] at this
          rw [List.length_map] at hm
          omega
        have am : atI (pool.map V.str) ((m : Nat) : Int) = some (.str pool[m]) := atI_nat (by rw [List.getElem?_map, List.getElem?_eq_getElem hm2]; rfl)
        exact ep_imp (ep_v (ev_op (ev_var rfl) (ev_is (ev_op (ev_op (ev_var rfl) (ev_op ev_c (ev_var rfl) rv_addI) (rv_ixLs (ex_l e hN) ai)) (ev_cb (by wtm_at "ev") (rc_lenL (ex_l e hP))) (rv_I (show (0 : Int) < _ by rw [List.length_map]; omega))) (by rw [hm])) (rv_ixLs (ex_l e hP) am))) fun N v h => ⟨_, h, hsyl _ (List.getElem_mem hm2)⟩
      · rintro N v ⟨c, ys, rfl, hc, hpr⟩
        obtain ⟨more, rfl, h2, h3⟩ := strs_of hpr
        rw [filter_all, rngV_len] at h2
        exact ⟨c, more, rfl, hc, by omega, by omega, h3⟩
      · rintro N v ⟨c, more, rfl, hc, hm1, hm2, hm3⟩
        refine ⟨c, more.map V.str, rfl, hc, by rw [List.length_map, List.length_map]; omega, fun p => ⟨p, more, rfl, ?_, hm1, hm2, hm3⟩⟩
        rw [sing_at, List.map_append]
      · obtain ⟨c, more, rfl, hc, hm1, hm2, hm3⟩ := hp
        refine s_rn o (ep_l (el_sl' (ev_var rfl) eo_none (eo_some ev_c) (sq_of (o.e0 _ _ hc)))) fun v H1 N o hp => o.ret k (i := 0) (j := 3) rfl rfl ?_
        obtain ⟨d, rfl, hd⟩ := hp
        rw [show cutV ((line ++ more).map V.str) none (some 8) = ((line ++ more).take 8).map V.str from cut_line _ 8] at hd
        refine ⟨d, _, rfl, hd, isVer_iff.mpr ⟨?_, ?_, fun s hs => ?_⟩⟩
        · rw [List.length_take, List.length_append]; omega
        · rw [List.length_take]; omega
        · rcases List.mem_append.mp (List.mem_of_mem_take hs) with z | z
          · exact hsl s z
          · exact hm3 s z
/-! ### good books -/
theorem alikeM_comm (a b : List Str) : alikeM a b = alikeM b a := Bool.or_comm _ _
def Apart (ls : List (List Str)) : Prop := ls.Pairwise fun a b => alikeM a b = false
structure GB (n : Nat) (ls : List (List Str)) : Prop where
  pos : 1 ≤ ls.length
  len : ls.length ≤ n
  ver : ∀ l ∈ ls, isVer l = true
  apart : Apart ls
theorem GB.need {n : Nat} {ls : List (List Str)} (h : GB n ls) (hn : n ≤ 40) : needM ls = none := by
  have h1 : badRow ls = none := by
    unfold badRow
    rw [List.find?_range_eq_none]
    intro i hi
    rw [h.ver _ (row1_mem hi)]
    rfl
  have h2 : badTwo ls = none := by
    unfold badTwo
    rw [List.find?_range_eq_none]
    intro j hj
    have e : badOne ls j = none := by
      unfold badOne
      rw [List.find?_range_eq_none]
      intro i hi
      have z := List.pairwise_iff_getElem.mp h.apart i j (by omega) hj hi
      have e1 : row1 ls i = ls[i] := by unfold row1; rw [List.getD_eq_getElem?_getD, List.getElem?_eq_getElem (by omega)]; rfl
      have e2 : row1 ls j = ls[j] := by unfold row1; rw [List.getD_eq_getElem?_getD, List.getElem?_eq_getElem hj]; rfl
      rw [e1, e2, z]
      rfl
    rw [e]
    rfl
  unfold needM
  rw [if_pos ⟨h.pos, Nat.le_trans h.len hn⟩, h1, h2]
theorem ver_txt {l : List Str} (h : isVer l = true) : l.length ≤ 1000 ∧ ∀ s ∈ l, TxtOk s := by
  obtain ⟨h1, h2, h3⟩ := isVer_iff.mp h
  exact ⟨by omega, fun s hs => syl_ok (h3 s hs)⟩
theorem vs_of {H : Hp} {v : Addr} {xs : List V} {ls : List (List Str)} (h : SqL K H v xs) (r : Rows K H xs ls) (hl : ls.length ≤ 1000) (hv : ∀ l ∈ ls, isVer l = true) : Vs K H v ls := ⟨⟨dp_book.mpr ⟨v, xs, rfl, h, r⟩, hl, fun l hl => ver_txt (hv l hl)⟩, hv⟩
abbrev pGood (K : PySem.W.Frag) (n : Nat) : Hp → V → Prop := fun N v => ∃ (p : Addr) (ls : List (List Str)), v = .ref p ∧ Vs K N p ls ∧ GB n ls ∧ Cells N p ls
/-- rows that lie in the heap itself -/
def CR (N : Hp) (xs : List V) (ls : List (List Str)) : Prop := Paired (fun x l => ∃ q, x = V.ref q ∧ N q = some (.lst (l.map V.str))) xs ls
theorem CR.rows {N : Hp} {xs : List V} {ls : List (List Str)} (h : CR N xs ls) : Rows K N xs ls := paired_imp (fun _ _ ⟨q, h1, h2⟩ => ⟨q, h1, sq_of h2⟩) h
theorem CR.mono {N M : Hp} {xs : List V} {ls : List (List Str)} (e : Ex N M) (h : CR N xs ls) : CR M xs ls := paired_imp (fun _ _ ⟨q, h1, h2⟩ => ⟨q, h1, e _ _ h2⟩) h
theorem cr_snoc {H : Hp} {xs : List V} {ls : List (List Str)} {c : Addr} {l : List Str} (r : CR H xs ls) (h : H c = some (.lst (l.map V.str))) : CR H (xs ++ [.ref c]) (ls ++ [l]) := paired_snoc r ⟨c, rfl, h⟩
theorem Nm.drop {H : Hp} {p : Addr} {ns : List Int} {a b : Nat} (h : ∀ n ∈ ns, 0 ≤ n ∧ n < 9967) (hp : H p = some (.lst (((ns.drop a).take b).map V.int))) : Nm K H p ((ns.drop a).take b) := ⟨sq_of hp, fun n hn => h n (List.mem_of_mem_drop (List.mem_of_mem_take hn))⟩
end
section
variable {P : Program} {w : World} {K : PySem.W.Frag} {mg : Str → Option Value} {base : Heap}
/-! ### wide books -/
def wA : List Str := ["a", "b", "ab", "ba"]
def wB : List Str := ["a", "aa", "ba", "b"]
def wC : List Str := ["ka", "k", "a", "ki"]
def wT : List Str := ["ma", "a", "bab", "a", "b"]
def wN (a : Nat) : List Str := [wA.getD (a / 16) "", wB.getD (a / 4 % 4) "", wC.getD (a % 4) ""]
theorem wN_all : ((List.range 64).all fun a => (wN a).all isSyl && (List.range 64).all fun b => decide (a = b) || !decide (wN a = wN b)) = true := by decide +kernel
theorem wN_syl {a : Nat} (h : a < 64) : SylL (wN a) := by
  have z := List.all_eq_true.mp wN_all a (List.mem_range.mpr h)
  simp only [Bool.and_eq_true] at z
  exact List.all_eq_true.mp z.1
theorem wN_inj {a b : Nat} (h : a < 64) (h2 : b < 64) (hab : a ≠ b) : wN a ≠ wN b := by
  have z := List.all_eq_true.mp wN_all a (List.mem_range.mpr h)
  simp only [Bool.and_eq_true] at z
  have z2 := List.all_eq_true.mp z.2 b (List.mem_range.mpr h2)
  simp only [Bool.or_eq_true, decide_eq_true_eq] at z2
  rcases z2 with z2 | z2
  · exact absurd z2 hab
  · simpa using z2
theorem wT_syl : SylL wT := by
  have z : wT.all isSyl = true := by decide +kernel
  exact List.all_eq_true.mp z
theorem odd64 : ((List.range 32).all fun m => (List.range 64).all fun x => decide (x = 0) || !decide (x * (1 + 2 * m) % 64 = 0)) = true := by decide +kernel
theorem odd_ne {m x : Nat} (hm : m < 32) (hx : x < 64) (h0 : x ≠ 0) : x * (1 + 2 * m) % 64 ≠ 0 := by
  have z := List.all_eq_true.mp odd64 m (List.mem_range.mpr hm)
  have z2 := List.all_eq_true.mp z x (List.mem_range.mpr hx)
  simp only [Bool.or_eq_true, decide_eq_true_eq] at z2
  rcases z2 with z2 | z2
  · exact absurd z2 h0
  · simpa using z2
def atW (d0 d1 : Int) (k : Nat) : Nat := ((d0 + (k : Int) * (1 + 2 * (d1 % 32))) % 64).toNat
theorem atW_lt (d0 d1 : Int) (k : Nat) : atW d0 d1 k < 64 := by
  unfold atW
  have h1 := Int.emod_nonneg (d0 + (k : Int) * (1 + 2 * (d1 % 32))) (show (64 : Int) ≠ 0 by decide)
  have h2 := Int.emod_lt_of_pos (d0 + (k : Int) * (1 + 2 * (d1 % 32))) (show (0 : Int) < 64 by decide)
  omega
theorem atW_inj {d0 d1 : Int} {i j : Nat} (hij : i < j) (hj : j < 64) : atW d0 d1 i ≠ atW d0 d1 j := by
  intro h
  unfold atW at h
  obtain ⟨m, hm⟩ : ∃ m : Nat, d1 % 32 = m := ⟨(d1 % 32).toNat, by omega⟩
  have hm2 : m < 32 := by omega
  rw [hm] at h
  have e : ((j : Int) * (1 + 2 * (m : Int))) = (i : Int) * (1 + 2 * (m : Int)) + ((j - i : Nat) : Int) * (1 + 2 * (m : Int)) := by
    rw [← Int.add_mul]
    congr 1
    omega
  rw [e] at h
  have key : (((j - i : Nat) : Int) * (1 + 2 * (m : Int))) % 64 = 0 := by
    generalize (i : Int) * (1 + 2 * (m : Int)) = u at h
    generalize ((j - i : Nat) : Int) * (1 + 2 * (m : Int)) = t at h
    omega
  have z := odd_ne hm2 (show j - i < 64 by omega) (by omega)
  apply z
  have c : (((j - i) * (1 + 2 * m) : Nat) : Int) = ((j - i : Nat) : Int) * (1 + 2 * (m : Int)) := by
    rw [Int.natCast_mul, Int.natCast_add, Int.natCast_mul]
    rfl
  rw [← c] at key
  omega
theorem alike_head {a b s t : List Str} (hl : a.length = b.length) (hne : a ≠ b) : alikeM (a ++ s) (b ++ t) = false := by
  unfold alikeM begM
  have key : ∀ {a b s t : List Str}, a.length = b.length → a ≠ b → decide ((b ++ t).take (a ++ s).length = a ++ s) = false := by
    intro a b s t hl hne
    refine decide_eq_false fun z => hne ?_
    have z2 := congrArg (List.take a.length) z
    rw [List.take_take, List.length_append, Nat.min_eq_left (by omega), List.take_left', List.take_left'] at z2
    · exact z2.symm
    · rfl
    · exact hl.symm
  rw [key hl hne, key hl.symm (fun z => hne z.symm)]
  rfl
def lineW (d0 d1 d2 d3 : Int) (k : Nat) : List Str := wN (atW d0 d1 k) ++ wT.take ((d2 + (k : Int) * d3) % 6).toNat
theorem lineW_ver (d0 d1 d2 d3 : Int) (k : Nat) : isVer (lineW d0 d1 d2 d3 k) = true := by
  refine isVer_iff.mpr ⟨?_, ?_, fun s hs => ?_⟩
  · unfold lineW; rw [List.length_append]; show 1 ≤ 3 + _; omega
  · unfold lineW
    rw [List.length_append, List.length_take]
    have : wT.length = 5 := rfl
    show 3 + _ ≤ 8
    omega
  · rcases List.mem_append.mp hs with z | z
    · exact wN_syl (atW_lt d0 d1 k) s z
    · exact wT_syl s (List.mem_of_mem_take z)
theorem wide_good (d0 d1 d2 d3 : Int) {n : Nat} (h1 : 1 ≤ n) (h2 : n ≤ 40) : GB n ((List.range n).map (lineW d0 d1 d2 d3)) where
  pos := by simpa using h1
  len := by simp
  ver := fun l hl => by
    obtain ⟨k, _, rfl⟩ := List.mem_map.mp hl
    exact lineW_ver d0 d1 d2 d3 k
  apart := by
    unfold Apart
    rw [List.pairwise_iff_getElem]
    intro i j hi hj hij
    simp only [List.getElem_map, List.getElem_range]
    simp at hi hj
    exact alike_head rfl (wN_inj (atW_lt d0 d1 i) (atW_lt d0 d1 j) (atW_inj hij (by omega)))
def R__law_wide (K : PySem.W.Frag) : Rl := ⟨fun vs H r => ∃ (p : Addr) (ns : List Int) (n : Int), vs = [.ref p, .int n] ∧ Nm K H p ns ∧ 4 ≤ ns.length ∧ 1 ≤ n ∧ n ≤ 40 ∧ r = .ok (pGood K n.toNat), fun e ⟨p, ns, n, h1, h2, h3⟩ => ⟨p, ns, n, h1, h2.mono e, h3⟩⟩
theorem at4 {l : List Str} (hl : l.length = 4) {i : Nat} (hi : i < 4) : atI (l.map V.str) ((i : Nat) : Int) = some (.str (l.getD i "")) := atI_nat (by
  rw [List.getElem?_map, List.getElem?_eq_getElem (by omega), List.getD_eq_getElem?_getD, List.getElem?_eq_getElem (by omega)]
  rfl)
theorem ok__law_wide (B : Bt mg) (D : Df K mg "_law_wide" s__law_wide ["_law_d", "_law_size"]) : Ok P w K mg base 1 "_law_wide" ["_law_d", "_law_size"] ((R__law_wide K).sp mg) := by
  refine D.ok sc__law_wide (fun vs H Q E h => ?_) (fun f cdv A outer s H vs Q E hr h => ?_)
  · obtain ⟨r, ⟨p, ns, n, rfl, _⟩, _⟩ := h
    rfl
  · obtain ⟨r, ⟨p, ns, n, rfl, ⟨hN, hall⟩, hl, hn1, hn2, rfl⟩, k⟩ := h
    refine ⟨_, (pss_cons (ps_set (i := 2) sc__law_wide.nd rfl (.inl rfl) (pe_lst pa_nil))
      (pss_cons (ps_for (passes_of rfl) rfl (pi_range1 (by rfl) B.range (pa_cons (pv 1) pa_nil)) (pg_name (i := 3) sc__law_wide.nd rfl (.inl rfl))
        (pss_cons (ps_set (i := 4) sc__law_wide.nd rfl (.inl rfl) (pe_op op_mod (pe_op (op_addK K) (pe_ix (ix_seqK K) (pv 0) pe_int (fun _ _ => rfl)) (pe_op op_mulU (pv 3) (pe_op (op_addK K) pe_int (pe_op op_mulU pe_int (pe_op op_mod (pe_ix (ix_seqK K) (pv 0) pe_int (fun _ _ => rfl)) pe_int))))) pe_int))
        (pss_cons (ps_set (i := 5) sc__law_wide.nd rfl (.inl rfl) (pe_lst (pa_cons (pe_ix (ix_seqK K) (pe_lst (pa_cons pe_str (pa_cons pe_str (pa_cons pe_str (pa_cons pe_str pa_nil))))) (pe_op op_fdiv (pv 4) pe_int) (fun _ _ => rfl)) (pa_cons (pe_ix (ix_seqK K) (pe_lst (pa_cons pe_str (pa_cons pe_str (pa_cons pe_str (pa_cons pe_str pa_nil))))) (pe_op op_mod (pe_op op_fdiv (pv 4) pe_int) pe_int) (fun _ _ => rfl)) (pa_cons (pe_ix (ix_seqK K) (pe_lst (pa_cons pe_str (pa_cons pe_str (pa_cons pe_str (pa_cons pe_str pa_nil))))) (pe_op op_mod (pv 4) pe_int) (fun _ _ => rfl)) pa_nil)))))
        (pss_one (ps_expr (pe_bmK K PySem.F.plainAttrs_list PySem.F.slot_list_append PySem.F.type_list_append mt_append (pv 2) (pa_cons (pe_op (op_addK K) (pv 5) (pe_slice (sl_K K) (pe_lst (pa_cons pe_str (pa_cons pe_str (pa_cons pe_str (pa_cons pe_str (pa_cons pe_str pa_nil)))))) po_none (po_some (pe_op op_mod (pe_op (op_addK K) (pe_ix (ix_seqK K) (pv 0) pe_int (fun _ _ => rfl)) (pe_op op_mulU (pv 3) (pe_ix (ix_seqK K) (pv 0) pe_int (fun _ _ => rfl)))) pe_int)))) pa_nil)))))))
      (pss_one (ps_ret (pv 2))))), ?_⟩
    have a0 := atI_map (ns := ns) (j := 0) (by omega)
    have a1 := atI_map (ns := ns) (j := 1) (by omega)
    have a2 := atI_map (ns := ns) (j := 2) (by omega)
    have a3 := atI_map (ns := ns) (j := 3) (by omega)
    have n0 := hall _ (List.getElem_mem (show 0 < ns.length by omega))
    have n1 := hall _ (List.getElem_mem (show 1 < ns.length by omega))
    have n2 := hall _ (List.getElem_mem (show 2 < ns.length by omega))
    have n3 := hall _ (List.getElem_mem (show 3 < ns.length by omega))
    refine q_l (Own.one H) (by wtm_at "ev") fun l H1 o => ?_
    refine q_forN (G := emp) o (ei_rng1 (by wtm_at "ev") (by omega)) (fun i σ H' => ∃ xs N y3 y4 y5, σ = [some (.ref p), some (.int n), some (.ref l), y3, y4, y5] ∧ Own [sing l (.lst xs), N, H] H' ∧ CR N xs ((List.range i).map (lineW ns[0] ns[1] ns[2] ns[3]))) (fun H1 o => ⟨[], emp, _, _, _, rfl, ⟨o.1, fun M hM => ?_, emp_ex, (fun _ _ a ha => absurd rfl ha), o.2.2⟩, .nil⟩) (fun i σ H' _ _ => emp_ex) ?_ ?_
    · rcases List.mem_cons.mp hM with z | z
      · subst z; exact fun _ _ => rfl
      · exact o.2.1 M z
    · rintro i x σ H2 H3 hi ⟨xs, N, y3, y4, y5, rfl, o, hC⟩ e rfl
      have o := o.mono e
      have hR : Rows K N xs _ := hC.rows
      have hlen := hR.len
      rw [List.length_map, List.length_range] at hlen
      have hN1 := ex_l o.e2 hN
      -- at
      refine q_v (v := .int (atW ns[0] ns[1] i : Nat)) o (ev_is (ev_op (ev_op (ev_op (ev_var rfl) ev_c (rv_ixLs hN1 a0)) (ev_op (ev_var rfl) (ev_op ev_c (ev_op ev_c (ev_op (ev_op (ev_var rfl) ev_c (rv_ixLs hN1 a1)) ev_c (rv_I (by decide))) (rv_mulI (cmul_small (by decide) (by omega)))) rv_addI) (rv_mulI (cmul_small (by omega) (by omega)))) rv_addI) ev_c (rv_I (by decide))) (by
        have h1 : 0 ≤ (ns[0] + (i : Int) * (1 + 2 * (ns[1] % 32))) % 64 := Int.emod_nonneg _ (by decide)
        unfold atW
        congr 1
        exact (Int.toNat_of_nonneg h1).symm)) fun H1 o => ?_
      have ha := atW_lt ns[0] ns[1] i
      generalize hat : atW ns[0] ns[1] i = at' at ha ⊢
      have q16 : ((at' : Nat) : Int) / 16 = ((at' / 16 : Nat) : Int) := by omega
      have q4 : ((at' : Nat) : Int) / 4 % 4 = ((at' / 4 % 4 : Nat) : Int) := by omega
      have q1 : ((at' : Nat) : Int) % 4 = ((at' % 4 : Nat) : Int) := by omega
      have c16 : CDiv ((at' : Nat) : Int) 16 := ⟨by decide, by decide⟩
      have c4 : CDiv ((at' : Nat) : Int) 4 := ⟨by decide, by decide⟩
      refine q_n (P := pLst ((wN at').map V.str)) o (ep_lst (vs := (wN at').map V.str) (ea_cons (ev_op1 (P := pLst (wA.map V.str)) (ep_lst (by wtm_at "ev")) (ev_is (ev_op (ev_var rfl) ev_c (rv_I c16)) (by rw [q16])) fun v N H1 _ i1 ⟨c, e, hc⟩ => by subst e; exact rv_ixLs (sq_of (i1 _ _ hc)) (at4 rfl (by omega)))
        (ea_cons (ev_op1 (P := pLst (wB.map V.str)) (ep_lst (by wtm_at "ev")) (ev_is (ev_op (ev_op (ev_var rfl) ev_c (rv_I c4)) ev_c (rv_I (by decide))) (by rw [q4])) fun v N H1 _ i1 ⟨c, e, hc⟩ => by subst e; exact rv_ixLs (sq_of (i1 _ _ hc)) (at4 rfl (by omega)))
        (ea_cons (ev_op1 (P := pLst (wC.map V.str)) (ep_lst (by wtm_at "ev")) (ev_is (ev_op (ev_var rfl) ev_c (rv_I (by decide))) (by rw [q1])) fun v N H1 _ i1 ⟨c, e, hc⟩ => by subst e; exact rv_ixLs (sq_of (i1 _ _ hc)) (at4 rfl (by omega))) ea_nil)))) fun v2 H1 N2 o hp => ?_
      obtain ⟨c, rfl, hc⟩ := hp
      have hN1 := ex_l o.e3 hN
      obtain ⟨m, hm⟩ : ∃ m : Nat, (ns[2] + (i : Int) * ns[3]) % 6 = m := ⟨((ns[2] + (i : Int) * ns[3]) % 6).toNat, by have := Int.emod_nonneg (ns[2] + (i : Int) * ns[3]) (show (6 : Int) ≠ 0 by decide); omega⟩
      have el : lineW ns[0] ns[1] ns[2] ns[3] i = wN at' ++ wT.take m := by unfold lineW; rw [hat, hm]; rfl
      refine s_appN (P := pLst ((lineW ns[0] ns[1] ns[2] ns[3] i).map V.str)) (j := 1) o rfl (ev_var rfl) (ep_catN (P1 := is (.ref c)) (P2 := pLst ((wT.take m).map V.str)) (ep_v (ev_var rfl)) (ep_slN (xs := wT.map V.str) (ep_lst (by wtm_at "ev")) eo_none (eo_some (ev_is (ev_op (ev_op (ev_op (ev_var rfl) ev_c (rv_ixLs hN1 a2)) (ev_op (ev_var rfl) (ev_op (ev_var rfl) ev_c (rv_ixLs hN1 a3)) (rv_mulI (cmul_small (by omega) (by omega)))) rv_addI) ev_c (rv_I (by decide))) (by rw [hm]))) (cut_line wT m)) fun N1 N2 H1 v1 v2 e i1 i2 p1 ⟨b, e2, hb⟩ => ⟨c, b, _, _, p1, e2, e _ _ (o.e0 _ _ hc), i2 _ _ hb, ?_, fun p => ⟨p, rfl, ?_⟩⟩) (by omega) fun v2 H1 N3 o hp => ?_
      · rw [List.length_map, List.length_map, List.length_take]
        have : wT.length = 5 := rfl
        show 3 + _ ≤ _
        omega
      · rw [sing_at, el, List.map_append]
      · obtain ⟨b, rfl, hb⟩ := hp
        have o : Own [N3, N2, sing l (.lst (xs ++ [.ref b])), N, H] H1 := o
        have o2 : Own [sing l (.lst (xs ++ [.ref b])), N3, N, H] H1 := by
          have z : Own [sing l (.lst (xs ++ [.ref b])), N3, N2, N, H] H1 := o.pull (i := 2) rfl
          have z2 : Own [N2, sing l (.lst (xs ++ [.ref b])), N3, N, H] H1 := z.pull (i := 2) rfl
          exact z2.tail
        have dN : ∀ a, N3 a ≠ none → N a = none := o2.dj (i := 1) (j := 2) (by decide) rfl rfl
        refine ⟨xs ++ [.ref b], uni N N3, _, _, _, rfl, ?_, ?_⟩
        · exact own_merge2 o2
        · rw [List.range_succ, List.map_append]
          exact cr_snoc (hC.mono (uni_l dN)) (uni_r _ _ hb)
    · rintro σ H2 ⟨xs, N, y3, y4, y5, rfl, o, hC⟩
      have hR : Rows K N xs _ := hC.rows
      refine s_rv o (ev_var rfl) fun H1 o => ?_
      have o2 : Own [uni N (sing l (.lst xs)), H] H1 := o.merge
      have dN : ∀ a, sing l (.lst xs) a ≠ none → N a = none := o.dj (i := 0) (j := 1) (by decide) rfl rfl
      obtain ⟨m, rfl⟩ : ∃ m : Nat, n = m := ⟨n.toNat, by omega⟩
      exact o2.ret k (i := 0) (j := 1) rfl rfl ⟨l, _, rfl, vs_of (sq_of (uni_r _ _ sing_at)) (hR.mono (uni_l dN)) (by simp; omega) (fun l hl => (wide_good _ _ _ _ (n := m) (by omega) (by omega)).ver l hl), wide_good _ _ _ _ (by omega) (by omega), xs, uni_r _ _ sing_at, hC.mono (uni_l dN)⟩
end
section
variable {P : Program} {w : World} {K : PySem.W.Frag} {mg : Str → Option Value} {base : Heap}
def R__law_book (K : PySem.W.Frag) : Rl := ⟨fun vs H r => ∃ (p : Addr) (ns : List Int) (n : Int), vs = [.ref p, .int n] ∧ Nm K H p ns ∧ 9 + 6 * n ≤ ns.length ∧ 1 ≤ n ∧ n ≤ 40 ∧ r = .ok (pGood K n.toNat), fun e ⟨p, ns, n, h1, h2, h3⟩ => ⟨p, ns, n, h1, h2.mono e, h3⟩⟩
theorem apart_snoc {ls : List (List Str)} {l : List Str} (h : Apart ls) (ha : (List.range ls.length).all (fun i => !alikeM l (row1 ls i)) = true) : Apart (ls ++ [l]) := by
  unfold Apart at *
  rw [List.pairwise_append]
  refine ⟨h, List.pairwise_singleton _ _, fun a ha2 b hb => ?_⟩
  have e : b = l := by simpa using hb
  subst e
  obtain ⟨i, hi, rfl⟩ := List.getElem_of_mem ha2
  have z := List.all_eq_true.mp ha i (List.mem_range.mpr hi)
  have e1 : row1 ls i = ls[i] := by unfold row1; rw [List.getD_eq_getElem?_getD, List.getElem?_eq_getElem hi]; rfl
  rw [e1] at z
  rw [alikeM_comm]
  simpa using z
theorem GB.le {n m : Nat} {ls : List (List Str)} (h : GB n ls) (hm : n ≤ m) : GB m ls := ⟨h.pos, Nat.le_trans h.len hm, h.ver, h.apart⟩
theorem ok__law_book (B : Bt mg) (O__law_pool : Ok P w K mg base 2 "_law_pool" ["_law_d"] ((R__law_pool K).sp mg)) (O__law_verse : Ok P w K mg base 1 "_law_verse" ["_law_verses", "_law_pool_here", "_law_d"] ((R__law_verse K).sp mg)) (O__law_wide : Ok P w K mg base 1 "_law_wide" ["_law_d", "_law_size"] ((R__law_wide K).sp mg)) (O__law_alike : Ok P w K mg base 1 "_law_alike" ["_law_one", "_law_other"] ((R_alike K).sp mg)) (D : Df K mg "_law_book" s__law_book ["_law_d", "_law_most"]) : Ok P w K mg base 3 "_law_book" ["_law_d", "_law_most"] ((R__law_book K).sp mg) := by
  refine D.ok sc__law_book (fun vs H Q E h => ?_) (fun f cdv A outer s H vs Q E hr h => ?_)
  · obtain ⟨r, ⟨p, ns, n, rfl, _⟩, _⟩ := h
    rfl
  · obtain ⟨r, ⟨p, ns, n, rfl, ⟨hN, hall⟩, hl, hn1, hn2, rfl⟩, k⟩ := h
    refine ⟨_, (pss_cons (ps_if (pt_cmpR (op_eqK K (hu65 hr)) (pe_op op_mod (pe_op op_fdiv (pe_ix (ix_seqK K) (pv 0) pe_int (fun _ _ => rfl)) pe_int) pe_int) pe_int (nomark _))
        (pss_one (ps_ret (pe_callO O__law_wide (hr.mono (by omega)) (by rfl) (takes_of rfl rfl rfl rfl) (pa_cons (pe_slice (sl_K K) (pv 0) (po_some pe_int) (po_some pe_int)) (pa_cons (pe_op (op_addK K) pe_int (pe_op op_mod (pe_ix (ix_seqK K) (pv 0) pe_int (fun _ _ => rfl)) (pv 1))) pa_nil)))))
        pss_nil)
      (pss_cons (ps_set (i := 2) sc__law_book.nd rfl (.inl rfl) (pe_slice (sl_K K) (pe_callO O__law_pool (hr.mono (by omega)) (by rfl) (takes_of rfl rfl rfl rfl) (pa_cons (pe_slice (sl_K K) (pv 0) (po_some pe_int) (po_some pe_int)) pa_nil)) po_none (po_some (pe_op (op_addK K) pe_int (pe_op op_mod (pe_ix (ix_seqK K) (pv 0) pe_int (fun _ _ => rfl)) pe_int)))))
      (pss_cons (ps_set (i := 3) sc__law_book.nd rfl (.inl rfl) (pe_lst pa_nil))
      (pss_cons (ps_for (passes_of rfl) rfl (pi_range1 (by rfl) B.range (pa_cons (pe_op (op_addK K) pe_int (pe_op op_mod (pe_ix (ix_seqK K) (pv 0) pe_int (fun _ _ => rfl)) (pv 1))) pa_nil)) (pg_name (i := 4) sc__law_book.nd rfl (.inl rfl))
        (pss_cons (ps_set (i := 5) sc__law_book.nd rfl (.inr rfl) (pe_callO O__law_verse (hr.mono (by omega)) (by rfl) (takes_of rfl rfl rfl rfl) (pa_cons (pv 3) (pa_cons (pv 2) (pa_cons (pe_slice (sl_K K) (pv 0) (po_some (pe_op (op_addK K) pe_int (pe_op op_mulU pe_int (pv 4)))) (po_some (pe_op (op_addK K) pe_int (pe_op op_mulU pe_int (pv 4))))) pa_nil)))))
        (pss_one (ps_if (pt_val (pe_callB (cr_allK K rfl) (by rfl) B.all boot_b_all (pa_cons (pe_lc (own := [("_law_one", 6)]) rfl sc__law_book.nd (pi_listK K (pv 3)) (blkOk_by (N := ["_law_d", "_law_most", "_law_pool_here", "_law_verses", "_law_k", "_law_line", "_law_one"]) (sc := defScope s__law_book) (by decide +kernel)) (fun _ _ _ _ _ => (pg_name (i := 6) sc__law_book.nd rfl (.inl rfl))) (fun _ _ _ _ _ => pts_nil) (fun _ _ _ _ _ => (pe_not (pe_callO O__law_alike (hr.mono (by omega)) (by rfl) takes0 (pa_cons (pv 5) (pa_cons (pv 6) pa_nil)))))) pa_nil)))
          (pss_one (ps_expr (pe_bmK K PySem.F.plainAttrs_list PySem.F.slot_list_append PySem.F.type_list_append mt_append (pv 3) (pa_cons (pv 5) pa_nil))))
          pss_nil))))
      (pss_one (ps_ret (pv 3))))))), ?_⟩
    have a0 := atI_map (ns := ns) (j := 0) (by omega)
    have a8 := atI_map (ns := ns) (j := 8) (by omega)
    have n0 := hall _ (List.getElem_mem (show 0 < ns.length by omega))
    have n8 := hall _ (List.getElem_mem (show 8 < ns.length by omega))
    have hm0 := Int.emod_nonneg ns[0] (show n ≠ 0 by omega)
    have hm1 := Int.emod_lt_of_pos ns[0] (show 0 < n by omega)
    have c5 : CDiv ns[8] 5 := ⟨by decide, by decide⟩
    refine q_wh (Own.one H) (et_test (ev_op (ev_op (ev_op (ev_op (ev_var rfl) ev_c (rv_ixLs hN a8)) ev_c (rv_I c5)) ev_c (rv_I (by decide))) ev_c rv_eqI)) (fun hb H1 o => ?_) (fun hb H1 o => ?_)
    · have hN1 := ex_l o.e0 hN
      refine s_rn o (P := pGood K n.toNat) (ep_imp (ep_callN (S := R__law_wide K) (P := pGood K (1 + ns[0] % n).toNat) (eps_cons (P := pLst (((ns.drop 1).take 4).map V.int)) (ep_l (el_is (el_sl' (ev_var rfl) (eo_some ev_c) (eo_some ev_c) hN1) (cut_mid ns 1 5 (by decide)))) (eps_cons (ep_v (ev_op ev_c (ev_op (ev_op (ev_var rfl) ev_c (rv_ixLs hN1 a0)) (ev_var rfl) (rv_I (show (0 : Int) < n by omega))) rv_addI)) eps_nil)) fun vs H2 e2 ha => ?_) fun N v ⟨p, ls, h1, h2, h3, h4⟩ => ⟨p, ls, h1, h2, h3.le (by omega), h4⟩) fun v H1 N o hp => o.ret k (i := 0) (j := 1) rfl rfl hp
      cases ha with
      | cons h1 hr =>
        cases hr with
        | cons h2 hr =>
          cases hr
          obtain ⟨N1, i1, c, rfl, hc⟩ := h1
          obtain ⟨N2, i2, h2⟩ := h2
          have h2 : _ = V.int (1 + ns[0] % n) := h2
          subst h2
          refine ⟨c, _, _, rfl, Nm.drop hall (i1 _ _ hc), ?_, by omega, by omega, rfl⟩
          rw [List.length_take, List.length_drop]; omega
    · have hN1 := ex_l o.e0 hN
      obtain ⟨m, hm⟩ : ∃ m : Nat, (2 : Int) + ns[8] % 5 = (m : Int) := ⟨(2 + ns[8] % 5).toNat, by omega⟩
      refine q_n (P := fun N v => ∃ (c : Addr) (l : List Str), v = .ref c ∧ N c = some (.lst (l.map V.str)) ∧ 1 ≤ l.length ∧ l.length ≤ 1000 ∧ SylL l) o (ep_slP (P := pPool 6) (ep_callN (S := R__law_pool K) (eps_cons (P := pLst (((ns.drop 1).take 7).map V.int)) (ep_l (el_is (el_sl' (ev_var rfl) (eo_some ev_c) (eo_some ev_c) hN1) (cut_mid ns 1 8 (by decide)))) eps_nil) fun vs H2 e2 ha => ?_) eo_none (eo_some (i := (m : Int)) (ev_is (ev_op ev_c (ev_op (ev_op (ev_var rfl) ev_c (rv_ixLs hN1 a8)) ev_c (rv_I (by decide))) rv_addI) (congrArg V.int hm))) ?_) fun v H1 Np o hp => ?_
      · cases ha with
        | cons h1 hr =>
          cases hr
          obtain ⟨N1, i1, c, rfl, hc⟩ := h1
          refine ⟨c, _, rfl, Nm.drop hall (i1 _ _ hc), ?_, rfl⟩
          rw [List.length_take, List.length_drop]; omega
      · rintro N v ⟨c, l, rfl, hc, hlen, hs⟩
        refine ⟨c, _, rfl, hc, fun p => ⟨p, l.take m, rfl, ?_, ?_, ?_, fun s hs2 => hs s (List.mem_of_mem_take hs2)⟩⟩
        · rw [sing_at, cut_line]
        · rw [List.length_take]; omega
        · rw [List.length_take]; omega
      obtain ⟨pp, pool, rfl, hP, hp1, hp2, hsyl⟩ := hp
      refine q_l o (by wtm_at "ev") fun l H1 o => ?_
      have hN2 := ex_l o.e2 hN
      refine q_forN (G := emp) o (ei_rng1 (m := 1 + ns[0] % n) (ea_cons (ev_op ev_c (ev_op (ev_op (ev_var rfl) ev_c (rv_ixLs hN2 a0)) (ev_var rfl) (rv_I (show (0 : Int) < n by omega))) rv_addI) ea_nil) (by omega)) (fun i σ H' => ∃ xs N ls y4 y5, σ = [some (.ref p), some (.int n), some (.ref pp), some (.ref l), y4, y5, none] ∧ Own [sing l (.lst xs), N, Np, H] H' ∧ CR N xs ls ∧ ls.length ≤ i ∧ (1 ≤ i → 1 ≤ ls.length) ∧ (∀ l ∈ ls, isVer l = true) ∧ Apart ls) (fun H1 o => ⟨[], emp, [], _, _, rfl, own_emp o, .nil, Nat.le_refl _, (fun h => absurd h (by decide)), (fun _ h => nomatch h), List.Pairwise.nil⟩) (fun i σ H' _ _ => emp_ex) ?_ ?_
      · rintro i x σ H2 H3 hi ⟨xs, N, ls, y4, y5, rfl, o, hC, hli, hl1, hver, hap⟩ e rfl
        have o := o.mono e
        have hR : Rows K N xs ls := hC.rows
        have hlen := hR.len
        have hN3 := ex_l o.e3 hN
        have hV : Vs K H3 l ls := vs_of (sq_of (o.e0 _ _ sing_at)) (hR.mono o.e1) (by omega) hver
        have hPo := o.e2 _ _ hP
        refine q_n (P := pVer) o (ep_callN (S := R__law_verse K) (eps_cons (ep_v (ev_var rfl)) (eps_cons (ep_v (ev_var rfl)) (eps_cons (P := pLst (((ns.drop (9 + 6 * i)).take 6).map V.int)) (ep_l (el_is (el_sl' (lo := some ((9 + 6 * i : Nat) : Int)) (hi := some ((15 + 6 * i : Nat) : Int)) (ev_var rfl) (eo_some (ev_is (ev_op ev_c (ev_op ev_c (ev_var rfl) (rv_mulI (cmul_small (by decide) (by omega)))) rv_addI) (by congr 1))) (eo_some (ev_is (ev_op ev_c (ev_op ev_c (ev_var rfl) (rv_mulI (cmul_small (by decide) (by omega)))) rv_addI) (by congr 1))) hN3) (by rw [cut_mid ns _ _ (by omega), show 15 + 6 * i - (9 + 6 * i) = 6 by omega]))) eps_nil))) fun vs H4 e4 ha => ?_) fun v H1 Nl o hp => ?_
        · cases ha with
          | cons h1 hr => cases hr with
            | cons h2 hr => cases hr with
              | cons h3 hr =>
                cases hr
                obtain ⟨_, _, h1⟩ := h1
                obtain ⟨_, _, h2⟩ := h2
                have h1 : _ = V.ref l := h1
                have h2 : _ = V.ref pp := h2
                subst h1 h2
                obtain ⟨N1, i1, c, rfl, hc⟩ := h3
                refine ⟨l, pp, c, ls, pool, _, rfl, hV.mono e4, sq_of (e4 _ _ hPo), hp1, hp2, hsyl, Nm.drop hall (i1 _ _ hc), ?_, rfl⟩
                rw [List.length_take, List.length_drop]; omega
        obtain ⟨c, line, rfl, hc, hline⟩ := hp
        have hV : Vs K H1 l ls := vs_of (sq_of (o.e1 _ _ sing_at)) (hR.mono o.e2) (by omega) hver
        have hln : Ln K H1 c line := ⟨sq_of (o.e0 _ _ hc), ver_txt hline⟩
        have hRr := hR.mono o.e2
        refine s_wh o (et_test (ev_allI (n := xs.length) (fun j => [some (.ref p), some (.int n), some (.ref pp), some (.ref l), some (.int (i : Nat)), some (.ref c), some (xs.getD j .non)]) (fun j => !alikeM line (row1 ls j)) (ei_list (ev_var rfl) (sq_of (o.e1 _ _ sing_at)) (Ex.refl _)) (Ex.refl _) (by omega) (fun j x H' _ hx Q q => by rw [getD_of hx] at q; exact q) (fun _ _ => rfl) (fun j H4 e4 hj => ?_))) (fun hb H1 o => ?_) (fun hb H1 o => ?_)
        · obtain ⟨q, hq, hL⟩ := hV.1.row hRr (i := j) (by omega)
          refine ev_notV ((ev_callO (S := R_alike K) (vs := [.ref c, .ref q]) (ea_cons (ev_var rfl) (ea_cons (ev_var (by rw [getD_of hq]; rfl)) ea_nil)) ⟨c, q, line, row1 ls j, rfl, hln.mono e4, hL.mono e4, rfl⟩))
        · refine s_app (j := 1) o rfl (ev_var rfl) (ev_var rfl) (by omega) fun H1 o => ?_
          have o : Own [Nl, sing l (.lst (xs ++ [.ref c])), N, Np, H] H1 := o
          have o2 : Own [sing l (.lst (xs ++ [.ref c])), Nl, N, Np, H] H1 := o.swap
          have dN : ∀ a, Nl a ≠ none → N a = none := o2.dj (i := 1) (j := 2) (by decide) rfl rfl
          refine ⟨xs ++ [.ref c], uni N Nl, ls ++ [line], _, _, rfl, own_merge2 o2, cr_snoc (hC.mono (uni_l dN)) (uni_r _ _ hc), ?_, ?_, ?_, ?_⟩
          · rw [List.length_append, List.length_singleton]; omega
          · intro _; rw [List.length_append, List.length_singleton]; omega
          · intro l hl
            rcases List.mem_append.mp hl with z | z
            · exact hver l z
            · rw [List.mem_singleton.mp z]; exact hline
          · rw [hlen] at hb
            exact apart_snoc hap hb
        · refine ⟨xs, N, ls, _, _, rfl, o.tail, hC, by omega, fun _ => ?_, hver, hap⟩
          rcases Nat.eq_zero_or_pos ls.length with z | z
          · rw [hlen, z] at hb
            cases hb
          · exact z
      · rintro σ H2 ⟨xs, N, ls, y4, y5, rfl, o, hC, hli, hl1, hver, hap⟩
        have hR : Rows K N xs ls := hC.rows
        refine s_rv o (ev_var rfl) fun H1 o => ?_
        have o2 : Own [uni N (sing l (.lst xs)), Np, H] H1 := o.merge
        have dN : ∀ a, sing l (.lst xs) a ≠ none → N a = none := o.dj (i := 0) (j := 1) (by decide) rfl rfl
        exact o2.ret k (i := 0) (j := 2) rfl rfl ⟨l, ls, rfl, vs_of (sq_of (uni_r _ _ sing_at)) (hR.mono (uni_l dN)) (by omega) hver, ⟨hl1 (by omega), by omega, hver, hap⟩, xs, uni_r _ _ sing_at, hC.mono (uni_l dN)⟩
end
section
variable {P : Program} {w : World} {K : PySem.W.Frag} {mg : Str → Option Value} {base : Heap}
def R__law_copy (K : PySem.W.Frag) : Rl := ⟨fun vs H r => ∃ (v : Addr) (ls : List (List Str)), vs = [.ref v] ∧ Bk K H v ls ∧ r = .ok (pRows K ls), fun e ⟨v, ls, h1, h2, h3⟩ => ⟨v, ls, h1, h2.mono e, h3⟩⟩
theorem Bk.sm {H : Hp} {v : Addr} {ls : List (List Str)} (h : Bk K H v ls) : smD (eBook ls) := smD_book (by have := h.2.1; omega) fun l hl => by have := (h.2.2 l hl).1; omega
theorem needR_ok {ls : List (List Str)} {P : Hp → V → Prop} (h : needM ls = none) : needR ls P = .ok P := by unfold needR; rw [h]
theorem depth_book (ls : List (List Str)) : (eBook ls).depth < 3 := by
  have := depth_rows ls
  simp only [PyData.depth]
  omega
theorem depth_line (l : List Str) : (eLine l).depth < 3 := by
  simp only [PyData.depth, depth_strs]
  omega
theorem depth_int (i : Int) : (PyData.int i).depth < 3 := by simp only [PyData.depth]; omega
end
abbrev s__law_book_told : Stmt := topS 54
theorem sc__law_book_told : FnScope ["_law_book_here", "_law_verses", "_law_verse_here"] ["_law_book_here", "_law_verses"] (defScope s__law_book_told) := ⟨rfl, rfl, rfl, by decide +kernel, rfl, by decide +kernel, by decide +kernel⟩
section
variable {P : Program} {w : World} {K : PySem.W.Frag} {mg : Str → Option Value} {base : Heap}
def R__law_book_told (K : PySem.W.Frag) (C : Addr) : Rl := ⟨fun vs H r => ∃ (b v : Addr) (ls : List (List Str)), vs = [.ref b, .ref v] ∧ BookAt K C H b ls ∧ Bk K H v ls ∧ r = .ok (is (.bl true)), fun e ⟨b, v, ls, h1, h2, h3, h4⟩ => ⟨b, v, ls, h1, h2.mono e, h3.mono e, h4⟩⟩
theorem ok__law_book_told (B : Bt mg) {C_Book : Addr} (O_Book_many : OkM P w K mg base 1 C_Book "many" ["self"] ((R_Book_many K C_Book).sp mg)) (O_Book_verse : OkM P w K mg base 1 C_Book "verse" ["self", "number"] ((R_Book_verse K C_Book).sp mg)) (O_Book_verses : OkM P w K mg base 1 C_Book "verses" ["self"] ((R_Book_verses K C_Book).sp mg)) (O__law_same : ∀ n, Ok P w K mg base n "_law_same" ["_law_found", "_law_due"] ((R__law_same K n).sp mg)) (D : Df K mg "_law_book_told" s__law_book_told ["_law_book_here", "_law_verses"]) : Ok P w K mg base 4 "_law_book_told" ["_law_book_here", "_law_verses"] ((R__law_book_told K C_Book).sp mg) := by
  have O__law_same := O__law_same 3
  refine D.ok sc__law_book_told (fun vs H Q E h => ?_) (fun f cdv A outer s H vs Q E hr h => ?_)
  · obtain ⟨r, ⟨b, v, ls, rfl, _⟩, _⟩ := h
    rfl
  · obtain ⟨r, ⟨b, v, ls, rfl, hBk, hB, rfl⟩, k⟩ := h
    refine ⟨_, (pss_cons (ps_if (PW.pt (pw_or (pt_not (pt_val (pe_callO O__law_same (hr.mono (by omega)) (by rfl) (takes_of rfl rfl rfl rfl) (pa_cons (pe_methO0 O_Book_many (pv 0) (hr.mono (by omega)) (takes_of rfl rfl rfl rfl)) (pa_cons (pe_callB (call_lenK K) (by rfl) B.len boot_b_len (pa_cons (pv 1) pa_nil)) pa_nil))))) (pw_or1 (pt_not (pt_val (pe_callO O__law_same (hr.mono (by omega)) (by rfl) (takes_of rfl rfl rfl rfl) (pa_cons (pe_methO0 O_Book_verses (pv 0) (hr.mono (by omega)) (takes_of rfl rfl rfl rfl)) (pa_cons (pv 1) pa_nil))))))))
        (pss_one (ps_ret pe_bl))
        pss_nil)
      (pss_one (ps_ret (pe_callB (cr_allK K rfl) (by rfl) B.all boot_b_all (pa_cons (pe_lc (own := [("_law_verse_here", 2)]) rfl sc__law_book_told.nd (pi_range1 (by rfl) B.range (pa_cons (pe_callB (call_lenK K) (by rfl) B.len boot_b_len (pa_cons (pv 1) pa_nil)) pa_nil)) (blkOk_by (N := ["_law_book_here", "_law_verses", "_law_verse_here"]) (sc := defScope s__law_book_told) (by decide +kernel)) (fun _ _ _ _ _ => (pg_name (i := 2) sc__law_book_told.nd rfl (.inl rfl))) (fun _ _ _ _ _ => pts_nil) (fun _ _ _ _ _ => (pe_callO O__law_same (hr.mono (by omega)) (by rfl) takes0 (pa_cons (pe_methO O_Book_verse (pv 0) (hr.mono (by omega)) takes0 (pa_cons (pv 2) pa_nil)) (pa_cons (pe_ix (ix_seqK K) (pv 1) (pv 2) (fun _ _ => rfl)) pa_nil))))) pa_nil))))), ?_⟩
    obtain ⟨⟨dx, p, hb, hBp⟩, hn⟩ := hBk
    have hBk : BookAt K C_Book H b ls := ⟨⟨dx, p, hb, hBp⟩, hn⟩
    obtain ⟨xs, hS, hR⟩ := hB.rows
    have hl := hR.len
    have hl2 := hB.2.1
    refine q_wh (b := false) (Own.one H) (et_or (et_not (et_B (ev_callO (S := R__law_same K 3) (vs := [.int (ls.length : Nat), .int (ls.length : Nat)]) (ea_cons (ev_p (ep_meth (S := R_Book_many K C_Book) (ev_var rfl) hb rfl ea_nil ⟨b, ls, rfl, hBk, rfl⟩)) (ea_cons (ev_is (ev_cb (by wtm_at "ev") (rc_lenL hS)) (by rw [hl])) ea_nil)) ⟨_, _, .int _, rfl, .int _, .int _, trivial, depth_int _, rfl⟩))) fun _ => et_not (et_B (ev_callN (v := .bl true) (S := R__law_same K 3) (eps_cons (P := pRows K ls) (ep_meth (S := R_Book_verses K C_Book) (ev_var rfl) hb rfl ea_nil ⟨b, ls, rfl, hBk, rfl⟩) (eps_cons (ep_v (ev_var rfl)) eps_nil)) fun vs H2 e2 ha => ?_))) (fun h => nomatch h) (fun _ H1 o => ?_)
    · cases ha with
      | cons h1 hr => cases hr with
        | cons h2 hr =>
          cases hr
          obtain ⟨N1, i1, c, rfl, hc, _⟩ := h1
          obtain ⟨_, _, h2⟩ := h2
          have h2 : _ = V.ref v := h2
          subst h2
          exact ⟨_, _, eBook ls, rfl, dp_mono i1 hc.1, dp_mono e2 hB.1, hB.sm, depth_book ls, rfl⟩
    · have hBk := hBk.mono o.e0
      have hB := hB.mono o.e0
      have hS := ex_l o.e0 hS
      have hR := hR.mono o.e0
      have hb := o.e0 _ _ hb
      refine s_rv o (ev_allI (n := ls.length) (fun i => [some (.ref b), some (.ref v), some (.int (i : Nat))]) (fun _ => true) (ei_rng1 (m := (ls.length : Nat)) (ea_cons (ev_is (ev_cb (by wtm_at "ev") (rc_lenL hS)) (by rw [hl])) ea_nil) (by omega)) (Ex.refl _) (by omega) (fun i x H' _ hx Q q => by rw [hx]; exact q) (fun _ _ => rfl) (fun i H2 e2 hi => ?_)) fun H1 o => o.retV k (j := 0) rfl ?_
      · obtain ⟨q, hq, hL⟩ := hB.row hR (i := i) hi
        refine ev_callN (S := R__law_same K 3) (eps_cons (P := pLine (row1 ls i)) (ep_meth (S := R_Book_verse K C_Book) (ev_var rfl) (e2 _ _ hb) rfl (ea_cons (ev_var rfl) ea_nil) ⟨b, ls, (i : Nat), rfl, hBk.mono e2, ?_⟩) (eps_cons (ep_v (ev_op (ev_var rfl) (ev_var rfl) (rv_ixLs (ex_l e2 hS) (atI_nat hq)))) eps_nil)) fun vs H3 e3 ha => ?_
        · unfold verseR
          rw [if_pos ⟨by omega, by omega⟩]
          rfl
        · cases ha with
          | cons h1 hr => cases hr with
            | cons h2 hr =>
              cases hr
              obtain ⟨N1, i1, c, rfl, hc⟩ := h1
              obtain ⟨_, _, h2⟩ := h2
              have h2 : _ = V.ref q := h2
              subst h2
              exact ⟨_, _, eLine (row1 ls i), rfl, dp_line.mpr ⟨c, rfl, sq_of (i1 _ _ hc)⟩, dp_line.mpr ⟨q, rfl, ex_l (e2.trans e3) hL.1⟩, smD_line (by have := hL.2.1; omega), depth_line _, rfl⟩
      · exact congrArg V.bl (List.all_eq_true.mpr fun _ _ => rfl)
/-! ### rows that are spoiled -/
end
abbrev s_need_numbers : Stmt := topS 29
theorem sc_need_numbers : FnScope ["book", "numbers", "number"] ["book", "numbers"] (defScope s_need_numbers) := ⟨rfl, rfl, rfl, by decide +kernel, rfl, by decide +kernel, by decide +kernel⟩
section
variable {P : Program} {w : World} {K : PySem.W.Frag} {mg : Str → Option Value} {base : Heap}
/-- whole numbers at u -/
def Nl (K : PySem.W.Frag) (H : Hp) (u : Addr) (ns : List Int) : Prop := SqL K H u (ns.map V.int) ∧ ns.length ≤ 1000
theorem Nl.mono {H H' : Hp} {u : Addr} {ns : List Int} (e : Ex H H') (h : Nl K H u ns) : Nl K H' u ns := ⟨ex_l e h.1, h.2⟩
def okN (m : Nat) (ns : List Int) : Bool := ns.all fun n => decide (0 ≤ n) && decide (n < (m : Int))
def okR (m : Nat) (ns : List Int) (P : Hp → V → Prop) : Res := if okN m ns = true then .ok P else .err "NoVerse" []
theorem okR_ok {m : Nat} {ns : List Int} {P : Hp → V → Prop} (h : okN m ns = true) : okR m ns P = .ok P := if_pos h
theorem okR_no {m : Nat} {ns : List Int} {P : Hp → V → Prop} (h : okN m ns = false) : okR m ns P = .err "NoVerse" [] := if_neg (by rw [h]; decide)
def R_need_numbers (K : PySem.W.Frag) (C : Addr) : Rl := ⟨fun vs H r => ∃ (b u : Addr) (ls : List (List Str)) (ns : List Int), vs = [.ref b, .ref u] ∧ BookAt K C H b ls ∧ Nl K H u ns ∧ r = okR ls.length ns (is .non), fun e ⟨b, u, ls, ns, h1, h2, h3, h4⟩ => ⟨b, u, ls, ns, h1, h2.mono e, h3.mono e, h4⟩⟩
theorem ok_need_numbers (B : Bt mg) {C_Book C_NoVerse : Addr} (X_NoVerse : Xc K mg "NoVerse" C_NoVerse) (O_Book_many : OkM P w K mg base 1 C_Book "many" ["self"] ((R_Book_many K C_Book).sp mg)) (D : Df K mg "need_numbers" s_need_numbers ["book", "numbers"]) : Ok P w K mg base 2 "need_numbers" ["book", "numbers"] ((R_need_numbers K C_Book).sp mg) := by
  refine D.ok sc_need_numbers (fun vs H Q E h => ?_) (fun f cdv A outer s H vs Q E hr h => ?_)
  · obtain ⟨r, ⟨b, u, ls, ns, rfl, _⟩, _⟩ := h
    rfl
  · obtain ⟨r, ⟨b, u, ls, ns, rfl, hB, ⟨hu, hl⟩, rfl⟩, k⟩ := h
    refine ⟨_, (pss_one (ps_for (passes_of rfl) rfl (pi_listK K (pv 1)) (pg_name (i := 2) sc_need_numbers.nd rfl (.inl rfl))
        (pss_one (ps_if (pt_not (pt_chain op_le op_lt pe_int (pv 2) (pe_methO0 O_Book_many (pv 0) (hr.mono (by omega)) (takes_of rfl rfl rfl rfl))))
          (pss_one (ps_raise rfl (takes_of rfl rfl rfl rfl) (pmk_ex X_NoVerse (by rfl))))
          pss_nil)))), ?_⟩
    obtain ⟨dx, pp, hbi, hbp⟩ := hB.1
    refine s_forN (G := H) (Own.one H) (ei_list (ev_var rfl) hu (Ex.refl _)) (fun i σ H' => ∃ y, σ = [some (.ref b), some (.ref u), y] ∧ Own [H] H' ∧ okN ls.length (ns.take i) = true) (fun H1 o => ⟨_, rfl, o, rfl⟩) (fun i σ H' _ ⟨_, _, o, _⟩ => o.e0) ?_ ?_
    · rintro i x σ H1 H2 hi ⟨y, rfl, o, ha⟩ e hx
      have o := o.mono e
      rw [List.length_map] at hi
      have hx : (ns.map V.int)[i]? = some x := hx
      rw [List.getElem?_map, List.getElem?_eq_getElem hi] at hx
      obtain rfl : V.int ns[i] = x := Option.some.inj hx
      refine s_wh o (et_not (et_test (ev_chain ev_c (ev_var rfl) (ev_p (ep_meth (S := R_Book_many K C_Book) (ev_var rfl) (o.e0 _ _ hbi) rfl ea_nil ⟨b, ls, rfl, hB.mono o.e0, rfl⟩))))) (fun hb H3 o => ?_) (fun hb H3 o => ?_)
      · have e1 : okN ls.length ns = false := by
          unfold okN
          refine List.all_eq_false.mpr ⟨_, List.getElem_mem hi, ?_⟩
          cases hz : (decide (0 ≤ ns[i]) && decide (ns[i] < ((ls.length : Nat) : Int))) with
          | false => decide
          | true => rw [hz] at hb; cases hb
        rw [okR_no e1] at k
        exact k H3 C_NoVerse none (o.ix (i := 0) rfl) X_NoVerse.g (.inl ⟨rfl, rfl⟩)
      · refine ⟨_, rfl, o, ?_⟩
        rw [List.take_succ_eq_append_getElem hi]
        unfold okN at ha ⊢
        rw [List.all_append, ha, Bool.true_and]
        cases hz : (decide (0 ≤ ns[i]) && decide (ns[i] < ((ls.length : Nat) : Int))) with
        | true => simpa using hz
        | false => rw [hz] at hb; cases hb
    · rintro σ H2 ⟨y, rfl, o, ha⟩
      rw [List.length_map, List.take_length] at ha
      rw [okR_ok ha] at k
      exact o.retV k (j := 0) rfl rfl
theorem eqV_int (a b : Int) : eqV (.int a) (.int b) = decide (a = b) := by
  unfold eqV
  by_cases h : a = b <;> simp [h]
theorem inV_ints (i : Int) (ns : List Int) : inV (.int i) (ns.map V.int) = decide (i ∈ ns) := by
  unfold inV
  induction ns with
  | nil => rfl
  | cons n r ih =>
    rw [List.map_cons, List.any_cons, ih, eqV_int]
    by_cases h : n = i
    · subst h
      simp
    · have h2 : ¬ i = n := fun z => h z.symm
      simp [h, h2]
theorem flat_ints (ns : List Int) : (ns.map V.int).all flatV = true := List.all_eq_true.mpr fun x hx => by
  obtain ⟨n, _, rfl⟩ := List.mem_map.mp hx
  rfl
end
section
variable {P : Program} {w : World} {K : PySem.W.Frag} {mg : Str → Option Value} {base : Heap}
theorem dpa_map {α : Type} {f : α → PyData} {H : Hp} : ∀ {xs : List V} {l : List α}, Paired (fun x q => Dp K H x (f q)) xs l → DpAll K H xs (l.map f)
  | _, _, .nil => .nil
  | _, _, .cons h r => .cons h (dpa_map r)
/-- a new list of new pairs -/
def CP (N : Hp) (xs : List V) (acc : List (Str × Nat)) : Prop := Paired (fun x q => ∃ t, x = V.ref t ∧ N t = some (.tup [.str q.1, .int (q.2 : Nat)])) xs acc
theorem CP.mono {N M : Hp} {xs : List V} {acc : List (Str × Nat)} (e : Ex N M) (h : CP N xs acc) : CP M xs acc := paired_imp (fun _ _ ⟨q, h1, h2⟩ => ⟨q, h1, e _ _ h2⟩) h
abbrev eCnt (p : Str × Nat) : PyData := .tuple [.str p.1, .int (p.2 : Nat)]
theorem CP.dp {N : Hp} {xs : List V} {acc : List (Str × Nat)} (h : CP N xs acc) : DpAll K N xs (acc.map eCnt) := dpa_map (paired_imp (fun x q ⟨t, h1, h2⟩ => by rw [h1]; exact .tup (st_of h2) (.cons (.str _) (.cons (.int _) .nil))) h)
end
section
variable {P : Program} {w : World} {K : PySem.W.Frag} {mg : Str → Option Value} {base : Heap}
section
variable {σ : L2.St} {H : Hp} {te ta tb : TE}
end
def OkL (m : Nat) (l : List Str) : Prop := l.length ≤ m ∧ ∀ s ∈ l, TxtOk s
def cLine (m : Nat) : Hp → V → Prop := fun H v => ∃ c l, v = .ref c ∧ H c = some (.lst (l.map V.str)) ∧ OkL m l
theorem Cells.mono {H H' : Hp} {p : Addr} {ls : List (List Str)} (e : Ex H H') (h : Cells H p ls) : Cells H' p ls := by
  obtain ⟨xs, h1, h2⟩ := h
  exact ⟨xs, e _ _ h1, CR.mono e h2⟩
theorem paired_append {α β : Type} {R : α → β → Prop} : ∀ {xs : List α} {ys : List β} {us : List α} {ws : List β}, Paired R xs ys → Paired R us ws → Paired R (xs ++ us) (ys ++ ws)
  | _, _, _, _, .nil, h => h
  | _, _, _, _, .cons a r, h => .cons a (paired_append r h)
theorem paired_take {α β : Type} {R : α → β → Prop} : ∀ {xs : List α} {ys : List β} (n : Nat), Paired R xs ys → Paired R (xs.take n) (ys.take n)
  | _, _, 0, _ => by rw [List.take_zero, List.take_zero]; exact .nil
  | _, _, n + 1, .nil => by simp only [List.take_nil]; exact .nil
  | _, _, n + 1, .cons a r => by simp only [List.take_succ_cons]; exact .cons a (paired_take n r)
theorem paired_drop {α β : Type} {R : α → β → Prop} : ∀ {xs : List α} {ys : List β} (n : Nat), Paired R xs ys → Paired R (xs.drop n) (ys.drop n)
  | _, _, 0, h => by rw [List.drop_zero, List.drop_zero]; exact h
  | _, _, n + 1, .nil => by simp only [List.drop_nil]; exact .nil
  | _, _, n + 1, .cons a r => by simp only [List.drop_succ_cons]; exact paired_drop n r
theorem mod_nat {a b : Int} (h : 0 < b) : ∃ m : Nat, a % b = (m : Int) ∧ (m : Int) < b := ⟨(a % b).toNat, by have := Int.emod_nonneg a (show b ≠ 0 by omega); omega, by have := Int.emod_nonneg a (show b ≠ 0 by omega); have := Int.emod_lt_of_pos a h; omega⟩
end
section
variable {P : Program} {w : World} {K : PySem.W.Frag} {mg : Str → Option Value} {base : Heap}
/-- numbers of verses below n -/
def Un (n : Nat) (us : List Nat) : Prop := (∀ i ∈ us, i < n) ∧ us.length ≤ n + 2
end
section
variable {P : Program} {w : World} {K : PySem.W.Frag} {mg : Str → Option Value} {base : Heap}
abbrev intsN (us : List Nat) : List Int := us.map fun i => ((i : Nat) : Int)
theorem Un.ok {n : Nat} {us : List Nat} (h : Un n us) : okN n (intsN us) = true := by
  unfold okN
  refine List.all_eq_true.mpr fun x hx => ?_
  obtain ⟨i, hi, rfl⟩ := List.mem_map.mp hx
  have := h.1 i hi
  rw [decide_eq_true (by omega), decide_eq_true (by omega)]
  rfl
theorem okN_app {m : Nat} {i : Nat} {ns : List Int} (h : i < m) (hn : okN m ns = true) : okN m ((i : Int) :: ns) = true := by
  rw [show okN m ((i : Int) :: ns) = ((decide (0 ≤ (i : Int)) && decide ((i : Int) < (m : Int))) && okN m ns) from rfl, hn, Bool.and_true, decide_eq_true (show (0 : Int) ≤ i by omega), decide_eq_true (show (i : Int) < m by omega)]
  rfl
end
section
variable {K : PySem.W.Frag} {σ : L2.St} {H : Hp} {ta tb te : TE} {D : Ends} {tz : TS} {Ns : List Hp}
theorem own_off {t : Addr} {u : HO} : ∀ {Ns : List Hp} {H : Hp}, Own Ns H → (∀ M ∈ Ns, M t = none) → Own Ns (upd H t u)
  | [], _, _, _ => trivial
  | M :: r, H, o, h => ⟨fun a v hv => by
      have ne : a ≠ t := fun z => by rw [z, h M List.mem_cons_self] at hv; cases hv
      rw [upd_ne ne]
      exact o.1 a v hv, o.2.1, own_off o.2.2 fun M' hM' => h M' (List.mem_cons_of_mem _ hM')⟩
/-- something within a part is changed -/
theorem Own.setP {t : Addr} {u : HO} {M : Hp} : ∀ {Ns : List Hp} {H : Hp} {j : Nat}, Own Ns H → Ns[j]? = some M → M t ≠ none → Own (Ns.set j (upd M t u)) (upd H t u)
  | N :: r, H, 0, o, h, ht => by
    have e : N = M := Option.some.inj h
    subst e
    refine ⟨fun a v hv => ?_, fun M' hM' a ha => ?_, own_off o.2.2 fun M' hM' => o.2.1 M' hM' t ht⟩
    · by_cases q : a = t
      · subst q
        rw [upd_same] at hv ⊢
        exact hv
      · rw [upd_ne q] at hv ⊢
        exact o.1 a v hv
    · by_cases q : a = t
      · subst q
        exact o.2.1 M' hM' a ht
      · rw [upd_ne q] at ha
        exact o.2.1 M' hM' a ha
  | N :: r, H, j + 1, o, h, ht => by
    have hm : M ∈ r := List.mem_of_getElem? h
    have hN : N t = none := (o.2.1 M hm).symm t ht
    refine ⟨fun a v hv => ?_, fun M' hM' a ha => ?_, Own.setP o.2.2 h ht⟩
    · have ne : a ≠ t := fun z => by rw [z, hN] at hv; cases hv
      rw [upd_ne ne]
      exact o.1 a v hv
    · rcases List.mem_or_eq_of_mem_set hM' with z | z
      · exact o.2.1 M' z a ha
      · subst z
        have ne : a ≠ t := fun q => ha (by rw [q]; exact hN)
        rw [upd_ne ne]
        exact o.2.1 M hm a ha
theorem ep_lst2 {P1 P2 : Hp → V → Prop} (h1 : EvP ta σ H P1) (h2 : EvP tb σ H P2) : EvP (tLst (tCons ta (tCons tb tNil))) σ H (fun N v => ∃ p x y N1 N2, v = .ref p ∧ N p = some (.lst [x, y]) ∧ Ex N1 N ∧ Ex N2 N ∧ P1 N1 x ∧ P2 N2 y ∧ N1 p = none ∧ N2 p = none) := fun H1 e Q q =>
  h1 H1 e _ fun x H2 N1 e2 i1 f1 p1 => h2 H2 (e.trans e2) _ fun y H3 N2 e3 i2 f2 p2 => ⟨by show 2 ≤ sizeLine; decide, fun p hp => by
    have n1 : N1 p = none := ex_none (i1.trans e3) hp
    have n2 : N2 p = none := ex_none i2 hp
    have d12 : ∀ a, N2 a ≠ none → N1 a = none := fun a ha => ex_none i1 (f2 a ha)
    have dp : ∀ a, sing p (.lst [x, y]) a ≠ none → uni N1 N2 a = none := fun a ha => by
      by_cases z : a = p
      · subst z
        unfold uni
        rw [n2, n1]
      · exact absurd (sing_ne z) ha
    refine q (.ref p) _ (uni (uni N1 N2) (sing p (.lst [x, y]))) ((e2.trans e3).trans (Ex.new hp)) (uni_ex (uni_ex ((i1.trans e3).trans (Ex.new hp)) (i2.trans (Ex.new hp))) (sing_ex upd_same)) (uni_fr (uni_fr f1 (f2.back e2)) (sing_fr (fresh_back (e2.trans e3) hp))) ⟨p, x, y, N1, N2, rfl, uni_r _ _ sing_at, (uni_l d12).trans (uni_l dp), uni_r.trans (uni_l dp), p1, p2, n1, n2⟩⟩
section
variable {n j : Nat} {tu : TS}
/-- for x in (a new list of which not all is told) -/
theorem s_forP {X : List V → Hp → Prop} (o : Own Ns H) (h : EvP te σ H (fun N v => ∃ p xs, v = .ref p ∧ N p = some (.lst xs) ∧ X xs N)) (Pv : List V → Hp → Nat → L2.St → Hp → Prop) (h0 : ∀ xs N H1, X xs N → Own (N :: Ns) H1 → Pv xs N 0 σ H1) (hG : ∀ xs N i σ' H', i ≤ xs.length → Pv xs N i σ' H' → Ex N H')
    (hs : ∀ xs N i x σ' H' H'', X xs N → xs[i]? = some x → Pv xs N i σ' H' → Ex H' H'' → tu { D with nx := Pv xs N (i + 1), ct := Pv xs N (i + 1), bk := D.nx } (σ'.set j (some x)) H'') (hd : ∀ xs N σ' H', X xs N → Pv xs N xs.length σ' H' → D.nx σ' H') : tFor (iList K te) (gName j) tu D σ H :=
  ej_listP h H (Ex.refl H) _ fun J H1 N xs e e2 f hX d => for_drw d (Pv xs N) (h0 xs N H1 hX (o.add e e2 f)) (hG xs N) (fun i x σ' H' H'' hi p e hy => hs xs N i x σ' H' H'' hX hy p e) (fun σ' H' p => hd xs N σ' H' hX p)
theorem q_forP {X : List V → Hp → Prop} (o : Own Ns H) (h : EvP te σ H (fun N v => ∃ p xs, v = .ref p ∧ N p = some (.lst xs) ∧ X xs N)) (Pv : List V → Hp → Nat → L2.St → Hp → Prop) (h0 : ∀ xs N H1, X xs N → Own (N :: Ns) H1 → Pv xs N 0 σ H1) (hG : ∀ xs N i σ' H', i ≤ xs.length → Pv xs N i σ' H' → Ex N H')
    (hs : ∀ xs N i x σ' H' H'', X xs N → xs[i]? = some x → Pv xs N i σ' H' → Ex H' H'' → tu { D with nx := Pv xs N (i + 1), ct := Pv xs N (i + 1), bk := tz D } (σ'.set j (some x)) H'') (hd : ∀ xs N σ' H', X xs N → Pv xs N xs.length σ' H' → tz D σ' H') : tSeq (tFor (iList K te) (gName j) tu) tz D σ H :=
  s_forP (D := { D with nx := tz D }) o h Pv h0 hG hs hd
end
end
abbrev s_need_field : Stmt := topS 40
theorem sc_need_field : FnScope ["book", "rows", "row", "card"] ["book", "rows"] (defScope s_need_field) := ⟨rfl, rfl, rfl, by decide +kernel, rfl, by decide +kernel, by decide +kernel⟩
abbrev s_copied : Stmt := topS 42
theorem sc_copied : FnScope ["rows", "row"] ["rows"] (defScope s_copied) := ⟨rfl, rfl, rfl, by decide +kernel, rfl, by decide +kernel, by decide +kernel⟩
section
variable {P : Program} {w : World} {K : PySem.W.Frag} {mg : Str → Option Value} {base : Heap}
/-! ### rows of numbers -/
abbrev eRws (rs : List (List Int)) : PyData := .list (rs.map eInts)
def RwS (K : PySem.W.Frag) (H : Hp) (xs : List V) (rs : List (List Int)) : Prop := Paired (fun x l => ∃ q, x = V.ref q ∧ SqL K H q (l.map V.int)) xs rs
theorem RwS.mono {H H' : Hp} {xs : List V} {rs : List (List Int)} (e : Ex H H') (h : RwS K H xs rs) : RwS K H' xs rs := paired_imp (fun _ _ ⟨q, a, b⟩ => ⟨q, a, ex_l e b⟩) h
theorem dp_rws {H : Hp} {x : V} {rs : List (List Int)} : Dp K H x (eRws rs) ↔ ∃ q xs, x = .ref q ∧ SqL K H q xs ∧ RwS K H xs rs := by
  constructor
  · intro h
    cases h with
    | lst h r =>
      refine ⟨_, _, rfl, h, ?_⟩
      clear h
      rename_i q xs
      induction rs generalizing xs with
      | nil => cases r; exact .nil
      | cons l rs ih =>
        cases r with
        | cons a r =>
          obtain ⟨q, e, s⟩ := dp_ints.mp a
          exact .cons ⟨q, e, s⟩ (ih r)
  · rintro ⟨q, xs, rfl, h, r⟩
    exact .lst h (dpa_map (paired_imp (fun x l ⟨q, e, s⟩ => dp_ints.mpr ⟨q, e, s⟩) r))
/-- rows of numbers at r -/
def Rw (K : PySem.W.Frag) (H : Hp) (r : Addr) (rs : List (List Int)) : Prop := Dp K H (.ref r) (eRws rs) ∧ rs.length ≤ 1000 ∧ ∀ l ∈ rs, l.length ≤ 1000
theorem Rw.mono {H H' : Hp} {r : Addr} {rs : List (List Int)} (e : Ex H H') (h : Rw K H r rs) : Rw K H' r rs := ⟨dp_mono e h.1, h.2⟩
theorem Rw.rows {H : Hp} {r : Addr} {rs : List (List Int)} (h : Rw K H r rs) : ∃ xs, SqL K H r xs ∧ RwS K H xs rs := by
  obtain ⟨q, xs, e, h1, h2⟩ := dp_rws.mp h.1
  cases e
  exact ⟨xs, h1, h2⟩
theorem Rw.ly {H : Hp} {r : Addr} {rs : List (List Int)} (h : Rw K H r rs) : Ly 2 (eRws rs) := ly_list (by rw [List.length_map]; have := h.2.1; omega) fun d hd => by
  obtain ⟨l, hl, rfl⟩ := List.mem_map.mp hd
  exact ly_ints (by have := h.2.2 l hl; omega)
theorem RwS.get {H : Hp} {xs : List V} {rs : List (List Int)} {i : Nat} {l : List Int} (h : RwS K H xs rs) (hi : rs[i]? = some l) : ∃ q, xs[i]? = some (.ref q) ∧ SqL K H q (l.map V.int) := by
  have hlen := Paired.length h
  have hlt := (List.getElem?_eq_some_iff.mp hi).1
  have hx : xs[i]? = some xs[i] := List.getElem?_eq_getElem (by omega)
  obtain ⟨y, hy, q, e, s⟩ := LiI.paired_get h hx
  rw [hi] at hy
  cases hy
  exact ⟨q, by rw [hx, e], s⟩
/-- rows that lie in N itself -/
def CIi (N : Hp) (xs : List V) (rs : List (List Int)) : Prop := Paired (fun x l => ∃ t, x = V.ref t ∧ N t = some (.lst (l.map V.int))) xs rs
theorem CIi.mono {N N' : Hp} {xs : List V} {rs : List (List Int)} (e : Ex N N') (h : CIi N xs rs) : CIi N' xs rs := paired_imp (fun _ _ ⟨t, a, b⟩ => ⟨t, a, e _ _ b⟩) h
abbrev pRw (rs : List (List Int)) : Hp → V → Prop := fun N v => ∃ p xs, v = .ref p ∧ N p = some (.lst xs) ∧ CIi N xs rs
theorem CIi.rw {N : Hp} {p : Addr} {xs : List V} {rs : List (List Int)} (h : N p = some (.lst xs)) (c : CIi N xs rs) (h1 : rs.length ≤ 1000) (h2 : ∀ l ∈ rs, l.length ≤ 1000) : Rw K N p rs := ⟨dp_rws.mpr ⟨p, xs, rfl, sq_of h, paired_imp (fun _ _ ⟨t, a, b⟩ => ⟨t, a, sq_of b⟩) c⟩, h1, h2⟩
/-- [list(row) for row in rows] -/
theorem ep_copyI {σ : L2.St} {H : Hp} {tl : TE} {p : Addr} {rs : List (List Int)} {j : Nat} {vs : List Nat} (S : V → L2.St) (h : Ev tl σ H (.ref p)) (hB : Rw K H p rs) (hg : ∀ x, (wipe σ vs).set j (some x) = S x) (hw : ∀ x, wipe (S x) vs = wipe σ vs) (hj : ∀ x, (S x)[j]? = some (some x)) :
    EvP (tLc (iList K tl) (gName j) tYes (tCB (rListS K) (tCons (tVar j) tNil)) vs) σ H (pRw rs) := by
  obtain ⟨xs, hS, hR⟩ := hB.rows
  have hl := Paired.length hR
  have hl2 := hB.2.1
  refine ep_imp (ep_lc (n := xs.length) (fun i => S (xs.getD i .non)) (fun _ => true) (fun i N y => ∃ p, y = .ref p ∧ N p = some (.lst ((rs.getD i []).map V.int))) (fun i N N' v e ⟨p, h3, h4⟩ => ⟨p, h3, e _ _ h4⟩) (ei_list h hS (Ex.refl _)) (Ex.refl _) (by omega) (fun i x H' _ hx Q q => by rw [getD_of hx, ← hg] at q; exact q) (fun _ _ => hw _) (fun _ _ _ _ => et_yes) (fun i H1 e hlt _ => ?_)) ?_
  · have hi : rs[i]? = some (rs.getD i []) := by rw [List.getD_eq_getElem?_getD, List.getElem?_eq_getElem (by omega)]; rfl
    obtain ⟨q, hq, hL⟩ := hR.get hi
    rw [getD_of hq]
    exact ep_list (ev_var (hj _)) (.inl (ex_l e hL))
  · rintro N v ⟨p', ys, rfl, hp, hpr⟩
    rw [picks_all] at hpr
    have hly := Paired.length hpr
    rw [List.length_range] at hly
    refine ⟨p', ys, rfl, hp, paired_of (by omega) fun i y l h1 h2 => ?_⟩
    obtain ⟨y', h3, p, h4, h5⟩ := paired_get hpr (i := i) (x := i) (List.getElem?_range (by have := (List.getElem?_eq_some_iff.mp h2).1; omega))
    rw [h1] at h3
    cases h3
    rw [List.getD_eq_getElem?_getD, h2] at h5
    exact ⟨p, h4, h5⟩
def R_copied (K : PySem.W.Frag) : Rl := ⟨fun vs H r => ∃ (v : Addr) (rs : List (List Int)), vs = [.ref v] ∧ Rw K H v rs ∧ r = .ok (pRw rs), fun e ⟨v, rs, h1, h2, h3⟩ => ⟨v, rs, h1, h2.mono e, h3⟩⟩
theorem ok_copied (B : Bt mg) (D : Df K mg "copied" s_copied ["rows"]) : Ok P w K mg base 1 "copied" ["rows"] ((R_copied K).sp mg) := by
  refine D.ok sc_copied (fun vs H Q E h => ?_) (fun f cdv A outer s H vs Q E hr h => ?_)
  · obtain ⟨r, ⟨v, rs, rfl, _⟩, _⟩ := h
    rfl
  · obtain ⟨r, ⟨v, rs, rfl, hB, rfl⟩, k⟩ := h
    refine ⟨_, (pss_one (ps_ret (pe_lc (own := [("row", 1)]) rfl sc_copied.nd (pi_listK K (pv 0)) (blkOk_by (N := ["rows", "row"]) (sc := defScope s_copied) (by decide +kernel)) (fun _ _ _ _ _ => (pg_name (i := 1) sc_copied.nd rfl (.inl rfl))) (fun _ _ _ _ _ => pts_nil) (fun _ _ _ _ _ => (pe_callTy (call_listK K) (by rfl) B.list boot_ty_list (pa_cons (pv 1) pa_nil)))))), ?_⟩
    exact s_rn (Own.one H) (ep_copyI (fun x => [some (.ref v), some x]) (ev_var rfl) hB (fun _ => rfl) (fun _ => rfl) (fun _ => rfl)) fun v H1 N o p => o.ret k (i := 0) (j := 1) rfl rfl p
/-! ### what a field may be -/
def okCd (n : Nat) (c : Int) : Bool := decide (0 ≤ c) && decide (c < (n : Int))
def okRw (n : Nat) (l : List Int) : Bool := decide ((l.length : Int) ≤ 12) && l.all (okCd n)
def fldM (n : Nat) (rs : List (List Int)) : Bool := (decide ((1 : Int) ≤ (rs.length : Int)) && decide ((rs.length : Int) ≤ 3)) && rs.all (okRw n)
def fldR (n : Nat) (rs : List (List Int)) : Res := if fldM n rs = true then .ok (is .non) else .err "BadDeal" []
def R_need_field (K : PySem.W.Frag) (C : Addr) : Rl := ⟨fun vs H r => ∃ (b v : Addr) (ls : List (List Str)) (rs : List (List Int)), vs = [.ref b, .ref v] ∧ BookAt K C H b ls ∧ Rw K H v rs ∧ r = fldR ls.length rs, fun e ⟨b, v, ls, rs, h1, h2, h3, h4⟩ => ⟨b, v, ls, rs, h1, h2.mono e, h3.mono e, h4⟩⟩
theorem not_t {b : Bool} (h : (!b) = true) : b = false := by cases b with | true => cases h | false => rfl
theorem not_f {b : Bool} (h : (!b) = false) : b = true := by cases b with | false => cases h | true => rfl
theorem all_take {α : Type} {f : α → Bool} {l : List α} {i : Nat} {x : α} (h : (l.take i).all f = true) (hx : l[i]? = some x) (hf : f x = true) : (l.take (i + 1)).all f = true := by
  obtain ⟨hi, rfl⟩ := List.getElem?_eq_some_iff.mp hx
  rw [List.take_succ_eq_append_getElem hi, List.all_append, h]
  simpa using hf
theorem all_bad {α : Type} {f : α → Bool} {l : List α} {i : Nat} {x : α} (hx : l[i]? = some x) (hf : f x = false) : l.all f = false := List.all_eq_false.mpr ⟨x, List.mem_of_getElem? hx, by rw [hf]; decide⟩
theorem ok_need_field (B : Bt mg) {t_MOST_ROWS t_MOST_CARDS : Tok} {C_Book C_BadDeal : Addr} (c_MOST_ROWS : mg "MOST_ROWS" = some (.int 3 t_MOST_ROWS)) (c_MOST_CARDS : mg "MOST_CARDS" = some (.int 12 t_MOST_CARDS)) (X_BadDeal : Xc K mg "BadDeal" C_BadDeal) (O_Book_many : OkM P w K mg base 1 C_Book "many" ["self"] ((R_Book_many K C_Book).sp mg)) (D : Df K mg "need_field" s_need_field ["book", "rows"]) : Ok P w K mg base 2 "need_field" ["book", "rows"] ((R_need_field K C_Book).sp mg) := by
  refine D.ok sc_need_field (fun vs H Q E h => ?_) (fun f cdv A outer s H vs Q E hr h => ?_)
  · obtain ⟨r, ⟨b, v, ls, rs, rfl, _⟩, _⟩ := h
    rfl
  · obtain ⟨r, ⟨b, v, ls, rs, rfl, hK, hB, rfl⟩, k⟩ := h
    refine ⟨_, (pss_cons (ps_if (pt_not (pt_chain op_le op_le pe_int (pe_callB (call_lenK K) (by rfl) B.len boot_b_len (pa_cons (pv 1) pa_nil)) (pe_glob (v := .int 3) (by rfl) c_MOST_ROWS ⟨_, rfl⟩)))
        (pss_one (ps_raise rfl (takes_of rfl rfl rfl rfl) (pmk_ex X_BadDeal (by rfl))))
        pss_nil)
      (pss_one (ps_for (passes_of rfl) rfl (pi_listK K (pv 1)) (pg_name (i := 2) sc_need_field.nd rfl (.inl rfl))
        (pss_cons (ps_if (pt_cmpR op_gt (pe_callB (call_lenK K) (by rfl) B.len boot_b_len (pa_cons (pv 2) pa_nil)) (pe_glob (v := .int 12) (by rfl) c_MOST_CARDS ⟨_, rfl⟩) (nomark _))
          (pss_one (ps_raise rfl (takes_of rfl rfl rfl rfl) (pmk_ex X_BadDeal (by rfl))))
          pss_nil)
        (pss_one (ps_for (passes_of rfl) rfl (pi_listK K (pv 2)) (pg_name (i := 3) sc_need_field.nd rfl (.inl rfl))
          (pss_one (ps_if (pt_not (pt_chain op_le op_lt pe_int (pv 3) (pe_methO0 O_Book_many (pv 0) (hr.mono (by omega)) (takes_of rfl rfl rfl rfl))))
            (pss_one (ps_raise rfl (takes_of rfl rfl rfl rfl) (pmk_ex X_BadDeal (by rfl))))
            pss_nil)))))))), ?_⟩
    obtain ⟨xs, hS, hR⟩ := hB.rows
    have hl := Paired.length hR
    obtain ⟨dx, pp, hbi, hbp⟩ := id hK.1
    have bad : ∀ {G : Hp}, fldM ls.length rs = false → Own [H] G → E (.ref C_BadDeal) none G := fun {G} e o => by
      have e2 : fldR ls.length rs = .err "BadDeal" [] := by unfold fldR; rw [if_neg (by rw [e]; decide)]
      rw [e2] at k
      exact k G C_BadDeal none o.e0 X_BadDeal.g (.inl ⟨rfl, rfl⟩)
    refine q_wh (Own.one H) (et_not (et_test (ev_chain ev_c (ev_cb (by wtm_at "ev") (rc_lenL hS)) ev_c))) (fun hb H1 o => ?_) (fun hb H1 o => ?_)
    · refine bad ?_ o
      unfold fldM
      rw [hl] at hb
      have hb : (decide ((1 : Int) ≤ (rs.length : Int)) && decide ((rs.length : Int) ≤ 3)) = false := not_t hb
      rw [hb, Bool.false_and]
    have hrl : (decide ((1 : Int) ≤ (rs.length : Int)) && decide ((rs.length : Int) ≤ 3)) = true := by rw [hl] at hb; exact not_f hb
    refine s_forN (G := H) o (ei_list (ev_var rfl) hS o.e0) (fun i σ H' => ∃ y2 y3, σ = [some (.ref b), some (.ref v), y2, y3] ∧ Own [H] H' ∧ (rs.take i).all (okRw ls.length) = true) (fun H1 o => ⟨_, _, rfl, o, rfl⟩) (fun i σ H' _ ⟨_, _, _, o, _⟩ => o.e0) ?_ ?_
    · rintro i x σ H2 H3 hi ⟨y2, y3, rfl, o, ha⟩ e hx
      have o := o.mono e
      have hri : rs[i]? = some rs[i] := List.getElem?_eq_getElem (by omega)
      obtain ⟨q, hq, hL⟩ := hR.get hri
      have hx : xs[i]? = some x := hx
      rw [hq] at hx
      cases hx
      have badR : okRw ls.length rs[i] = false → fldM ls.length rs = false := fun e => by unfold fldM; rw [all_bad hri e, Bool.and_false]
      refine q_wh o (et_test (ev_op (ev_cb (by wtm_at "ev") (rc_lenL (ex_l o.e0 hL))) ev_c rv_I0)) (fun hb H4 o => ?_) (fun hb H4 o => ?_)
      · refine bad (badR ?_) o
        have hb := of_decide_eq_true hb
        rw [List.length_map] at hb
        unfold okRw
        rw [decide_eq_false (by omega), Bool.false_and]
      have hcl : decide ((rs[i].length : Int) ≤ 12) = true := by
        have hb := of_decide_eq_false hb
        rw [List.length_map] at hb
        exact decide_eq_true (by omega)
      refine s_forN (G := H) o (ei_list (ev_var rfl) hL o.e0) (fun j σ H' => ∃ y3, σ = [some (.ref b), some (.ref v), some (.ref q), y3] ∧ Own [H] H' ∧ (rs[i].take j).all (okCd ls.length) = true) (fun H1 o => ⟨_, rfl, o, rfl⟩) (fun j σ H' _ ⟨_, _, o, _⟩ => o.e0) ?_ ?_
      · rintro j x σ H5 H6 hj ⟨y3, rfl, o, hc⟩ e hx
        have o := o.mono e
        rw [List.length_map] at hj
        have hcj : rs[i][j]? = some rs[i][j] := List.getElem?_eq_getElem hj
        have hx : (rs[i].map V.int)[j]? = some x := hx
        rw [List.getElem?_map, hcj] at hx
        obtain rfl : V.int rs[i][j] = x := Option.some.inj hx
        refine s_wh o (et_not (et_test (ev_chain ev_c (ev_var rfl) (ev_p (ep_meth (S := R_Book_many K C_Book) (ev_var rfl) (o.e0 _ _ hbi) rfl ea_nil ⟨b, ls, rfl, hK.mono o.e0, rfl⟩))))) (fun hb H7 o => ?_) (fun hb H7 o => ⟨_, rfl, o, all_take hc hcj (not_f hb)⟩)
        refine bad (badR ?_) o
        unfold okRw
        rw [all_bad (f := okCd ls.length) hcj (not_t hb), Bool.and_false]
      · rintro σ H5 ⟨y3, rfl, o, hc⟩
        rw [List.length_map, List.take_length] at hc
        exact ⟨_, _, rfl, o, all_take ha hri (by unfold okRw; rw [hcl, hc]; rfl)⟩
    · rintro σ H2 ⟨y2, y3, rfl, o, ha⟩
      rw [hl, List.take_length] at ha
      have e2 : fldR ls.length rs = .ok (is .non) := by unfold fldR fldM; rw [hrl, ha]; rfl
      rw [e2] at k
      exact o.retV k (j := 0) rfl rfl
end
abbrev s_places_of : Stmt := topS 41
theorem sc_places_of : FnScope ["fields", "found", "field", "rows", "row", "cards", "place", "card"] ["fields"] (defScope s_places_of) := ⟨rfl, rfl, rfl, by decide +kernel, rfl, by decide +kernel, by decide +kernel⟩
section
variable {P : Program} {w : World} {K : PySem.W.Frag} {mg : Str → Option Value} {base : Heap}
/-! ### where the cards lie -/
abbrev Pl := Int × Nat × Nat × Nat
def cardsP (f r : Nat) (l : List Int) : List Pl := l.zipIdx.map fun p => (p.1, f, r, p.2)
def rowsP (f : Nat) (rs : List (List Int)) : List Pl := rs.zipIdx.flatMap fun p => cardsP f p.2 p.1
def plM (Fs : List (List (List Int))) : List Pl := Fs.zipIdx.flatMap fun p => rowsP p.2 p.1
theorem zip_snoc {α : Type} (l : List α) (x : α) : (l ++ [x]).zipIdx = l.zipIdx ++ [(x, l.length)] := by
  rw [List.zipIdx_append, Nat.zero_add]
  rfl
theorem take_snoc {α : Type} {l : List α} {i : Nat} {x : α} (h : l[i]? = some x) : l.take (i + 1) = l.take i ++ [x] ∧ (l.take i).length = i := by
  obtain ⟨hi, rfl⟩ := List.getElem?_eq_some_iff.mp h
  exact ⟨List.take_succ_eq_append_getElem hi, by rw [List.length_take]; omega⟩
theorem cardsP_snoc {f r i : Nat} {l : List Int} {c : Int} (h : l[i]? = some c) : cardsP f r (l.take (i + 1)) = cardsP f r (l.take i) ++ [(c, f, r, i)] := by
  obtain ⟨e, n⟩ := take_snoc h
  unfold cardsP
  rw [e, zip_snoc, List.map_append, n]
  rfl
theorem rowsP_snoc {f i : Nat} {rs : List (List Int)} {l : List Int} (h : rs[i]? = some l) : rowsP f (rs.take (i + 1)) = rowsP f (rs.take i) ++ cardsP f i l := by
  obtain ⟨e, n⟩ := take_snoc h
  unfold rowsP
  rw [e, zip_snoc, List.flatMap_append, n, List.flatMap_cons, List.flatMap_nil, List.append_nil]
theorem plM_snoc {i : Nat} {Fs : List (List (List Int))} {F : List (List Int)} (h : Fs[i]? = some F) : plM (Fs.take (i + 1)) = plM (Fs.take i) ++ rowsP i F := by
  obtain ⟨e, n⟩ := take_snoc h
  unfold plM
  rw [e, zip_snoc, List.flatMap_append, n, List.flatMap_cons, List.flatMap_nil, List.append_nil]
theorem pre_map {α β : Type} (g : α × Nat → List β) : ∀ (l : List α) (i k : Nat), ∃ rest : List β, (l.zipIdx k).flatMap g = ((l.take i).zipIdx k).flatMap g ++ rest
  | [], i, k => ⟨[], by simp⟩
  | x :: l, 0, k => ⟨((x :: l).zipIdx k).flatMap g, by simp⟩
  | x :: l, i + 1, k => by
    obtain ⟨rest, h⟩ := pre_map g l i (k + 1)
    exact ⟨rest, by rw [List.take_succ_cons, List.zipIdx_cons, List.zipIdx_cons, List.flatMap_cons, List.flatMap_cons, h, List.append_assoc]⟩
theorem plM_pre (Fs : List (List (List Int))) (i : Nat) : ∃ rest, plM Fs = plM (Fs.take i) ++ rest := pre_map (fun p => rowsP p.2 p.1) Fs i 0
theorem rowsP_pre (f : Nat) (rs : List (List Int)) (i : Nat) : ∃ rest, rowsP f rs = rowsP f (rs.take i) ++ rest := pre_map (fun p => cardsP f p.2 p.1) rs i 0
theorem cardsP_pre (f r : Nat) (l : List Int) (i : Nat) : ∃ rest, cardsP f r l = cardsP f r (l.take i) ++ rest := by
  refine ⟨cardsP f r l |>.drop (cardsP f r (l.take i)).length, ?_⟩
  have e : cardsP f r (l.take i) = (cardsP f r l).take i := by
    unfold cardsP
    rw [← List.map_take]
    congr 1
    exact List.ext_getElem? fun j => by
      rw [List.getElem?_zipIdx, List.getElem?_take, List.getElem?_take, List.getElem?_zipIdx]
      split <;> simp
  have e2 : (cardsP f r (l.take i)).length = min i (cardsP f r l).length := by rw [e, List.length_take]
  rw [e2]
  rw [e]
  by_cases h : i ≤ (cardsP f r l).length
  · rw [Nat.min_eq_left h, List.take_append_drop]
  · rw [Nat.min_eq_right (by omega), List.take_of_length_le (by omega), List.drop_length, List.append_nil]
/-- the dict of the places; the tuples lie in N -/
def KP (N : Hp) (kvs : List (Key × V)) (acc : List Pl) : Prop := Paired (fun kv q => kv.1 = .inl q.1 ∧ ∃ t, kv.2 = V.ref t ∧ N t = some (.tup [.int (q.2.1 : Nat), .int (q.2.2.1 : Nat), .int (q.2.2.2 : Nat)])) kvs acc
theorem KP.mono {N N' : Hp} {kvs : List (Key × V)} {acc : List Pl} (e : Ex N N') (h : KP N kvs acc) : KP N' kvs acc := paired_imp (fun _ _ ⟨a, t, b, c⟩ => ⟨a, t, b, e _ _ c⟩) h
theorem KP.has : ∀ {N : Hp} {kvs : List (Key × V)} {acc : List Pl} (c : Int), KP N kvs acc → (valV kvs (.inl c)).isSome = decide (c ∈ acc.map (·.1))
  | _, [], _, c, .nil => by simp [valV]
  | _, (k, v) :: kvs, q :: acc, c, .cons h r => by
    have ih := KP.has c r
    have hk : k = .inl q.1 := h.1
    by_cases e : q.1 = c
    · have h1 : valV ((k, v) :: kvs) (.inl c) = some v := valV_pos (p := (k, v)) (by rw [hk, e])
      rw [h1]
      simp [e]
    · have h1 : valV ((k, v) :: kvs) (.inl c) = valV kvs (.inl c) := valV_neg (p := (k, v)) (fun z => e (by rw [hk] at z; exact Sum.inl.inj z))
      rw [h1, ih]
      have : c ∈ (q :: acc).map (·.1) ↔ c ∈ acc.map (·.1) := by
        rw [List.map_cons, List.mem_cons]
        exact ⟨fun z => z.elim (fun y => absurd y.symm e) id, .inr⟩
      by_cases hm : c ∈ acc.map (·.1)
      · rw [decide_eq_true hm, decide_eq_true (this.mpr hm)]
      · rw [decide_eq_false hm, decide_eq_false fun z => hm (this.mp z)]
theorem KP.val : ∀ {N : Hp} {kvs : List (Key × V)} {acc : List Pl} {q : Pl}, KP N kvs acc → (acc.map (·.1)).Nodup → q ∈ acc → ∃ t, valV kvs (.inl q.1) = some (.ref t) ∧ N t = some (.tup [.int (q.2.1 : Nat), .int (q.2.2.1 : Nat), .int (q.2.2.2 : Nat)])
  | _, [], _, q, .nil, _, hq => by cases hq
  | _, (k, v) :: kvs, p :: acc, q, .cons h r, nd, hq => by
    rw [List.map_cons] at nd
    obtain ⟨n1, n2⟩ := List.nodup_cons.mp nd
    have hk : k = .inl p.1 := h.1
    rcases List.mem_cons.mp hq with e | e
    · subst e
      obtain ⟨_, t, hv, ht⟩ := h
      exact ⟨t, by rw [valV_pos (p := (k, v)) (show k = .inl q.1 from hk)]; exact congrArg some hv, ht⟩
    · have ne : ¬ k = .inl q.1 := fun z => n1 (by
        rw [hk] at z
        rw [Sum.inl.inj z]
        exact List.mem_map.mpr ⟨q, e, rfl⟩)
      obtain ⟨t, h1, h2⟩ := KP.val r n2 e
      exact ⟨t, by rw [valV_neg (p := (k, v)) ne]; exact h1, h2⟩
theorem put_new {N : Hp} {kvs : List (Key × V)} {acc : List Pl} {c : Int} {v : V} (h : KP N kvs acc) (hc : c ∉ acc.map (·.1)) : putK kvs (.inl c) v = kvs ++ [(.inl c, v)] := by
  unfold putK
  rw [if_neg]
  intro z
  obtain ⟨kv, hk, e⟩ := List.any_eq_true.mp z
  obtain ⟨j, q, h1, h2, h3, _⟩ := LiI.paired_ix h hk
  have e := of_decide_eq_true e
  rw [h3] at e
  exact hc (List.mem_map.mpr ⟨q, List.mem_of_getElem? h2, Sum.inl.inj e⟩)
/-- fields of rows at f -/
def Fd (K : PySem.W.Frag) (H : Hp) (f : Addr) (Fs : List (List (List Int))) : Prop := ∃ xs, SqL K H f xs ∧ Paired (fun x F => ∃ q, x = V.ref q ∧ Rw K H q F) xs Fs ∧ Fs.length ≤ 100 ∧ (plM Fs).length ≤ 1000
theorem Fd.mono {H H' : Hp} {f : Addr} {Fs : List (List (List Int))} (e : Ex H H') (h : Fd K H f Fs) : Fd K H' f Fs := by
  obtain ⟨xs, h1, h2, h3⟩ := h
  exact ⟨xs, ex_l e h1, paired_imp (fun _ _ ⟨q, a, b⟩ => ⟨q, a, b.mono e⟩) h2, h3⟩
def goodP (Fs : List (List (List Int))) : Bool := decide (((plM Fs).map (·.1)).Nodup)
abbrev pPl (acc : List Pl) : Hp → V → Prop := fun N v => ∃ p kvs, v = .ref p ∧ N p = some (.dK kvs) ∧ KP N kvs acc
def placesR (Fs : List (List (List Int))) : Res := if goodP Fs = true then .ok (pPl (plM Fs)) else .err "BadDeal" []
def R_places_of (K : PySem.W.Frag) : Rl := ⟨fun vs H r => ∃ (f : Addr) (Fs : List (List (List Int))), vs = [.ref f] ∧ Fd K H f Fs ∧ r = placesR Fs, fun e ⟨f, Fs, h1, h2, h3⟩ => ⟨f, Fs, h1, h2.mono e, h3⟩⟩
/-- what stands while the places are gathered -/
def StP (H : Hp) (d : Addr) (acc : List Pl) (H' : Hp) : Prop := ∃ (T : Hp) (kvs : List (Key × V)), Own [sing d (.dK kvs), T, H] H' ∧ KP T kvs acc ∧ (acc.map (·.1)).Nodup
theorem StP.mono {H G G' : Hp} {d : Addr} {acc : List Pl} (e : Ex G G') : StP H d acc G → StP H d acc G' := fun ⟨T, kvs, o, h1, h2⟩ => ⟨T, kvs, o.mono e, h1, h2⟩
theorem StP.eH {H G : Hp} {d : Addr} {acc : List Pl} : StP H d acc G → Ex H G := fun ⟨T, kvs, o, _⟩ => o.e2
theorem ok_places_of (B : Bt mg) {C_BadDeal : Addr} (X_BadDeal : Xc K mg "BadDeal" C_BadDeal) (D : Df K mg "places_of" s_places_of ["fields"]) : Ok P w K mg base 1 "places_of" ["fields"] ((R_places_of K).sp mg) := by
  refine D.ok sc_places_of (fun vs H Q E h => ?_) (fun f cdv A outer s H vs Q E hr h => ?_)
  · obtain ⟨r, ⟨f, Fs, rfl, _⟩, _⟩ := h
    rfl
  · obtain ⟨r, ⟨f, Fs, rfl, ⟨xs, hS, hR, hFl, hpl⟩, rfl⟩, k⟩ := h
    refine ⟨_, (pss_cons (ps_set (i := 1) sc_places_of.nd rfl (.inl rfl) pe_dnewK)
      (pss_cons (ps_for (passes_of rfl) rfl (pi_enumK K (by rfl) B.enumerate (pa_cons (pv 0) pa_nil)) (pg_tupK K (n := 2) rfl (pgs_cons (pg_name (i := 2) sc_places_of.nd rfl (.inl rfl)) (pgs_cons (pg_name (i := 3) sc_places_of.nd rfl (.inl rfl)) pgs_nil)))
        (pss_one (ps_for (passes_of rfl) rfl (pi_enumK K (by rfl) B.enumerate (pa_cons (pv 3) pa_nil)) (pg_tupK K (n := 2) rfl (pgs_cons (pg_name (i := 4) sc_places_of.nd rfl (.inl rfl)) (pgs_cons (pg_name (i := 5) sc_places_of.nd rfl (.inl rfl)) pgs_nil)))
          (pss_one (ps_for (passes_of rfl) rfl (pi_enumK K (by rfl) B.enumerate (pa_cons (pv 5) pa_nil)) (pg_tupK K (n := 2) rfl (pgs_cons (pg_name (i := 6) sc_places_of.nd rfl (.inl rfl)) (pgs_cons (pg_name (i := 7) sc_places_of.nd rfl (.inl rfl)) pgs_nil)))
            (pss_cons (ps_if (pt_cmp (pc_din (hu_of hr) (pv 7) (pv 1)))
              (pss_one (ps_raise rfl (takes_of rfl rfl rfl rfl) (pmk_ex X_BadDeal (by rfl))))
              pss_nil)
            (pss_one (ps_dput (hu_of hr) (pv 1) (pv 7) (pe_tup (pa_cons (pv 2) (pa_cons (pv 4) (pa_cons (pv 6) pa_nil)))) rfl))))))))
      (pss_one (ps_ret (pv 1))))), ?_⟩
    have hxl := Paired.length hR
    refine q_n (P := pDct []) (Own.one H) ep_dnew fun vd H1 N1 o hp => ?_
    obtain ⟨d, rfl, hd⟩ := hp
    have o := own_emp (own_sing o hd)
    have bad : ∀ {G : Hp}, goodP Fs = false → Ex H G → E (.ref C_BadDeal) none G := fun {G} e o => by
      have e2 : placesR Fs = .err "BadDeal" [] := by unfold placesR; rw [if_neg (by rw [e]; decide)]
      rw [e2] at k
      exact k G C_BadDeal none o X_BadDeal.g (.inl ⟨rfl, rfl⟩)
    refine q_for (G := H) o (ei_enum (by wtm_at "ev") hS o.e2) (fun i σ H' => ∃ y2 y3 y4 y5 y6 y7, σ = [some (.ref f), some (.ref d), y2, y3, y4, y5, y6, y7] ∧ StP H d (plM (Fs.take i)) H') (fun H2 o => ⟨_, _, _, _, _, _, rfl, emp, [], o, .nil, by simp [plM]⟩) (fun i σ H' _ ⟨_, _, _, _, _, _, _, st⟩ => st.eH) ?_ ?_
    · rintro i x σ H2 H3 hi ⟨y2, y3, y4, y5, y6, y7, rfl, st⟩ e ⟨T0, y, rfl, hT, hy⟩
      obtain ⟨T, kvs, o, hkp, nd⟩ := st.mono e
      obtain ⟨F, hF, q, rfl, hRw⟩ := LiI.paired_get hR hy
      obtain ⟨zs, hZ, hZr⟩ := hRw.rows
      have hzl := Paired.length hZr
      refine ⟨T0, _, rfl, st_of hT, rfl, _, _, rfl, _, _, rfl, rfl, ?_⟩
      refine s_for (G := H) o (ei_enum (by wtm_at "ev") hZ o.e2) (fun j σ H' => ∃ y4 y5 y6 y7, σ = [some (.ref f), some (.ref d), some (.int (i : Nat)), some (.ref q), y4, y5, y6, y7] ∧ StP H d (plM (Fs.take i) ++ rowsP i (F.take j)) H') (fun H4 o => ⟨_, _, _, _, rfl, T, kvs, o, by simpa [rowsP] using hkp, by simpa [rowsP] using nd⟩) (fun j σ H' _ ⟨_, _, _, _, _, st⟩ => st.eH) ?_ ?_
      · rintro j x σ H4 H5 hj ⟨y4, y5, y6, y7, rfl, st⟩ e ⟨T1, y, rfl, hT1, hy1⟩
        obtain ⟨T, kvs, o, hkp, nd⟩ := st.mono e
        obtain ⟨l, hl, q1, rfl, hL⟩ := LiI.paired_get hZr hy1
        refine ⟨T1, _, rfl, st_of hT1, rfl, _, _, rfl, _, _, rfl, rfl, ?_⟩
        refine s_for (G := H) o (ei_enum (by wtm_at "ev") hL o.e2) (fun n σ H' => ∃ y6 y7, σ = [some (.ref f), some (.ref d), some (.int (i : Nat)), some (.ref q), some (.int (j : Nat)), some (.ref q1), y6, y7] ∧ StP H d (plM (Fs.take i) ++ rowsP i (F.take j) ++ cardsP i j (l.take n)) H') (fun H6 o => ⟨_, _, rfl, T, kvs, o, by simpa [cardsP] using hkp, by simpa [cardsP] using nd⟩) (fun n σ H' _ ⟨_, _, _, st⟩ => st.eH) ?_ ?_
        · rintro n x σ H6 H7 hn ⟨y6, y7, rfl, st⟩ e ⟨T2, y, rfl, hT2, hy2⟩
          obtain ⟨T, kvs, o, hkp, nd⟩ := st.mono e
          rw [List.length_map] at hn
          have hcn : l[n]? = some l[n] := List.getElem?_eq_getElem hn
          rw [List.getElem?_map, hcn] at hy2
          obtain rfl : V.int l[n] = y := Option.some.inj hy2
          have pre : ∃ rest, plM Fs = plM (Fs.take i) ++ rowsP i (F.take j) ++ cardsP i j (l.take n) ++ (l[n], i, j, n) :: rest := by
            obtain ⟨r1, h1⟩ := plM_pre Fs (i + 1)
            obtain ⟨r2, h2⟩ := rowsP_pre i F (j + 1)
            obtain ⟨r3, h3⟩ := cardsP_pre i j l (n + 1)
            refine ⟨r3 ++ (r2 ++ r1), ?_⟩
            rw [h1, plM_snoc hF, h2, rowsP_snoc hl, h3, cardsP_snoc hcn]
            simp only [List.append_assoc, List.cons_append, List.nil_append]
          obtain ⟨rest, hpre⟩ := pre
          have hacc : (plM (Fs.take i) ++ rowsP i (F.take j) ++ cardsP i j (l.take n)).length ≤ 1000 := by
            have := congrArg List.length hpre
            rw [List.length_append] at this
            omega
          have hkl := Paired.length hkp
          refine ⟨T2, _, rfl, st_of hT2, rfl, _, _, rfl, _, _, rfl, rfl, ?_⟩
          refine q_wh o (et_is (et_B (ev_din (k := .inl l[n]) (ev_var rfl) (o.e0 _ _ sing_at) (ev_var rfl))) (hkp.has l[n])) (fun hb H8 o => ?_) (fun hb H8 o => ?_)
          · refine bad ?_ o.e2
            have hm := of_decide_eq_true hb
            unfold goodP
            refine decide_eq_false fun z => ?_
            rw [hpre, List.map_append, List.map_cons] at z
            exact (List.nodup_append.mp z).2.2 _ hm _ List.mem_cons_self rfl
          · have hm := of_decide_eq_false hb
            refine s_dput (k := .inl l[n]) (P := pTup [.int (i : Nat), .int (j : Nat), .int (n : Nat)]) (j := 0) o rfl (ep_tup (by wtm_at "ev")) (ev_var rfl) (ev_var rfl) (by omega) fun v H9 N o hp => ?_
            obtain ⟨t, rfl, ht⟩ := hp
            rw [put_new hkp hm] at o
            have o : Own [N, sing d (.dK (kvs ++ [(.inl l[n], .ref t)])), T, H] H9 := o
            have dj : ∀ a, N a ≠ none → T a = none := o.dj (i := 0) (j := 2) (by decide) rfl rfl
            refine ⟨_, _, rfl, uni T N, _, own_merge2 o.swap, ?_, ?_⟩
            · rw [cardsP_snoc hcn, ← List.append_assoc]
              exact paired_append (hkp.mono (uni_l dj)) (.cons ⟨rfl, t, rfl, uni_r _ _ ht⟩ .nil)
            · rw [cardsP_snoc hcn, ← List.append_assoc, List.map_append]
              refine List.nodup_append.mpr ⟨nd, by simp, fun a ha b hb e => hm ?_⟩
              have hb : b = l[n] := by simpa using hb
              rw [← hb, ← e]
              exact ha
        · rintro σ H6 ⟨y6, y7, rfl, st⟩
          rw [List.length_map, List.take_length] at st
          exact ⟨_, _, _, _, rfl, by rw [rowsP_snoc hl, ← List.append_assoc]; exact st⟩
      · rintro σ H4 ⟨y4, y5, y6, y7, rfl, st⟩
        rw [hzl, List.take_length] at st
        exact ⟨_, _, _, _, _, _, rfl, by rw [plM_snoc hF]; exact st⟩
    · rintro σ H2 ⟨y2, y3, y4, y5, y6, y7, rfl, T, kvs, o, hkp, nd⟩
      rw [hxl, List.take_length] at hkp nd
      have e2 : placesR Fs = .ok (pPl (plM Fs)) := by unfold placesR goodP; rw [if_pos (decide_eq_true nd)]
      rw [e2] at k
      have dj : ∀ a, (sing d (.dK kvs)) a ≠ none → T a = none := o.dj (i := 0) (j := 1) (by decide) rfl rfl
      have o2 : Own [uni T (sing d (.dK kvs)), H] H2 := o.merge
      exact s_rv o2 (ev_var rfl) fun H3 o => o.ret k (i := 0) (j := 1) rfl rfl ⟨d, kvs, rfl, uni_r _ _ sing_at, hkp.mono (uni_l dj)⟩
end
abbrev s_Deald__initd_ : Stmt := inClass (topS 43) 0
theorem sc_Deald__initd_ : FnScope ["self", "book", "zero", "one"] ["self", "book", "zero", "one"] (defScope s_Deald__initd_) := ⟨rfl, rfl, rfl, by decide +kernel, rfl, by decide +kernel, by decide +kernel⟩
abbrev s_Deal_book : Stmt := inClass (topS 43) 1
theorem sc_Deal_book : FnScope ["self"] ["self"] (defScope s_Deal_book) := ⟨rfl, rfl, rfl, by decide +kernel, rfl, by decide +kernel, by decide +kernel⟩
abbrev s_Deal_rows : Stmt := inClass (topS 43) 2
theorem sc_Deal_rows : FnScope ["self", "field"] ["self", "field"] (defScope s_Deal_rows) := ⟨rfl, rfl, rfl, by decide +kernel, rfl, by decide +kernel, by decide +kernel⟩
abbrev s_Deal_cards : Stmt := inClass (topS 43) 3
theorem sc_Deal_cards : FnScope ["self", "field", "found", "row"] ["self", "field"] (defScope s_Deal_cards) := ⟨rfl, rfl, rfl, by decide +kernel, rfl, by decide +kernel, by decide +kernel⟩
abbrev s_Deal_where : Stmt := inClass (topS 43) 4
theorem sc_Deal_where : FnScope ["self", "verse"] ["self", "verse"] (defScope s_Deal_where) := ⟨rfl, rfl, rfl, by decide +kernel, rfl, by decide +kernel, by decide +kernel⟩
section
variable {P : Program} {w : World} {K : PySem.W.Frag} {mg : Str → Option Value} {base : Heap}
theorem q_fld {σ : L2.St} {H : Hp} {ta te : TE} {tz : TS} {P : Hp → V → Prop} {C : Addr} {Ns : List Hp} {D : Ends} {a dx : Addr} {gs : List (Str × V)} {f : Str} {j : Nat} (o : Own Ns H) (hj : Ns[j]? = some (sing a (.ins C dx gs))) (ho : Ev ta σ H (.ref a)) (h : EvP te σ H P) (c : Cls K C) (n : NoAttr K C f) (hl : gs.length < 1000) (k : ∀ v H1 N, Own (N :: Ns.set j (sing a (.ins C dx (putF f v gs)))) H1 → P N v → tz D σ H1) : tSeq (sFld K ta te f) tz D σ H := s_fld (D := { D with nx := tz D }) o hj ho h c n hl k
theorem s_fler {σ : L2.St} {H : Hp} {ta te : TE} {W : WX} {xn : Str} {fs : List (Str × V)} {D : Ends} {f : Str} (h : EvErr mg W xn fs te σ H) (k : RaiseX mg xn fs H (WE W σ)) : sFld K ta te f D σ H := h H (Ex.refl H) k _
/-- xs.extend(ys) -/
theorem s_ext {σ : L2.St} {H : Hp} {ta tb : TE} {Ns : List Hp} {D : Ends} {l b : Addr} {xs zs : List V} {j : Nat} (o : Own Ns H) (hj : Ns[j]? = some (sing l (.lst xs))) (ha : Ev ta σ H (.ref l)) (hb : Ev tb σ H (.ref b)) (hz : H b = some (.lst zs)) (hl : xs.length + zs.length ≤ 100000) (k : ∀ H1, Own (Ns.set j (sing l (.lst (xs ++ zs)))) H1 → D.nx σ H1) : tDrop (tBM K "list" rExtend ta (tCons tb tNil)) D σ H := ha H (Ex.refl H) _ fun H1 e1 =>
  ⟨Or.inl ⟨rfl, xs, sq_of (e1 l _ (o.at hj))⟩, hb H1 e1 _ fun H2 e2 => by
    have o2 : Own Ns H2 := (o.mono e1).mono e2
    exact ⟨l, b, xs, zs, rfl, rfl, o2.at hj, e2 _ _ (e1 _ _ hz), sz_of hl, k _ (o2.set hj)⟩⟩
theorem flat_len {α β : Type} {g : α × Nat → List β} {c : Nat} : ∀ (l : List α) (k : Nat), (∀ p ∈ l.zipIdx k, (g p).length ≤ c) → ((l.zipIdx k).flatMap g).length ≤ c * l.length
  | [], k, _ => by simp
  | x :: l, k, h => by
    rw [List.zipIdx_cons] at h
    have h1 := h (x, k) List.mem_cons_self
    have h2 := flat_len l (k + 1) fun p hp => h p (List.mem_cons_of_mem _ hp)
    rw [List.zipIdx_cons, List.flatMap_cons, List.length_append, List.length_cons, Nat.mul_succ]
    omega
theorem fld_rows {n : Nat} {rs : List (List Int)} (h : fldM n rs = true) : (1 ≤ rs.length ∧ rs.length ≤ 3) ∧ ∀ l ∈ rs, l.length ≤ 12 ∧ ∀ c ∈ l, 0 ≤ c ∧ c < (n : Int) := by
  unfold fldM at h
  simp only [Bool.and_eq_true, decide_eq_true_eq, List.all_eq_true] at h
  refine ⟨⟨by omega, by omega⟩, fun l hl => ?_⟩
  have h2 := h.2 l hl
  unfold okRw okCd at h2
  simp only [Bool.and_eq_true, decide_eq_true_eq, List.all_eq_true] at h2
  exact ⟨by omega, fun c hc => h2.2 c hc⟩
theorem plM_len {n : Nat} {F0 F1 : List (List Int)} (h0 : fldM n F0 = true) (h1 : fldM n F1 = true) : (plM [F0, F1]).length ≤ 72 := by
  have row : ∀ {F : List (List Int)}, fldM n F = true → ∀ f, (rowsP f F).length ≤ 36 := fun {F} h f => by
    obtain ⟨⟨_, g1⟩, g2⟩ := fld_rows h
    have := flat_len (g := fun p => cardsP f p.2 p.1) (c := 12) F 0 fun p hp => by
      unfold cardsP
      rw [List.length_map, List.length_zipIdx]
      have hm : p.1 ∈ F := by
        obtain ⟨x, i⟩ := p
        exact (List.mem_zipIdx hp).2.2 ▸ List.getElem_mem _
      exact (g2 p.1 hm).1
    unfold rowsP
    omega
  have e : plM [F0, F1] = rowsP 0 F0 ++ rowsP 1 F1 := by simp [plM]
  rw [e, List.length_append]
  have := row h0 0
  have := row h1 1
  omega
/-- rows of the heap's own -/
def HC (H : Hp) (a : Addr) (F : List (List Int)) : Prop := ∃ xs, H a = some (.lst xs) ∧ CIi H xs F
theorem HC.mono {H H' : Hp} {a : Addr} {F : List (List Int)} (e : Ex H H') (h : HC H a F) : HC H' a F := by
  obtain ⟨xs, h1, h2⟩ := h
  exact ⟨xs, e _ _ h1, h2.mono e⟩
/-- a deal: its rows and the places lie in things of its own -/
def DealK (K : PySem.W.Frag) (C : Addr) (H : Hp) (d b : Addr) (F0 F1 : List (List Int)) (kvs : List (Key × V)) : Prop := ∃ dx pf ph a0 a1, H d = some (.ins C dx [("bound", .ref b), ("fields", .ref pf), ("homes", .ref ph)]) ∧ H pf = some (.lst [.ref a0, .ref a1]) ∧ Rw K H a0 F0 ∧ Rw K H a1 F1 ∧ H ph = some (.dK kvs) ∧ KP H kvs (plM [F0, F1]) ∧ HC H a0 F0 ∧ HC H a1 F1
theorem DealK.mono {C : Addr} {H H' : Hp} {d b : Addr} {F0 F1 : List (List Int)} {kvs : List (Key × V)} (e : Ex H H') (h : DealK K C H d b F0 F1 kvs) : DealK K C H' d b F0 F1 kvs := by
  obtain ⟨dx, pf, ph, a0, a1, h1, h2, h3, h4, h5, h6, h7, h8⟩ := h
  exact ⟨dx, pf, ph, a0, a1, e _ _ h1, e _ _ h2, h3.mono e, h4.mono e, e _ _ h5, h6.mono e, h7.mono e, h8.mono e⟩
def dealM (n : Nat) (F0 F1 : List (List Int)) : Bool := fldM n F0 && (fldM n F1 && goodP [F0, F1])
abbrev pDeal (K : PySem.W.Frag) (C b : Addr) (F0 F1 : List (List Int)) : Hp → V → Prop := fun N v => ∃ d kvs, v = .ref d ∧ DealK K C N d b F0 F1 kvs
def dealR (n : Nat) (F0 F1 : List (List Int)) (P : Hp → V → Prop) : Res := if dealM n F0 F1 = true then .ok P else .err "BadDeal" []
structure TDeal (K : PySem.W.Frag) (mg : Str → Option Value) (C : Addr) : Prop where
  cl : Cls K C
  g : mg "Deal" = some (.ref C)
  n_bound : NoAttr K C "bound"
  n_fields : NoAttr K C "fields"
  n_homes : NoAttr K C "homes"
def R_Deal (K : PySem.W.Frag) (CB C : Addr) : Rl := ⟨fun vs H r => ∃ (b z o : Addr) (ls : List (List Str)) (F0 F1 : List (List Int)), vs = [.ref b, .ref z, .ref o] ∧ BookAt K CB H b ls ∧ Rw K H z F0 ∧ Rw K H o F1 ∧ r = dealR ls.length F0 F1 (pDeal K C b F0 F1), fun e ⟨b, z, o, ls, F0, F1, h1, h2, h3, h4, h5⟩ => ⟨b, z, o, ls, F0, F1, h1, h2.mono e, h3.mono e, h4.mono e, h5⟩⟩
theorem ok_Deald__initd_ (B : Bt mg) {C_Book C_Deal : Addr} (T : TDeal K mg C_Deal) (O_need_field : Ok P w K mg base 2 "need_field" ["book", "rows"] ((R_need_field K C_Book).sp mg)) (O_copied : Ok P w K mg base 1 "copied" ["rows"] ((R_copied K).sp mg)) (O_places_of : Ok P w K mg base 1 "places_of" ["fields"] ((R_places_of K).sp mg)) (D : Dm K C_Deal "__init__" "Deal.__init__" s_Deald__initd_ ["self", "book", "zero", "one"]) : OkM P w K mg base 3 C_Deal "__init__" ["self", "book", "zero", "one"] ((R_Deal K C_Book C_Deal).spI mg C_Deal) := by
  refine D.ok sc_Deald__initd_ (fun vs H Q E h => ?_) (fun f cdv A outer s H vs Q E hr h => ?_)
  · obtain ⟨x, dx, us, G, r, rfl, _, _, _, _, ⟨b, z, o, ls, F0, F1, rfl, _⟩, _⟩ := h
    rfl
  · obtain ⟨x, dx, us, G, r, rfl, rfl, hx, hdx, hne, ⟨b, z, n, ls, F0, F1, rfl, hK, h0, h1, rfl⟩, k⟩ := h
    refine ⟨_, (pss_cons (ps_expr (pe_callO O_need_field (hr.mono (by omega)) (by rfl) (takes_of rfl rfl rfl rfl) (pa_cons (pv 1) (pa_cons (pv 2) pa_nil))))
      (pss_cons (ps_expr (pe_callO O_need_field (hr.mono (by omega)) (by rfl) (takes_of rfl rfl rfl rfl) (pa_cons (pv 1) (pa_cons (pv 3) pa_nil))))
      (pss_cons (ps_fldK K (pv 0) (pv 1))
      (pss_cons (ps_fldK K (pv 0) (pe_lst (pa_cons (pe_callO O_copied (hr.mono (by omega)) (by rfl) (takes_of rfl rfl rfl rfl) (pa_cons (pv 2) pa_nil)) (pa_cons (pe_callO O_copied (hr.mono (by omega)) (by rfl) (takes_of rfl rfl rfl rfl) (pa_cons (pv 3) pa_nil)) pa_nil))))
      (pss_one (ps_fldK K (pv 0) (pe_callO O_places_of (hr.mono (by omega)) (by rfl) (takes_of rfl rfl rfl rfl) (pa_cons (pe_fldK K (pv 0)) pa_nil)))))))), ?_⟩
    have o : Own [sing x (.ins C_Deal dx []), G] _ := own_init hx hdx hne
    have bad : dealM ls.length F0 F1 = false → RaiseX mg "BadDeal" [] G E := fun e => by
      have e2 : dealR ls.length F0 F1 (pDeal K C_Deal b F0 F1) = .err "BadDeal" [] := by unfold dealR; rw [if_neg (by rw [e]; decide)]
      rw [e2] at k
      exact k
    cases g0 : fldM ls.length F0 with
    | false =>
      exact q_der (er_call (S := R_need_field K C_Book) (vs := [.ref b, .ref z]) (by wtm_at "ev") ⟨b, z, ls, F0, rfl, hK.mono o.e1, h0.mono o.e1, by unfold fldR; rw [g0]; rfl⟩) ((bad (by unfold dealM; rw [g0]; rfl)).fwd o.e1)
    | true =>
      refine q_dv o (ep_call (S := R_need_field K C_Book) (P := is .non) (vs := [.ref b, .ref z]) (by wtm_at "ev") ⟨b, z, ls, F0, rfl, hK.mono o.e1, h0.mono o.e1, by unfold fldR; rw [g0]; rfl⟩) fun H1 o => ?_
      cases g1 : fldM ls.length F1 with
      | false =>
        exact q_der (er_call (S := R_need_field K C_Book) (vs := [.ref b, .ref n]) (by wtm_at "ev") ⟨b, n, ls, F1, rfl, hK.mono o.e1, h1.mono o.e1, by unfold fldR; rw [g1]; rfl⟩) ((bad (by unfold dealM; rw [g0, g1]; rfl)).fwd o.e1)
      | true =>
        refine q_dv o (ep_call (S := R_need_field K C_Book) (P := is .non) (vs := [.ref b, .ref n]) (by wtm_at "ev") ⟨b, n, ls, F1, rfl, hK.mono o.e1, h1.mono o.e1, by unfold fldR; rw [g1]; rfl⟩) fun H1 o => ?_
        refine q_fld (P := is (.ref b)) (j := 0) o rfl (ev_var rfl) (ep_v (ev_var rfl)) T.cl T.n_bound (by show 0 < 1000; decide) fun v H1 N o hp => ?_
        have hp : v = .ref b := hp
        subst hp
        have o : Own [sing x (.ins C_Deal dx [("bound", .ref b)]), G] H1 := o.tail
        refine q_fld (j := 0) o rfl (ev_var rfl) (ep_lst2 (ep_call (S := R_copied K) (P := pRw F0) (vs := [.ref z]) (by wtm_at "ev") ⟨z, F0, rfl, h0.mono o.e1, rfl⟩) (ep_call (S := R_copied K) (P := pRw F1) (vs := [.ref n]) (by wtm_at "ev") ⟨n, F1, rfl, h1.mono o.e1, rfl⟩)) T.cl T.n_fields (by show 1 < 1000; decide) fun v H1 N o hp => ?_
        obtain ⟨pf, _, _, M0, M1, rfl, hpf, i0, i1, ⟨a0, x0, rfl, q0, c0⟩, ⟨a1, x1, rfl, q1, c1⟩, _, _⟩ := hp
        have o : Own [N, sing x (.ins C_Deal dx [("bound", .ref b), ("fields", .ref pf)]), G] H1 := o
        have r0 : Rw K N a0 F0 := CIi.rw (i0 _ _ q0) (c0.mono i0) h0.2.1 h0.2.2
        have r1 : Rw K N a1 F1 := CIi.rw (i1 _ _ q1) (c1.mono i1) h1.2.1 h1.2.2
        have hFd : Fd K H1 pf [F0, F1] := ⟨[.ref a0, .ref a1], sq_of (o.e0 _ _ hpf), .cons ⟨a0, rfl, r0.mono o.e0⟩ (.cons ⟨a1, rfl, r1.mono o.e0⟩ .nil), Nat.le_of_ble_eq_true rfl, by have := plM_len g0 g1; omega⟩
        have evf : Ev (tFld K (tVar 0) "fields") [some (.ref x), some (.ref b), some (.ref z), some (.ref n)] H1 (.ref pf) := ev_fld (ev_var rfl) (o.e1 _ _ sing_at) T.cl T.n_fields rfl
        cases gp : goodP [F0, F1] with
        | false =>
          exact s_fler (er_call (S := R_places_of K) (vs := [.ref pf]) (ea_cons evf ea_nil) ⟨pf, _, rfl, hFd, by unfold placesR; rw [gp]; rfl⟩) ((bad (by unfold dealM; rw [g0, g1, gp]; rfl)).fwd o.e2)
        | true =>
          have e2 : dealR ls.length F0 F1 (pDeal K C_Deal b F0 F1) = .ok (pDeal K C_Deal b F0 F1) := by unfold dealR dealM; rw [g0, g1, gp]; rfl
          rw [e2] at k
          refine s_fld (j := 1) o rfl (ev_var rfl) (ep_call (S := R_places_of K) (P := pPl (plM [F0, F1])) (vs := [.ref pf]) (ea_cons evf ea_nil) ⟨pf, _, rfl, hFd, by unfold placesR; rw [gp]; rfl⟩) T.cl T.n_homes (by show 2 < 1000; decide) fun v H2 N2 o hp => ?_
          obtain ⟨ph, kvs, rfl, hph, hkp⟩ := hp
          have o : Own [N2, N, sing x (.ins C_Deal dx [("bound", .ref b), ("fields", .ref pf), ("homes", .ref ph)]), G] H2 := o
          have d1 : Ex N (uni N N2) := uni_l (o.dj (i := 0) (j := 1) (by decide) rfl rfl)
          have o2 := o.merge
          have d2 : Ex (sing x (.ins C_Deal dx [("bound", .ref b), ("fields", .ref pf), ("homes", .ref ph)])) (uni (sing x (.ins C_Deal dx [("bound", .ref b), ("fields", .ref pf), ("homes", .ref ph)])) (uni N N2)) := uni_l (o2.dj (i := 0) (j := 1) (by decide) rfl rfl)
          have o3 := o2.merge
          exact k H2 _ o3.e1 o3.e0 (o3.dj (i := 0) (j := 1) (by decide) rfl rfl) ⟨x, kvs, rfl, dx, pf, ph, a0, a1, d2 _ _ sing_at, uni_r _ _ (d1 _ _ hpf), r0.mono (d1.trans uni_r), r1.mono (d1.trans uni_r), uni_r _ _ (uni_r _ _ hph), hkp.mono (uni_r.trans uni_r), ⟨x0, (d1.trans uni_r) _ _ (i0 _ _ q0), c0.mono (i0.trans (d1.trans uni_r))⟩, ⟨x1, (d1.trans uni_r) _ _ (i1 _ _ q1), c1.mono (i1.trans (d1.trans uni_r))⟩⟩
def R_Deal_book (K : PySem.W.Frag) (C : Addr) : Rl := ⟨fun vs H r => ∃ (d b : Addr) (F0 F1 : List (List Int)) (kvs : List (Key × V)), vs = [.ref d] ∧ DealK K C H d b F0 F1 kvs ∧ r = .ok (is (.ref b)), fun e ⟨d, b, F0, F1, kvs, h1, h2, h3⟩ => ⟨d, b, F0, F1, kvs, h1, h2.mono e, h3⟩⟩
theorem ok_Deal_book (B : Bt mg) {C_Deal : Addr} (T : TDeal K mg C_Deal) (D : Dm K C_Deal "book" "Deal.book" s_Deal_book ["self"]) : OkM P w K mg base 1 C_Deal "book" ["self"] ((R_Deal_book K C_Deal).sp mg) := by
  refine D.ok sc_Deal_book (fun vs H Q E h => ?_) (fun f cdv A outer s H vs Q E hr h => ?_)
  · obtain ⟨r, ⟨d, b, F0, F1, kvs, rfl, _⟩, _⟩ := h
    rfl
  · obtain ⟨r, ⟨d, b, F0, F1, kvs, rfl, ⟨dx, pf, ph, a0, a1, h1, _⟩, rfl⟩, k⟩ := h
    refine ⟨_, (pss_one (ps_ret (pe_fldK K (pv 0)))), ?_⟩
    exact s_rv (Own.one H) (ev_fld (ev_var rfl) h1 T.cl T.n_bound rfl) fun H1 o => o.retV k (j := 0) rfl rfl
def fieldM (F0 F1 : List (List Int)) (i : Int) : List (List Int) := if i = 0 then F0 else F1
def fieldR (i : Int) (P : Hp → V → Prop) : Res := if 0 ≤ i ∧ i ≤ 1 then .ok P else .err "NoField" []
def R_Deal_rows (K : PySem.W.Frag) (C : Addr) : Rl := ⟨fun vs H r => ∃ (d b : Addr) (F0 F1 : List (List Int)) (kvs : List (Key × V)) (i : Int), vs = [.ref d, .int i] ∧ DealK K C H d b F0 F1 kvs ∧ r = fieldR i (pRw (fieldM F0 F1 i)), fun e ⟨d, b, F0, F1, kvs, i, h1, h2, h3⟩ => ⟨d, b, F0, F1, kvs, i, h1, h2.mono e, h3⟩⟩
theorem ok_Deal_rows (B : Bt mg) {C_Deal C_NoField : Addr} (T : TDeal K mg C_Deal) (X_NoField : Xc K mg "NoField" C_NoField) (O_copied : Ok P w K mg base 1 "copied" ["rows"] ((R_copied K).sp mg)) (D : Dm K C_Deal "rows" "Deal.rows" s_Deal_rows ["self", "field"]) : OkM P w K mg base 2 C_Deal "rows" ["self", "field"] ((R_Deal_rows K C_Deal).sp mg) := by
  refine D.ok sc_Deal_rows (fun vs H Q E h => ?_) (fun f cdv A outer s H vs Q E hr h => ?_)
  · obtain ⟨r, ⟨d, b, F0, F1, kvs, i, rfl, _⟩, _⟩ := h
    rfl
  · obtain ⟨r, ⟨d, b, F0, F1, kvs, i, rfl, ⟨dx, pf, ph, a0, a1, h1, h2, h3, h4, _⟩, rfl⟩, k⟩ := h
    refine ⟨_, (pss_cons (ps_if (pt_not (pt_chain op_le op_le pe_int (pv 1) pe_int))
        (pss_one (ps_raise rfl (takes_of rfl rfl rfl rfl) (pmk_ex X_NoField (by rfl))))
        pss_nil)
      (pss_one (ps_ret (pe_callO O_copied (hr.mono (by omega)) (by rfl) (takes_of rfl rfl rfl rfl) (pa_cons (pe_ix (ix_seqK K) (pe_fldK K (pv 0)) (pv 1) (fun _ _ => rfl)) pa_nil))))), ?_⟩
    refine q_wh (Own.one H) (et_not (et_test (ev_chain ev_c (ev_var rfl) ev_c))) (fun hb H1 o => ?_) (fun hb H1 o => ?_)
    · have hb := not_t hb
      have e : fieldR i (pRw (fieldM F0 F1 i)) = .err "NoField" [] := by
        unfold fieldR
        rw [if_neg]
        rintro ⟨z1, z2⟩
        rw [decide_eq_true z1, decide_eq_true z2] at hb
        cases hb
      rw [e] at k
      exact k H1 C_NoField none o.e0 X_NoField.g (.inl ⟨rfl, rfl⟩)
    · have hb := not_f hb
      simp only [Bool.and_eq_true, decide_eq_true_eq] at hb
      have e : fieldR i (pRw (fieldM F0 F1 i)) = .ok (pRw (fieldM F0 F1 i)) := by unfold fieldR; rw [if_pos hb]
      rw [e] at k
      obtain ⟨a, ha, hr⟩ : ∃ a, atI [V.ref a0, .ref a1] i = some (.ref a) ∧ Rw K H1 a (fieldM F0 F1 i) := by
        by_cases z : i = 0
        · subst z
          exact ⟨a0, rfl, h3.mono o.e0⟩
        · have : i = 1 := by omega
          subst this
          exact ⟨a1, rfl, h4.mono o.e0⟩
      exact s_rn o (ep_call (S := R_copied K) (P := pRw (fieldM F0 F1 i)) (vs := [.ref a]) (ea_cons (ev_op (ev_fld (ev_var rfl) (o.e0 _ _ h1) T.cl T.n_fields rfl) (ev_var rfl) (rv_ixLs (sq_of (o.e0 _ _ h2)) ha)) ea_nil) ⟨a, _, rfl, hr, rfl⟩) fun v H2 N o p => o.ret k (i := 0) (j := 1) rfl rfl p
def R_Deal_cards (K : PySem.W.Frag) (C : Addr) : Rl := ⟨fun vs H r => ∃ (d b : Addr) (F0 F1 : List (List Int)) (kvs : List (Key × V)) (i : Int), vs = [.ref d, .int i] ∧ DealK K C H d b F0 F1 kvs ∧ (fieldM F0 F1 i).flatten.length ≤ 90000 ∧ r = fieldR i (pLst ((fieldM F0 F1 i).flatten.map V.int)), fun e ⟨d, b, F0, F1, kvs, i, h1, h2, h3⟩ => ⟨d, b, F0, F1, kvs, i, h1, h2.mono e, h3⟩⟩
theorem ok_Deal_cards (B : Bt mg) {C_Deal : Addr} (O_Deal_rows : OkM P w K mg base 2 C_Deal "rows" ["self", "field"] ((R_Deal_rows K C_Deal).sp mg)) (D : Dm K C_Deal "cards" "Deal.cards" s_Deal_cards ["self", "field"]) : OkM P w K mg base 3 C_Deal "cards" ["self", "field"] ((R_Deal_cards K C_Deal).sp mg) := by
  refine D.ok sc_Deal_cards (fun vs H Q E h => ?_) (fun f cdv A outer s H vs Q E hr h => ?_)
  · obtain ⟨r, ⟨d, b, F0, F1, kvs, i, rfl, _⟩, _⟩ := h
    rfl
  · obtain ⟨r, ⟨d, b, F0, F1, kvs, i, rfl, hD, hfl, rfl⟩, k⟩ := h
    refine ⟨_, (pss_cons (ps_set (i := 2) sc_Deal_cards.nd rfl (.inl rfl) (pe_lst pa_nil))
      (pss_cons (ps_for (passes_of rfl) rfl (pi_listK K (pe_methO O_Deal_rows (pv 0) (hr.mono (by omega)) (takes_of rfl rfl rfl rfl) (pa_cons (pv 1) pa_nil))) (pg_name (i := 3) sc_Deal_cards.nd rfl (.inl rfl))
        (pss_one (ps_expr (pe_bmK K PySem.F.plainAttrs_list PySem.F.slot_list_extend PySem.F.type_list_extend mt_extend (pv 2) (pa_cons (pv 3) pa_nil)))))
      (pss_one (ps_ret (pv 2))))), ?_⟩
    obtain ⟨dx, pf, ph, a0, a1, h1, _⟩ := id hD
    refine q_l (xs := ([] : List Int).map V.int) (Own.one H) (el_lst ea_nil (Nat.le_of_ble_eq_true rfl)) fun l H1 o => ?_
    by_cases hi : 0 ≤ i ∧ i ≤ 1
    · have e : ∀ P, fieldR i P = .ok P := fun P => by unfold fieldR; rw [if_pos hi]
      rw [e] at k
      refine q_forP (K := K) (X := fun xs N => CIi N xs (fieldM F0 F1 i)) o (ep_meth (S := R_Deal_rows K C_Deal) (ev_var rfl) (o.e1 _ _ h1) rfl (ea_cons (ev_var rfl) ea_nil) ⟨d, b, F0, F1, kvs, i, rfl, hD.mono o.e1, (e _).symm⟩) (fun xs N j σ H' => ∃ y3, σ = [some (.ref d), some (.int i), some (.ref l), y3] ∧ Own [N, sing l (.lst (((fieldM F0 F1 i).take j).flatten.map V.int)), H] H') (fun xs N H2 _ o => ⟨_, rfl, o⟩) (fun xs N j σ H' _ ⟨_, _, o⟩ => o.e0) ?_ ?_
      · rintro xs N j x σ H2 H3 hX hx ⟨y3, rfl, o⟩ e
        have o := o.mono e
        obtain ⟨r, hr, t, rfl, ht⟩ := LiI.paired_get hX hx
        obtain ⟨e1, _⟩ := take_snoc hr
        have e2 : ((fieldM F0 F1 i).take (j + 1)).flatten = ((fieldM F0 F1 i).take j).flatten ++ r := by rw [e1, List.flatten_append]; simp
        have hle : (((fieldM F0 F1 i).take (j + 1)).flatten).length ≤ (fieldM F0 F1 i).flatten.length := by
          have h3 := congrArg (fun z => z.flatten.length) (List.take_append_drop (j + 1) (fieldM F0 F1 i))
          simp only [List.flatten_append, List.length_append] at h3
          omega
        rw [e2, List.length_append] at hle
        refine s_ext (K := K) (j := 1) o rfl (ev_var rfl) (ev_var rfl) (o.e0 _ _ ht) (by rw [List.length_map, List.length_map]; omega) fun H4 o => ⟨_, rfl, ?_⟩
        rw [e2, List.map_append]
        exact o
      · rintro xs N σ H2 hX ⟨y3, rfl, o⟩
        rw [Paired.length hX, List.take_length] at o
        exact s_rv o (ev_var rfl) fun H3 o => o.ret k (i := 1) (j := 2) rfl rfl ⟨l, rfl, sing_at⟩
    · have e : ∀ P, fieldR i P = .err "NoField" [] := fun P => by unfold fieldR; rw [if_neg hi]
      rw [e] at k
      exact q_forEr (er_meth (S := R_Deal_rows K C_Deal) (ev_var rfl) (o.e1 _ _ h1) rfl (ea_cons (ev_var rfl) ea_nil) ⟨d, b, F0, F1, kvs, i, rfl, hD.mono o.e1, (e _).symm⟩) (k.fwd o.e1)
def R_Deal_where (K : PySem.W.Frag) (CB C : Addr) : Rl := ⟨fun vs H r => ∃ (d b : Addr) (ls : List (List Str)) (F0 F1 : List (List Int)) (kvs : List (Key × V)) (i : Int), vs = [.ref d, .int i] ∧ DealK K C H d b F0 F1 kvs ∧ BookAt K CB H b ls ∧ r = okR ls.length [i] (is ((valV kvs (.inl i)).getD .non)), fun e ⟨d, b, ls, F0, F1, kvs, i, h1, h2, h3, h4⟩ => ⟨d, b, ls, F0, F1, kvs, i, h1, h2.mono e, h3.mono e, h4⟩⟩
theorem ok_Deal_where (B : Bt mg) {C_Book C_Deal : Addr} (T : TDeal K mg C_Deal) (O_need_numbers : Ok P w K mg base 2 "need_numbers" ["book", "numbers"] ((R_need_numbers K C_Book).sp mg)) (D : Dm K C_Deal "where" "Deal.where" s_Deal_where ["self", "verse"]) : OkM P w K mg base 3 C_Deal "where" ["self", "verse"] ((R_Deal_where K C_Book C_Deal).sp mg) := by
  refine D.ok sc_Deal_where (fun vs H Q E h => ?_) (fun f cdv A outer s H vs Q E hr h => ?_)
  · obtain ⟨r, ⟨d, b, ls, F0, F1, kvs, i, rfl, _⟩, _⟩ := h
    rfl
  · obtain ⟨r, ⟨d, b, ls, F0, F1, kvs, i, rfl, ⟨dx, pf, ph, a0, a1, h1, h2, h3, h4, h5, h6, _⟩, hK, rfl⟩, k⟩ := h
    refine ⟨_, (pss_cons (ps_expr (pe_callO O_need_numbers (hr.mono (by omega)) (by rfl) (takes_of rfl rfl rfl rfl) (pa_cons (pe_fldK K (pv 0)) (pa_cons (pe_lst (pa_cons (pv 1) pa_nil)) pa_nil))))
      (pss_one (ps_ret (pe_dget1 (hu_of hr) (pe_fldK K (pv 0)) (pv 1) ⟨rfl, rfl, rfl, rfl⟩)))), ?_⟩
    have nn : ∀ vs H2, Ex H H2 → All2 H2 [is (.ref b), pLst ([i].map V.int)] vs → ∃ c, vs = [.ref b, .ref c] ∧ BookAt K C_Book H2 b ls ∧ Nl K H2 c [i] := fun vs H2 e ha => by
      obtain ⟨x, y, rfl, ⟨_, _, g1⟩, N9, i9, c9, rfl, h9⟩ := all2_two ha
      have g1 : x = .ref b := g1
      subst g1
      exact ⟨c9, rfl, hK.mono e, sq_of (i9 _ _ h9), Nat.le_of_ble_eq_true rfl⟩
    have av : EvPs (tCons (tFld K (tVar 0) "bound") (tCons (tLst (tCons (tVar 1) tNil)) tNil)) [some (.ref d), some (.int i)] H [is (.ref b), pLst ([i].map V.int)] := eps_cons (ep_v (ev_fld (ev_var rfl) h1 T.cl T.n_bound rfl)) (eps_cons (ep_lst (ea_cons (ev_var rfl) ea_nil)) eps_nil)
    cases hok : okN ls.length [i] with
    | false =>
      rw [okR_no hok] at k
      exact q_der (er_callN (S := R_need_numbers K C_Book) av fun vs H2 e ha => by
        obtain ⟨c, rfl, g1, g2⟩ := nn vs H2 e ha
        exact ⟨b, c, ls, [i], rfl, g1, g2, (okR_no hok).symm⟩) k
    | true =>
      rw [okR_ok hok] at k
      refine q_dv (Own.one H) (ep_callN (S := R_need_numbers K C_Book) (P := is .non) av fun vs H2 e ha => by
        obtain ⟨c, rfl, g1, g2⟩ := nn vs H2 e ha
        exact ⟨b, c, ls, [i], rfl, g1, g2, (okR_ok hok).symm⟩) fun H1 o => ?_
      exact s_rv o (ev_dget1 (k := .inl i) (ev_fld (ev_var rfl) (o.e0 _ _ h1) T.cl T.n_homes rfl) (o.e0 _ _ h5) (ev_var rfl)) fun H2 o => o.retV k (j := 0) rfl rfl
end
abbrev s__law_fields : Stmt := topS 55
theorem sc__law_fields : FnScope ["_law_many", "_law_d", "_law_rows", "_law_verse_here", "_law_draw", "_law_home", "_law_row", "_law_k"] ["_law_many", "_law_d"] (defScope s__law_fields) := ⟨rfl, rfl, rfl, by decide +kernel, rfl, by decide +kernel, by decide +kernel⟩
section
variable {P : Program} {w : World} {K : PySem.W.Frag} {mg : Str → Option Value} {base : Heap}
/-! ### lists of new lists, unlike one another -/
def CA (N : Hp) (ts : List Addr) (Cs : List (List V)) : Prop := Paired (fun t l => N t = some (.lst l)) ts Cs
theorem CA.mono {N N' : Hp} {ts : List Addr} {Cs : List (List V)} (e : Ex N N') (h : CA N ts Cs) : CA N' ts Cs := paired_imp (fun _ _ a => e _ _ a) h
theorem ep_lcNew {σ : L2.St} {H G : Hp} {te : TE} {g : TG} {wi : TI} {n : Nat} {Y : Nat → V → Hp → Prop} {vs : List Nat} (S : Nat → L2.St) (v : Nat → List V) (hi : EvI wi σ H G n Y) (eG : Ex G H) (hn : n ≤ 50000) (hg : ∀ i x H', i < n → Y i x H' → ∀ Q : L2.St → Hp → Prop, Q (S i) H' → g x (wipe σ vs) H' Q) (hw : ∀ i, i < n → wipe (S i) vs = wipe σ vs)
    (he : ∀ i H1, Ex H H1 → i < n → EvL te (S i) H1 (v i)) :
    EvP (tLc wi g tYes te vs) σ H (fun N w => ∃ p ts, w = .ref p ∧ N p = some (.lst (ts.map V.ref)) ∧ CA N ts ((List.range n).map v) ∧ (p :: ts).Nodup) := fun H0 e Q q =>
  hi H0 e _ fun J H1 e1 d Dl hD => lc_drw d (fun i H' => ∃ (N : Hp) (ts : List Addr), Own [sing Dl (.lst (ts.map V.ref)), N, H1] H' ∧ CA N ts ((List.range i).map v) ∧ (Dl :: ts).Nodup ∧ ts.length = i)
    ⟨emp, [], ⟨sing_ex upd_same, fun M hM a ha => by
      rcases List.mem_cons.mp hM with z | z
      · subst z; rfl
      · have z : M = H1 := by simpa using z
        subst z
        by_cases qa : a = Dl
        · subst qa; exact hD
        · exact absurd (sing_ne qa) ha, emp_ex, (fun _ _ a ha => absurd rfl ha), Ex.new hD, (fun _ h => nomatch h), trivial⟩, .nil, by simp, rfl⟩
    (fun i H' _ ⟨N, ts, o, _⟩ => ((eG.trans e).trans e1).trans o.e2) (fun i x H' H'' hlt ⟨N, ts, o, pr, nd, hl⟩ e2 hy => hg i x H'' hlt hy _ ⟨hw i hlt, by
      have o2 := o.mono e2
      show te (S i) H'' _
      refine he i H'' ((e.trans e1).trans o2.e2) hlt H'' (Ex.refl _) _ fun t H4 ht e4 h4 => ?_
      have o4 : Own [sing t (.lst (v i)), sing Dl (.lst (ts.map V.ref)), N, H1] H4 := o2.add e4 (sing_ex h4) (sing_fr ht)
      have hN : N t = none := ex_none o2.e1 ht
      have htD : t ≠ Dl := fun z => by
        have := o2.e0 Dl _ sing_at
        rw [← z, ht] at this
        cases this
      have htn : t ∉ ts := fun hm => by
        obtain ⟨j, l, _, _, g3⟩ := LiI.paired_ix pr hm
        rw [hN] at g3
        cases g3
      refine ⟨ts.map V.ref, o4.at (j := 1) rfl, by rw [List.length_map]; exact sz_lt (by omega), uni N (sing t (.lst (v i))), ts ++ [t], ?_, ?_, ?_, by rw [List.length_append, hl]; rfl⟩
      · have e5 : (ts ++ [t]).map V.ref = ts.map V.ref ++ [.ref t] := by rw [List.map_append]; rfl
        rw [e5]
        have o5 : Own [sing t (.lst (v i)), sing Dl (.lst (ts.map V.ref ++ [.ref t])), N, H1] (upd H4 Dl (.lst (ts.map V.ref ++ [.ref t]))) := o4.set (j := 1) rfl
        exact own_merge2 o5.swap
      · have dj : ∀ a, (sing t (.lst (v i))) a ≠ none → N a = none := o4.dj (i := 0) (j := 2) (by decide) rfl rfl
        rw [List.range_succ, List.map_append]
        exact paired_append (CA.mono (uni_l dj) pr) (.cons (uni_r _ _ sing_at) .nil)
      · obtain ⟨n1, n2⟩ := List.nodup_cons.mp nd
        refine List.nodup_cons.mpr ⟨fun z => ?_, List.nodup_append.mpr ⟨n2, by simp, fun a ha b hb e => ?_⟩⟩
        · rcases List.mem_append.mp z with z | z
          · exact n1 z
          · exact htD (List.mem_singleton.mp z).symm
        · exact htn (by rw [← List.mem_singleton.mp hb, ← e]; exact ha)⟩) (fun H' ⟨N, ts, o, pr, nd, _⟩ => q (.ref Dl) H' (uni N (sing Dl (.lst (ts.map V.ref)))) (e1.trans o.e2) (uni_ex o.e1 o.e0) (uni_fr (Fr.back e1 (o.dj (i := 1) (j := 2) (by decide) rfl rfl)) (sing_fr (fresh_back e1 hD))) ⟨Dl, ts, rfl, uni_r _ _ sing_at, pr.mono (uni_l (o.dj (i := 0) (j := 1) (by decide) rfl rfl)), nd⟩)
theorem ep_lst2D {σ : L2.St} {H : Hp} {ta tb : TE} {P1 P2 : Hp → V → Prop} (h1 : EvP ta σ H P1) (h2 : EvP tb σ H P2) : EvP (tLst (tCons ta (tCons tb tNil))) σ H (fun N v => ∃ p x y N1 N2, v = .ref p ∧ N p = some (.lst [x, y]) ∧ Ex N1 N ∧ Ex N2 N ∧ P1 N1 x ∧ P2 N2 y ∧ N1 p = none ∧ N2 p = none ∧ ∀ a, N2 a ≠ none → N1 a = none) := fun H1 e Q q =>
  h1 H1 e _ fun x H2 N1 e2 i1 f1 p1 => h2 H2 (e.trans e2) _ fun y H3 N2 e3 i2 f2 p2 => ⟨by show 2 ≤ sizeLine; decide, fun p hp => by
    have n1 : N1 p = none := ex_none (i1.trans e3) hp
    have n2 : N2 p = none := ex_none i2 hp
    have d12 : ∀ a, N2 a ≠ none → N1 a = none := fun a ha => ex_none i1 (f2 a ha)
    have dp : ∀ a, sing p (.lst [x, y]) a ≠ none → uni N1 N2 a = none := fun a ha => by
      by_cases z : a = p
      · subst z
        unfold uni
        rw [n2, n1]
      · exact absurd (sing_ne z) ha
    exact q (.ref p) _ (uni (uni N1 N2) (sing p (.lst [x, y]))) ((e2.trans e3).trans (Ex.new hp)) (uni_ex (uni_ex ((i1.trans e3).trans (Ex.new hp)) (i2.trans (Ex.new hp))) (sing_ex upd_same)) (uni_fr (uni_fr f1 (f2.back e2)) (sing_fr (fresh_back (e2.trans e3) hp))) ⟨p, x, y, N1, N2, rfl, uni_r _ _ sing_at, (uni_l d12).trans (uni_l dp), uni_r.trans (uni_l dp), p1, p2, n1, n2, d12⟩⟩
/-- xs.insert(i, v), xs within a part -/
theorem s_insP {σ : L2.St} {H M : Hp} {ta ti tv : TE} {Ns : List Hp} {D : Ends} {l : Addr} {xs : List V} {v : V} {j n : Nat} (o : Own Ns H) (hj : Ns[j]? = some M) (hM : M l = some (.lst xs)) (ha : Ev ta σ H (.ref l)) (hi : Ev ti σ H (.int (n : Nat))) (hv : Ev tv σ H v) (hl : xs.length < 90000) (hn : n ≤ 100000) (k : ∀ H1, Own (Ns.set j (upd M l (.lst (xs.take n ++ [v] ++ xs.drop n)))) H1 → D.nx σ H1) :
    tDrop (tBM K "list" (fun x vs H Q => ∃ (l : Addr) (xs : List V) (i : Int) (y : V), x = .ref l ∧ vs = [.int i, y] ∧ H l = some (.lst xs) ∧ xs.length < sizeLine ∧ 0 ≤ i ∧ i < 2 ^ 63 ∧ Q .non (upd H l (.lst (xs.take i.toNat ++ [y] ++ xs.drop i.toNat)))) ta (tCons ti (tCons tv tNil))) D σ H := ha H (Ex.refl H) _ fun H1 e1 =>
  ⟨Or.inl ⟨rfl, xs, sq_of (e1 l _ (o.ix hj _ _ hM))⟩, hi H1 e1 _ fun H2 e2 => hv H2 (e1.trans e2) _ fun H3 e3 => by
    have o3 : Own Ns H3 := ((o.mono e1).mono e2).mono e3
    exact ⟨l, xs, (n : Nat), v, rfl, rfl, o3.ix hj _ _ hM, sz_lt (by omega), by omega, by omega, k _ (o3.setP hj (by rw [hM]; exact fun z => nomatch z))⟩⟩
/-! ### the fields drawn -/
/-- rows of both fields, behind one another; n0: so many are the first field's -/
structure FOk (m n0 : Nat) (C : List (List Int)) : Prop where
  lo : 1 ≤ n0 ∧ n0 ≤ 3
  hi : n0 + 1 ≤ C.length ∧ C.length ≤ n0 + 3
  len : ∀ l ∈ C, l.length ≤ 12
  rng : ∀ c ∈ C.flatten, 0 ≤ c ∧ c < (m : Int)
  nd : C.flatten.Nodup
theorem flat_set {C : List (List Int)} {q : Nat} {l l' : List Int} {v : Int} (h : C[q]? = some l) (hp : l'.Perm (v :: l)) : (C.set q l').flatten.Perm (v :: C.flatten) := by
  induction C generalizing q with
  | nil => cases h
  | cons x r ih =>
    cases q with
    | zero =>
      have e : x = l := Option.some.inj h
      subst e
      show (l' ++ r.flatten).Perm (v :: (x ++ r.flatten))
      exact List.Perm.append_right _ hp
    | succ q =>
      show (x ++ (r.set q l').flatten).Perm (v :: (x ++ r.flatten))
      exact (List.Perm.append_left x (ih h)).trans List.perm_middle
theorem FOk.put {m n0 q n : Nat} {C : List (List Int)} {l : List Int} (h : FOk m n0 C) (hq : C[q]? = some l) (hl : l.length < 12) : FOk (m + 1) n0 (C.set q (l.take n ++ [((m : Nat) : Int)] ++ l.drop n)) := by
  have hp : (l.take n ++ [((m : Nat) : Int)] ++ l.drop n).Perm (((m : Nat) : Int) :: l) := by
    have h1 : (l.take n ++ [((m : Nat) : Int)] ++ l.drop n).Perm (((m : Nat) : Int) :: (l.take n ++ l.drop n)) := by
      rw [List.append_assoc]
      exact List.perm_middle
    rw [List.take_append_drop] at h1
    exact h1
  have hf := flat_set hq hp
  refine ⟨h.lo, by rw [List.length_set]; exact h.hi, fun x hx => ?_, fun c hc => ?_, (hf.nodup_iff).mpr (List.nodup_cons.mpr ⟨fun z => ?_, h.nd⟩)⟩
  · rcases List.mem_or_eq_of_mem_set hx with z | z
    · exact h.len x z
    · rw [z, hp.length_eq, List.length_cons]; omega
  · rcases List.mem_cons.mp ((hf.mem_iff).mp hc) with z | z
    · rw [z]; omega
    · have := h.rng c z; omega
  · have := h.rng _ z; omega
theorem FOk.up {m n0 : Nat} {C : List (List Int)} (h : FOk m n0 C) : FOk (m + 1) n0 C := ⟨h.lo, h.hi, h.len, fun c hc => by have := h.rng c hc; omega, h.nd⟩
theorem pl_keys (Fs : List (List (List Int))) : (plM Fs).map (·.1) = (Fs.map List.flatten).flatten := by
  have hc : ∀ f r (l : List Int), (cardsP f r l).map (·.1) = l := fun f r l => by
    unfold cardsP
    rw [List.map_map]
    show (l.zipIdx).map Prod.fst = l
    exact List.zipIdx_map_fst ..
  have hr : ∀ f (rs : List (List Int)) k, ((rs.zipIdx k).flatMap fun p => cardsP f p.2 p.1).map (·.1) = rs.flatten := fun f rs => by
    induction rs with
    | nil => intro k; rfl
    | cons x r ih => intro k; rw [List.zipIdx_cons, List.flatMap_cons, List.map_append, hc, ih]; rfl
  have hp : ∀ (Fs : List (List (List Int))) k, ((Fs.zipIdx k).flatMap fun p => rowsP p.2 p.1).map (·.1) = (Fs.map List.flatten).flatten := fun Fs => by
    induction Fs with
    | nil => intro k; rfl
    | cons x r ih =>
      intro k
      rw [List.zipIdx_cons, List.flatMap_cons, List.map_append, ih]
      unfold rowsP
      rw [hr]
      rfl
  exact hp Fs 0
theorem FOk.fld {m n0 : Nat} {C : List (List Int)} (h : FOk m n0 C) : fldM m (C.take n0) = true ∧ fldM m (C.drop n0) = true ∧ goodP [C.take n0, C.drop n0] = true := by
  have row : ∀ {R : List (List Int)}, (1 ≤ R.length ∧ R.length ≤ 3) → (∀ l ∈ R, l ∈ C) → fldM m R = true := fun {R} hl hm => by
    unfold fldM okRw okCd
    simp only [Bool.and_eq_true, decide_eq_true_eq, List.all_eq_true]
    exact ⟨⟨by omega, by omega⟩, fun l hl => ⟨by have := h.len l (hm l hl); omega, fun c hc => h.rng c (List.mem_flatten.mpr ⟨l, hm l hl, hc⟩)⟩⟩
  have h1 := h.lo
  have h2 := h.hi
  refine ⟨row (by rw [List.length_take]; omega) fun l hl => List.mem_of_mem_take hl, row (by rw [List.length_drop]; omega) fun l hl => List.mem_of_mem_drop hl, ?_⟩
  unfold goodP
  refine decide_eq_true ?_
  rw [pl_keys]
  show ((C.take n0).flatten ++ ((C.drop n0).flatten ++ [])).Nodup
  rw [List.append_nil, ← List.flatten_append, List.take_append_drop]
  exact h.nd
/-- the fields as they lie in M -/
def FAt (M : Hp) (p : Addr) (n0 : Nat) (C : List (List Int)) : Prop := ∃ (a b : Addr) (L : List Addr), M p = some (.lst [.ref a, .ref b]) ∧ M a = some (.lst ((L.take n0).map V.ref)) ∧ M b = some (.lst ((L.drop n0).map V.ref)) ∧ CA M L (C.map fun l => l.map V.int) ∧ (p :: a :: b :: L).Nodup
theorem CA_off {M : Hp} {t : Addr} {u : HO} : ∀ {ts : List Addr} {Cs : List (List V)}, t ∉ ts → CA M ts Cs → CA (upd M t u) ts Cs
  | _, _, _, .nil => .nil
  | s :: ts, _, hn, .cons h r => .cons (by
      have ne : s ≠ t := fun e => hn (e ▸ List.mem_cons_self)
      rw [upd_ne ne]
      exact h) (CA_off (fun z => hn (List.mem_cons_of_mem _ z)) r)
theorem CA_set {M : Hp} {t : Addr} {z : List V} : ∀ {ts : List Addr} {Cs : List (List V)} {q : Nat}, CA M ts Cs → ts.Nodup → ts[q]? = some t → CA (upd M t (.lst z)) ts (Cs.set q z)
  | _, _, _, .nil, _, h => by cases h
  | s :: ts, _, 0, .cons h r, nd, e => by
    have e : s = t := Option.some.inj e
    subst e
    exact .cons upd_same (CA_off (List.nodup_cons.mp nd).1 r)
  | s :: ts, _, q + 1, .cons h r, nd, e => by
    obtain ⟨n1, n2⟩ := List.nodup_cons.mp nd
    have ne : s ≠ t := fun z => n1 (by rw [z]; exact List.mem_of_getElem? e)
    exact .cons (by rw [upd_ne ne]; exact h) (CA_set r n2 e)
theorem FAt.put {M : Hp} {p t : Addr} {n0 q : Nat} {C : List (List Int)} {l' : List Int} {a b : Addr} {L : List Addr} (h1 : M p = some (.lst [.ref a, .ref b])) (h2 : M a = some (.lst ((L.take n0).map V.ref))) (h3 : M b = some (.lst ((L.drop n0).map V.ref))) (h4 : CA M L (C.map fun l => l.map V.int)) (h5 : (p :: a :: b :: L).Nodup) (ht : L[q]? = some t) : FAt (upd M t (.lst (l'.map V.int))) p n0 (C.set q l') := by
  have hm : t ∈ L := List.mem_of_getElem? ht
  obtain ⟨n1, n2⟩ := List.nodup_cons.mp h5
  obtain ⟨n3, n4⟩ := List.nodup_cons.mp n2
  obtain ⟨n5, n6⟩ := List.nodup_cons.mp n4
  have np : p ≠ t := fun e => n1 (by rw [e]; simp [hm])
  have na : a ≠ t := fun e => n3 (by rw [e]; simp [hm])
  have nb : b ≠ t := fun e => n5 (by rw [e]; exact hm)
  refine ⟨a, b, L, by rw [upd_ne np]; exact h1, by rw [upd_ne na]; exact h2, by rw [upd_ne nb]; exact h3, ?_, h5⟩
  rw [List.map_set]
  exact CA_set h4 n6 ht
abbrev pFds (n : Nat) : Hp → V → Prop := fun N v => ∃ p n0 C, v = .ref p ∧ FAt N p n0 C ∧ FOk n n0 C
def R__law_fields (K : PySem.W.Frag) : Rl := ⟨fun vs H r => ∃ (n : Nat) (q : Addr) (ns : List Int), vs = [.int (n : Nat), .ref q] ∧ Nm K H q ns ∧ 3 + n ≤ ns.length ∧ n ≤ 1000 ∧ r = .ok (pFds n), fun e ⟨n, q, ns, h1, h2, h3⟩ => ⟨n, q, ns, h1, h2.mono e, h3⟩⟩
theorem ok__law_fields (B : Bt mg) (D : Df K mg "_law_fields" s__law_fields ["_law_many", "_law_d"]) : Ok P w K mg base 1 "_law_fields" ["_law_many", "_law_d"] ((R__law_fields K).sp mg) := by
  refine D.ok sc__law_fields (fun vs H Q E h => ?_) (fun f cdv A outer s H vs Q E hr h => ?_)
  · obtain ⟨r, ⟨n, q, ns, rfl, _⟩, _⟩ := h
    rfl
  · obtain ⟨r, ⟨n, pd, ns, rfl, ⟨hN, hall⟩, hl, hn, rfl⟩, k⟩ := h
    refine ⟨_, (pss_cons (ps_set (i := 2) sc__law_fields.nd rfl (.inl rfl) (pe_lst (pa_cons (pe_lc (own := [("_law_k", 7)]) rfl sc__law_fields.nd (pi_range1 (by rfl) B.range (pa_cons (pe_op (op_addK K) pe_int (pe_op op_mod (pe_ix (ix_seqK K) (pv 1) pe_int (fun _ _ => rfl)) pe_int)) pa_nil)) (blkOk_by (N := ["_law_many", "_law_d", "_law_rows", "_law_verse_here", "_law_draw", "_law_home", "_law_row", "_law_k"]) (sc := defScope s__law_fields) (by decide +kernel)) (fun _ _ _ _ _ => (pg_name (i := 7) sc__law_fields.nd rfl (.inl rfl))) (fun _ _ _ _ _ => pts_nil) (fun _ _ _ _ _ => (pe_lst pa_nil))) (pa_cons (pe_lc (own := [("_law_k", 7)]) rfl sc__law_fields.nd (pi_range1 (by rfl) B.range (pa_cons (pe_op (op_addK K) pe_int (pe_op op_mod (pe_ix (ix_seqK K) (pv 1) pe_int (fun _ _ => rfl)) pe_int)) pa_nil)) (blkOk_by (N := ["_law_many", "_law_d", "_law_rows", "_law_verse_here", "_law_draw", "_law_home", "_law_row", "_law_k"]) (sc := defScope s__law_fields) (by decide +kernel)) (fun _ _ _ _ _ => (pg_name (i := 7) sc__law_fields.nd rfl (.inl rfl))) (fun _ _ _ _ _ => pts_nil) (fun _ _ _ _ _ => (pe_lst pa_nil))) pa_nil))))
      (pss_cons (ps_for (passes_of rfl) rfl (pi_range1 (by rfl) B.range (pa_cons (pv 0) pa_nil)) (pg_name (i := 3) sc__law_fields.nd rfl (.inl rfl))
        (pss_cons (ps_set (i := 4) sc__law_fields.nd rfl (.inl rfl) (pe_ix (ix_seqK K) (pv 1) (pe_op (op_addK K) pe_int (pv 3)) (fun _ _ => rfl)))
        (pss_cons (ps_set (i := 5) sc__law_fields.nd rfl (.inl rfl) (pe_ix (ix_seqK K) (pe_lst (pa_cons (pe_op op_fdiv (pe_op op_mod (pv 4) pe_int) pe_int) (pa_cons (pe_op op_fdiv (pe_op op_mod (pv 4) pe_int) pe_int) (pa_cons (pe_ix (ix_seqK K) (pe_lst (pa_cons pe_int (pa_cons pe_int (pa_cons pe_int (pa_cons pe_int (pa_cons pe_int (pa_cons pe_int (pa_cons pe_int pa_nil)))))))) (pe_op op_mod (pv 4) pe_int) (fun _ _ => rfl)) pa_nil)))) (pe_op op_mod (pe_ix (ix_seqK K) (pv 1) pe_int (fun _ _ => rfl)) pe_int) (fun _ _ => rfl)))
        (pss_one (ps_if (pt_cmpR op_lt (pv 5) pe_int (nomark _))
          (pss_cons (ps_set (i := 6) sc__law_fields.nd rfl (.inl rfl) (pe_ix (ix_seqK K) (pe_ix (ix_seqK K) (pv 2) (pv 5) (fun _ _ => rfl)) (pe_op op_mod (pe_op op_fdiv (pv 4) pe_int) (pe_callB (call_lenK K) (by rfl) B.len boot_b_len (pa_cons (pe_ix (ix_seqK K) (pv 2) (pv 5) (fun _ _ => rfl)) pa_nil))) (fun _ _ => rfl)))
          (pss_one (ps_if (pt_cmpR op_lt (pe_callB (call_lenK K) (by rfl) B.len boot_b_len (pa_cons (pv 6) pa_nil)) pe_int (nomark _))
            (pss_one (ps_expr (pe_bmK K PySem.F.plainAttrs_list PySem.F.slot_list_insert PySem.F.type_list_insert mt_insert (pv 6) (pa_cons (pe_op op_mod (pe_op op_fdiv (pv 4) pe_int) (pe_op (op_addK K) (pe_callB (call_lenK K) (by rfl) B.len boot_b_len (pa_cons (pv 6) pa_nil)) pe_int)) (pa_cons (pv 3) pa_nil)))))
            pss_nil)))
          pss_nil)))))
      (pss_one (ps_ret (pv 2))))), ?_⟩
    have a0 := atI_map (ns := ns) (j := 0) (by omega)
    have a1 := atI_map (ns := ns) (j := 1) (by omega)
    have a2 := atI_map (ns := ns) (j := 2) (by omega)
    obtain ⟨t0, ht0, ht02⟩ := mod_nat (a := ns[0]) (b := 3) (by decide)
    obtain ⟨t1, ht1, ht12⟩ := mod_nat (a := ns[1]) (b := 3) (by decide)
    have lc : ∀ {G : Hp} {j tt : Nat} {z : Int}, Ex H G → atI (ns.map V.int) ((j : Nat) : Int) = some (.int z) → z % 3 = ((tt : Nat) : Int) → (tt : Int) < 3 → EvP (tLc (iRng1 (tCons (tOp (rAddU K) (tC (.int 1)) (tOp (rI (fun _ j => 0 < j) fun i j => .int (i % j)) (tOp (rIx K) (tVar 1) (tC (.int (j : Nat)))) (tC (.int 3)))) tNil)) (gName 7) tYes (tLst tNil) [7]) [some (.int (n : Nat)), some (.ref pd), none, none, none, none, none, none] G (fun N w => ∃ p ts, w = .ref p ∧ N p = some (.lst (ts.map V.ref)) ∧ CA N ts ((List.range (1 + tt)).map fun _ => []) ∧ (p :: ts).Nodup) := fun {G j tt z} e ha hz hz2 =>
      ep_lcNew (n := 1 + tt) (fun i => [some (.int (n : Nat)), some (.ref pd), none, none, none, none, none, some (.int (i : Nat))]) (fun _ => []) (ei_rng1 (G := G) (m := ((1 + tt : Nat) : Int)) (ea_cons (ev_is (ev_op ev_c (ev_is (ev_op (ev_op (ev_var rfl) ev_c (rv_ixLs (ex_l e hN) ha)) ev_c (rv_I (by decide))) (congrArg V.int hz)) rv_addI) (by congr 1)) ea_nil) (by omega)) (Ex.refl _) (by omega) (fun s x H' _ hx Q q => by rw [hx]; exact q) (fun _ _ => rfl) (fun i H1 e hi => el_lst ea_nil (Nat.le_of_ble_eq_true rfl))
    refine q_n (Own.one H) (ep_lst2D (lc (Ex.refl _) a0 ht0 ht02) (lc (Ex.refl _) a1 ht1 ht12)) fun v2 H1 N o hp => ?_
    obtain ⟨p, _, _, N1, N2, rfl, hp, i1, i2, ⟨a, ts, rfl, ha, cts, nd1⟩, ⟨b, us, rfl, hb, cus, nd2⟩, n1, n2, d12⟩ := hp
    have l0 : ts.length = 1 + t0 := by rw [Paired.length cts, List.length_map, List.length_range]
    have l1 : us.length = 1 + t1 := by rw [Paired.length cus, List.length_map, List.length_range]
    have F0 : FAt N p ts.length ((List.range (1 + t0)).map (fun _ => []) ++ (List.range (1 + t1)).map (fun _ => [])) := by
      have in1 : ∀ x ∈ a :: ts, N1 x ≠ none := fun x hx => by
        rcases List.mem_cons.mp hx with z | z
        · rw [z, ha]; exact fun z => nomatch z
        · obtain ⟨_, _, _, _, g⟩ := LiI.paired_ix cts z
          rw [g]; exact fun z => nomatch z
      have in2 : ∀ x ∈ b :: us, N2 x ≠ none := fun x hx => by
        rcases List.mem_cons.mp hx with z | z
        · rw [z, hb]; exact fun z => nomatch z
        · obtain ⟨_, _, _, _, g⟩ := LiI.paired_ix cus z
          rw [g]; exact fun z => nomatch z
      refine ⟨a, b, ts ++ us, hp, by rw [List.take_left]; exact i1 _ _ ha, by rw [List.drop_left]; exact i2 _ _ hb, ?_, ?_⟩
      · rw [List.map_append, List.map_map, List.map_map]
        exact paired_append (cts.mono i1) (cus.mono i2)
      · have np : p ∉ a :: b :: (ts ++ us) := fun hm => by
          rcases List.mem_cons.mp hm with z | hm
          · exact in1 a List.mem_cons_self (z ▸ n1)
          · rcases List.mem_cons.mp hm with z | hm
            · exact in2 b List.mem_cons_self (z ▸ n2)
            · rcases List.mem_append.mp hm with z | z
              · exact in1 p (List.mem_cons_of_mem _ z) n1
              · exact in2 p (List.mem_cons_of_mem _ z) n2
        obtain ⟨g1, g2⟩ := List.nodup_cons.mp nd1
        obtain ⟨g3, g4⟩ := List.nodup_cons.mp nd2
        have cr : ∀ x ∈ a :: ts, ∀ y ∈ b :: us, x ≠ y := fun x hx y hy e => in1 x hx (d12 x (by rw [e]; exact in2 y hy))
        refine List.nodup_cons.mpr ⟨np, List.nodup_cons.mpr ⟨fun hm => ?_, List.nodup_cons.mpr ⟨fun hm => ?_, List.nodup_append.mpr ⟨g2, g4, fun x hx y hy => cr x (List.mem_cons_of_mem _ hx) y (List.mem_cons_of_mem _ hy)⟩⟩⟩⟩
        · rcases List.mem_cons.mp hm with z | hm
          · exact cr a List.mem_cons_self b List.mem_cons_self z
          · rcases List.mem_append.mp hm with z | z
            · exact g1 z
            · exact cr a List.mem_cons_self a (List.mem_cons_of_mem _ z) rfl
        · rcases List.mem_append.mp hm with z | z
          · exact cr b (List.mem_cons_of_mem _ z) b List.mem_cons_self rfl
          · exact g3 z
    have fl0 : ∀ m : Nat, ((List.range m).map fun _ => ([] : List Int)).flatten = [] := fun m => by
      refine List.flatten_eq_nil_iff.mpr fun l hl => ?_
      obtain ⟨_, _, rfl⟩ := List.mem_map.mp hl
      rfl
    have O0 : FOk 0 ts.length ((List.range (1 + t0)).map (fun _ => []) ++ (List.range (1 + t1)).map (fun _ => [])) := by
      refine ⟨by omega, by rw [List.length_append, List.length_map, List.length_map, List.length_range, List.length_range]; omega, fun l hl => ?_, fun c hc => ?_, ?_⟩
      · rcases List.mem_append.mp hl with z | z
        · obtain ⟨_, _, rfl⟩ := List.mem_map.mp z; simp
        · obtain ⟨_, _, rfl⟩ := List.mem_map.mp z; simp
      · rw [List.flatten_append, fl0, fl0] at hc; cases hc
      · rw [List.flatten_append, fl0, fl0]; simp
    generalize ts.length = n0 at F0 O0
    refine q_forN (G := emp) o (ei_rng1 (m := (n : Nat)) (by wtm_at "ev") (by omega)) (fun i σ H' => ∃ (M : Hp) (C : List (List Int)) (y3 y4 y5 y6 : Option V), σ = [some (.int (n : Nat)), some (.ref pd), some (.ref p), y3, y4, y5, y6, none] ∧ Own [M, H] H' ∧ FAt M p n0 C ∧ FOk i n0 C) (fun H2 o => ⟨N, _, _, _, _, _, rfl, o, F0, O0⟩) (fun i σ H' _ _ => emp_ex) ?_ ?_
    · rintro i x σ H2 H3 hi ⟨M, C, y3, y4, y5, y6, rfl, o, ⟨a, b, L, hp, ha, hb, hL, nd⟩, hO⟩ e rfl
      have o := o.mono e
      have hi : i < n := hi
      have hN3 := ex_l o.e1 hN
      have ai : atI (ns.map V.int) (3 + ((i : Nat) : Int)) = some (V.int ns[3 + i]) := atI_map (j := 3 + i) (by omega)
      have hz := hall _ (List.getElem_mem (show 3 + i < ns.length by omega))
      generalize ns[3 + i] = z at ai hz
      refine q_v (v := .int z) o (ev_op (ev_var rfl) (ev_op ev_c (ev_var rfl) rv_addI) (rv_ixLs hN3 ai)) fun H4 o => ?_
      have hN4 := ex_l o.e1 hN
      obtain ⟨t7, ht7, ht72⟩ := mod_nat (a := z) (b := 7) (by decide)
      obtain ⟨c7, hc7, hc71, hc72⟩ : ∃ c : Int, atI [V.int 0, .int 1, .int 0, .int 0, .int 2, .int 0, .int 0] ((t7 : Nat) : Int) = some (.int c) ∧ 0 ≤ c ∧ c ≤ 2 := by
        rcases t7 with _ | _ | _ | _ | _ | _ | _ | t7
        · exact ⟨0, rfl, by decide, by decide⟩
        · exact ⟨1, rfl, by decide, by decide⟩
        · exact ⟨0, rfl, by decide, by decide⟩
        · exact ⟨0, rfl, by decide, by decide⟩
        · exact ⟨2, rfl, by decide, by decide⟩
        · exact ⟨0, rfl, by decide, by decide⟩
        · exact ⟨0, rfl, by decide, by decide⟩
        · omega
      obtain ⟨t2, ht2, ht22⟩ := mod_nat (a := ns[2]) (b := 3) (by decide)
      have c2 : ∀ y : Int, CDiv y 2 := fun y => ⟨by decide, by decide⟩
      obtain ⟨hm, hhm, hh1, hh2⟩ : ∃ c : Int, atI [V.int (z % 5 / 2), .int (z % 4 / 2), .int c7] ((t2 : Nat) : Int) = some (.int c) ∧ 0 ≤ c ∧ c ≤ 2 := by
        rcases t2 with _ | _ | _ | t2
        · exact ⟨z % 5 / 2, rfl, by omega, by omega⟩
        · exact ⟨z % 4 / 2, rfl, by omega, by omega⟩
        · exact ⟨c7, rfl, hc71, hc72⟩
        · omega
      refine q_v (v := .int hm) o (ev_op1 (P := pLst [V.int (z % 5 / 2), .int (z % 4 / 2), .int c7]) (ep_lst (ea_cons (ev_op (ev_op (ev_var rfl) ev_c (rv_I (by decide))) ev_c (rv_I (c2 _))) (ea_cons (ev_op (ev_op (ev_var rfl) ev_c (rv_I (by decide))) ev_c (rv_I (c2 _))) (ea_cons (ev_op1 (P := pLst [V.int 0, .int 1, .int 0, .int 0, .int 2, .int 0, .int 0]) (ep_lst (by wtm_at "ev")) (ev_is (ev_op (ev_var rfl) ev_c (rv_I (by decide))) (congrArg V.int ht7)) fun v N H1 _ i1 ⟨c, e, hc⟩ => by subst e; exact rv_ixLs (sq_of (i1 _ _ hc)) hc7) ea_nil)))) (ev_is (ev_op (ev_op (ev_var rfl) ev_c (rv_ixLs hN4 a2)) ev_c (rv_I (by decide))) (congrArg V.int ht2)) fun v N H1 _ i1 ⟨c, e, hc⟩ => by subst e; exact rv_ixLs (sq_of (i1 _ _ hc)) hhm) fun H5 o => ?_
      refine s_wh o (et_test (ev_op (ev_var rfl) ev_c rv_I0)) (fun hb2 H6 o => ?_) (fun _ H6 o => ⟨M, C, _, _, _, _, rfl, o, ⟨a, b, L, hp, ha, hb, hL, nd⟩, hO.up⟩)
      have hb2 := of_decide_eq_true hb2
      have hLl : L.length = C.length := by rw [Paired.length hL, List.length_map]
      have hlo := hO.lo
      have hhi := hO.hi
      obtain ⟨h, zs, off, hat, hMh, hzl, hzs⟩ : ∃ (h : Addr) (zs : List Addr) (off : Nat), atI [V.ref a, .ref b] hm = some (.ref h) ∧ M h = some (.lst (zs.map V.ref)) ∧ 1 ≤ zs.length ∧ ∀ r, r < zs.length → zs[r]? = L[off + r]? := by
        by_cases q : hm = 0
        · subst q
          refine ⟨a, L.take n0, 0, rfl, ha, by rw [List.length_take]; omega, fun r hr => ?_⟩
          rw [List.length_take] at hr
          rw [List.getElem?_take, if_pos (by omega), Nat.zero_add]
        · have : hm = 1 := by omega
          subst this
          refine ⟨b, L.drop n0, n0, rfl, hb, by rw [List.length_drop]; omega, fun r _ => by rw [List.getElem?_drop]⟩
      obtain ⟨r, hr, hr2⟩ := mod_nat (a := z / 35) (b := ((zs.length : Nat) : Int)) (by omega)
      have hrl : r < zs.length := by omega
      have htL : L[off + r]? = some zs[r] := by rw [← hzs r hrl]; exact List.getElem?_eq_getElem hrl
      obtain ⟨lv, hlv, hMt⟩ := LiI.paired_get hL htL
      rw [List.getElem?_map] at hlv
      cases hCq : C[off + r]? with
      | none => rw [hCq] at hlv; cases hlv
      | some l =>
        rw [hCq] at hlv
        obtain rfl : l.map V.int = lv := Option.some.inj hlv
        have c35 : CDiv z 35 := ⟨by decide, by decide⟩
        have c105 : CDiv z 105 := ⟨by decide, by decide⟩
        have evH : ∀ {σ : L2.St} {G : Hp}, Ex M G → Ev (tVar 2) σ G (.ref p) → Ev (tVar 5) σ G (.int hm) → Ev (tOp (rIx K) (tVar 2) (tVar 5)) σ G (.ref h) := fun e h2 h5 => ev_op h2 h5 (rv_ixLs (sq_of (e _ _ hp)) hat)
        refine q_v (v := .ref zs[r]) o (ev_op (evH o.e0 (ev_var rfl) (ev_var rfl)) (ev_is (ev_op (ev_op (ev_var rfl) ev_c (rv_I c35)) (ev_cb (ea_cons (evH o.e0 (ev_var rfl) (ev_var rfl)) ea_nil) (rc_lenL (sq_of (o.e0 _ _ hMh)))) (rv_I (show (0 : Int) < _ by rw [List.length_map]; omega))) (by rw [List.length_map, hr])) (rv_ixLs (sq_of (o.e0 _ _ hMh)) (atI_nat (by rw [List.getElem?_map, List.getElem?_eq_getElem hrl]; rfl)))) fun H7 o => ?_
        refine s_wh o (et_test (ev_op (ev_cb (by wtm_at "ev") (rc_lenL (sq_of (o.e0 _ _ hMt)))) ev_c rv_I0)) (fun hb3 H8 o => ?_) (fun _ H8 o => ⟨M, C, _, _, _, _, rfl, o, ⟨a, b, L, hp, ha, hb, hL, nd⟩, hO.up⟩)
        have hl12 : l.length < 12 := by have := of_decide_eq_true hb3; rw [List.length_map] at this; omega
        obtain ⟨kk, hk, hk2⟩ := mod_nat (a := z / 105) (b := (((l.map V.int).length : Nat) : Int) + 1) (by omega)
        rw [List.length_map] at hk2
        refine s_insP (K := K) (j := 0) (n := kk) o rfl hMt (ev_var rfl) (ev_is (ev_op (ev_op (ev_var rfl) ev_c (rv_I c105)) (ev_op (ev_cb (by wtm_at "ev") (rc_lenL (sq_of (o.e0 _ _ hMt)))) ev_c rv_addI) (rv_I (show (0 : Int) < _ by omega))) (congrArg V.int hk)) (ev_var rfl) (by rw [List.length_map]; omega) (by omega) fun H9 o => ?_
        have e9 : (l.map V.int).take kk ++ [.int ((i : Nat) : Int)] ++ (l.map V.int).drop kk = (l.take kk ++ [((i : Nat) : Int)] ++ l.drop kk).map V.int := by rw [List.map_append, List.map_append, List.map_take, List.map_drop]; rfl
        rw [e9] at o
        exact ⟨_, _, _, _, _, _, rfl, o, FAt.put hp ha hb hL nd htL, hO.put hCq hl12⟩
    · rintro σ H2 ⟨M, C, y3, y4, y5, y6, rfl, o, hF, hO⟩
      exact s_rv o (ev_var rfl) fun H3 o => o.ret k (i := 0) (j := 1) rfl rfl ⟨p, n0, C, rfl, hF, hO⟩
end
abbrev s__law_made : Stmt := topS 56
theorem sc__law_made : FnScope ["_law_book_here", "_law_rows"] ["_law_book_here", "_law_rows"] (defScope s__law_made) := ⟨rfl, rfl, rfl, by decide +kernel, rfl, by decide +kernel, by decide +kernel⟩
abbrev s__law_where : Stmt := topS 57
theorem sc__law_where : FnScope ["_law_rows", "_law_verse_here", "_law_field", "_law_row"] ["_law_rows", "_law_verse_here"] (defScope s__law_where) := ⟨rfl, rfl, rfl, by decide +kernel, rfl, by decide +kernel, by decide +kernel⟩
section
variable {P : Program} {w : World} {K : PySem.W.Frag} {mg : Str → Option Value} {base : Heap}
/-- new rows of numbers, unlike one another -/
abbrev pRwN (rs : List (List Int)) : Hp → V → Prop := fun N w => ∃ p ts, w = V.ref p ∧ N p = some (.lst (ts.map V.ref)) ∧ CA N ts (rs.map fun l => l.map V.int) ∧ (p :: ts).Nodup
theorem ca_cii {N : Hp} : ∀ {ts : List Addr} {rs : List (List Int)}, CA N ts (rs.map fun l => l.map V.int) → CIi N (ts.map V.ref) rs
  | [], [], _ => .nil
  | [], _ :: _, h => nomatch h
  | _ :: _, [], h => nomatch h
  | t :: ts, l :: rs, .cons a r => .cons ⟨t, rfl, a⟩ (ca_cii r)
theorem rwN_rw {rs : List (List Int)} : ∀ N v, pRwN rs N v → pRw rs N v := fun N v ⟨p, ts, h1, h2, h3, _⟩ => ⟨p, _, h1, h2, ca_cii h3⟩
theorem range_rows (rs : List (List Int)) : ((List.range rs.length).map fun i => (rs.getD i []).map V.int) = rs.map fun l => l.map V.int := by
  refine List.ext_getElem (by simp) fun i h1 h2 => ?_
  have hi : i < rs.length := by simpa using h1
  simp [List.getD_eq_getElem?_getD, List.getElem?_eq_getElem hi]
/-- [list(row) for row in rows] -/
theorem ep_copyNI {σ : L2.St} {H : Hp} {tl : TE} {p : Addr} {rs : List (List Int)} {j : Nat} {vs : List Nat} (S : V → L2.St) (h : Ev tl σ H (.ref p)) (hB : Rw K H p rs) (hg : ∀ x, (wipe σ vs).set j (some x) = S x) (hw : ∀ x, wipe (S x) vs = wipe σ vs) (hj : ∀ x, (S x)[j]? = some (some x)) :
    EvP (tLc (iList K tl) (gName j) tYes (tCB (rListS K) (tCons (tVar j) tNil)) vs) σ H (pRwN rs) := by
  obtain ⟨xs, hS, hR⟩ := hB.rows
  have hl := Paired.length hR
  have hl2 := hB.2.1
  refine ep_imp (ep_lcNew (n := xs.length) (fun i => S (xs.getD i .non)) (fun i => (rs.getD i []).map V.int) (ei_list h hS (Ex.refl _)) (Ex.refl _) (by omega) (fun i x H' _ hx Q q => by rw [getD_of hx, ← hg] at q; exact q) (fun _ _ => hw _) (fun i H1 e hlt => ?_)) ?_
  · have hi : rs[i]? = some (rs.getD i []) := by rw [List.getD_eq_getElem?_getD, List.getElem?_eq_getElem (by omega)]; rfl
    obtain ⟨q, hq, hL⟩ := hR.get hi
    rw [getD_of hq]
    exact fun H2 e2 Q k => ev_var (hj _) H2 e2 _ fun H3 e3 => ⟨q, _, rfl, .inl (ex_l ((e.trans e2).trans e3) hL), fun l hl => k l _ (fresh_back e3 hl) (e3.trans (Ex.new hl)) upd_same⟩
  · rintro N v ⟨p', ts, rfl, hp, hca, nd⟩
    rw [hl, range_rows] at hca
    exact ⟨p', ts, rfl, hp, hca, nd⟩
def R_copiedN (K : PySem.W.Frag) : Rl := ⟨fun vs H r => ∃ (v : Addr) (rs : List (List Int)), vs = [.ref v] ∧ Rw K H v rs ∧ r = .ok (pRwN rs), fun e ⟨v, rs, h1, h2, h3⟩ => ⟨v, rs, h1, h2.mono e, h3⟩⟩
/-- rows of texts, or rows of numbers -/
def R__law_copy2 (K : PySem.W.Frag) : Rl := ⟨fun vs H r => (R__law_copy K).R vs H r ∨ (R_copiedN K).R vs H r, fun e h => h.imp ((R__law_copy K).mono e) ((R_copiedN K).mono e)⟩
theorem ok__law_copy (B : Bt mg) (D : Df K mg "_law_copy" s__law_copy ["_law_rows"]) : Ok P w K mg base 1 "_law_copy" ["_law_rows"] ((R__law_copy2 K).sp mg) := by
  refine D.ok sc__law_copy (fun vs H Q E h => ?_) (fun f cdv A outer s H vs Q E hr h => ?_)
  · obtain ⟨r, h | h, _⟩ := h
    · obtain ⟨v, ls, rfl, _⟩ := h
      rfl
    · obtain ⟨v, ls, rfl, _⟩ := h
      rfl
  · obtain ⟨r, h, k⟩ := h
    refine ⟨_, (pss_one (ps_ret (pe_lc (own := [("_law_row", 1)]) rfl sc__law_copy.nd (pi_listK K (pv 0)) (blkOk_by (N := ["_law_rows", "_law_row"]) (sc := defScope s__law_copy) (by decide +kernel)) (fun _ _ _ _ _ => (pg_name (i := 1) sc__law_copy.nd rfl (.inl rfl))) (fun _ _ _ _ _ => pts_nil) (fun _ _ _ _ _ => (pe_callTy (call_listK K) (by rfl) B.list boot_ty_list (pa_cons (pv 1) pa_nil)))))), ?_⟩
    rcases h with ⟨v, ls, rfl, hB, rfl⟩ | ⟨v, rs, rfl, hB, rfl⟩
    · exact s_rn (Own.one H) (ep_copy (fun x => [some (.ref v), some x]) (ev_var rfl) hB (fun _ => rfl) (fun _ => rfl) (fun _ => rfl)) fun v H1 N o p => o.ret k (i := 0) (j := 1) rfl rfl p
    · exact s_rn (Own.one H) (ep_copyNI (fun x => [some (.ref v), some x]) (ev_var rfl) hB (fun _ => rfl) (fun _ => rfl) (fun _ => rfl)) fun v H1 N o p => o.ret k (i := 0) (j := 1) rfl rfl p
/-- two fields at p -/
def Fl (K : PySem.W.Frag) (H : Hp) (p : Addr) (F0 F1 : List (List Int)) : Prop := ∃ a b, SqL K H p [.ref a, .ref b] ∧ Rw K H a F0 ∧ Rw K H b F1
theorem Fl.mono {H H' : Hp} {p : Addr} {F0 F1 : List (List Int)} (e : Ex H H') (h : Fl K H p F0 F1) : Fl K H' p F0 F1 := by
  obtain ⟨a, b, h1, h2, h3⟩ := h
  exact ⟨a, b, ex_l e h1, h2.mono e, h3.mono e⟩
theorem Fl.at {H : Hp} {p : Addr} {F0 F1 : List (List Int)} (h : Fl K H p F0 F1) {i : Nat} (hi : i < 2) : ∃ xs c, SqL K H p xs ∧ atI xs ((i : Nat) : Int) = some (.ref c) ∧ Rw K H c (fieldM F0 F1 ((i : Nat) : Int)) := by
  obtain ⟨a, b, h1, h2, h3⟩ := h
  rcases i with _ | _ | i
  · exact ⟨_, a, h1, rfl, h2⟩
  · exact ⟨_, b, h1, rfl, h3⟩
  · omega
theorem CA.rws {M : Hp} {ts : List Addr} {C : List (List Int)} (h : CA M ts (C.map fun l => l.map V.int)) : CIi M (ts.map V.ref) C := by
  induction C generalizing ts with
  | nil => cases h; exact .nil
  | cons l r ih =>
    cases h with
    | cons h1 h2 => exact .cons ⟨_, rfl, h1⟩ (ih h2)
theorem FAt.fl {M : Hp} {p : Addr} {m n0 : Nat} {C : List (List Int)} (h : FAt M p n0 C) (o : FOk m n0 C) : Fl K M p (C.take n0) (C.drop n0) := by
  obtain ⟨a, b, L, h1, h2, h3, h4, _⟩ := h
  have lo := o.lo
  have hi := o.hi
  have len : ∀ l ∈ C, l.length ≤ 1000 := fun l hl => by have := o.len l hl; omega
  refine ⟨a, b, sq_of h1, CIi.rw h2 ?_ (by rw [List.length_take]; omega) fun l hl => len l (List.mem_of_mem_take hl), CIi.rw h3 ?_ (by rw [List.length_drop]; omega) fun l hl => len l (List.mem_of_mem_drop hl)⟩
  · rw [List.map_take]
    exact paired_take n0 (CA.rws h4)
  · rw [List.map_drop]
    exact paired_drop n0 (CA.rws h4)
theorem FOk.deal {m n0 : Nat} {C : List (List Int)} (h : FOk m n0 C) : dealM m (C.take n0) (C.drop n0) = true := by
  obtain ⟨h1, h2, h3⟩ := h.fld
  unfold dealM
  rw [h1, h2, h3]
  rfl
def R__law_made (K : PySem.W.Frag) (CB C : Addr) : Rl := ⟨fun vs H r => ∃ (b p : Addr) (ls : List (List Str)) (F0 F1 : List (List Int)), vs = [.ref b, .ref p] ∧ BookAt K CB H b ls ∧ Fl K H p F0 F1 ∧ r = dealR ls.length F0 F1 (pDeal K C b F0 F1), fun e ⟨b, p, ls, F0, F1, h1, h2, h3, h4⟩ => ⟨b, p, ls, F0, F1, h1, h2.mono e, h3.mono e, h4⟩⟩
theorem ok__law_made (B : Bt mg) {C_Book C_Deal : Addr} (O__law_copy : Ok P w K mg base 1 "_law_copy" ["_law_rows"] ((R__law_copy2 K).sp mg)) (O_Deal : OkC P w K mg base 3 C_Deal "Deal" ["self", "book", "zero", "one"] ((R_Deal K C_Book C_Deal).spI mg C_Deal)) (D : Df K mg "_law_made" s__law_made ["_law_book_here", "_law_rows"]) : Ok P w K mg base 5 "_law_made" ["_law_book_here", "_law_rows"] ((R__law_made K C_Book C_Deal).sp mg) := by
  refine D.ok sc__law_made (fun vs H Q E h => ?_) (fun f cdv A outer s H vs Q E hr h => ?_)
  · obtain ⟨r, ⟨b, p, ls, F0, F1, rfl, _⟩, _⟩ := h
    rfl
  · obtain ⟨r, ⟨b, p, ls, F0, F1, rfl, hK, ⟨a0, a1, h1, h2, h3⟩, rfl⟩, k⟩ := h
    refine ⟨_, (pss_one (ps_ret (pe_makeO O_Deal (hr.mono (by omega)) (by rfl) (takes_of rfl rfl rfl rfl) (pa_cons (pv 0) (pa_cons (pe_callO O__law_copy (hr.mono (by omega)) (by rfl) (takes_of rfl rfl rfl rfl) (pa_cons (pe_ix (ix_seqK K) (pv 1) pe_int (fun _ _ => rfl)) pa_nil)) (pa_cons (pe_callO O__law_copy (hr.mono (by omega)) (by rfl) (takes_of rfl rfl rfl rfl) (pa_cons (pe_ix (ix_seqK K) (pv 1) pe_int (fun _ _ => rfl)) pa_nil)) pa_nil)))))), ?_⟩
    have av : ∀ {W : WX}, EvPs (tCons (tVar 0) (tCons (tCallS ((R__law_copy2 K).sp mg) (WE W) (tCons (tOp (rIx K) (tVar 1) (tC (.int 0))) tNil)) (tCons (tCallS ((R__law_copy2 K).sp mg) (WE W) (tCons (tOp (rIx K) (tVar 1) (tC (.int 1))) tNil)) tNil))) [some (.ref b), some (.ref p)] H [is (.ref b), pRw F0, pRw F1] := fun {W} =>
      eps_cons (ep_v (ev_var rfl)) (eps_cons (ep_imp (ep_call (S := R__law_copy2 K) (vs := [.ref a0]) (ea_cons (ev_op (ev_var rfl) ev_c (rv_ixLs h1 rfl)) ea_nil) (.inr ⟨a0, F0, rfl, h2, rfl⟩)) rwN_rw) (eps_cons (ep_imp (ep_call (S := R__law_copy2 K) (vs := [.ref a1]) (ea_cons (ev_op (ev_var rfl) ev_c (rv_ixLs h1 rfl)) ea_nil) (.inr ⟨a1, F1, rfl, h3, rfl⟩)) rwN_rw) eps_nil))
    have hR : ∀ vs H2, Ex H H2 → All2 H2 [is (.ref b), pRw F0, pRw F1] vs → (R_Deal K C_Book C_Deal).R vs H2 (dealR ls.length F0 F1 (pDeal K C_Deal b F0 F1)) := fun vs H2 e ha => by
      obtain ⟨x, y, z, rfl, ⟨_, _, g1⟩, ⟨N1, i1, c1, x1, rfl, g2, g3⟩, N2, i2, c2, x2, rfl, g4, g5⟩ := all2_three ha
      have g1 : x = .ref b := g1
      subst g1
      exact ⟨b, c1, c2, ls, F0, F1, rfl, hK.mono e, (CIi.rw g2 g3 h2.2.1 h2.2.2).mono i1, (CIi.rw g4 g5 h3.2.1 h3.2.2).mono i2, rfl⟩
    cases hd : dealM ls.length F0 F1 with
    | false =>
      have e2 : dealR ls.length F0 F1 (pDeal K C_Deal b F0 F1) = .err "BadDeal" [] := by unfold dealR; rw [hd]; rfl
      rw [e2] at k hR
      exact s_rer (er_makeN (S := R_Deal K C_Book C_Deal) av hR) k
    | true =>
      have e2 : dealR ls.length F0 F1 (pDeal K C_Deal b F0 F1) = .ok (pDeal K C_Deal b F0 F1) := by unfold dealR; rw [hd]; rfl
      rw [e2] at k hR
      exact s_rn (Own.one H) (ep_makeN (S := R_Deal K C_Book C_Deal) av hR) fun v H1 N o p => o.ret k (i := 0) (j := 1) rfl rfl p
/-- where a verse lies in the rows -/
abbrev pWh (F0 F1 : List (List Int)) (v : Int) : Hp → V → Prop := fun N x => (∃ t f r k, x = V.ref t ∧ N t = some (.tup [.int (f : Nat), .int (r : Nat), .int (k : Nat)]) ∧ (v, f, r, k) ∈ plM [F0, F1]) ∨ (x = .non ∧ v ∉ (plM [F0, F1]).map (·.1))
def R__law_where (K : PySem.W.Frag) : Rl := ⟨fun vs H r => ∃ (p : Addr) (F0 F1 : List (List Int)) (v : Int), vs = [.ref p, .int v] ∧ Fl K H p F0 F1 ∧ r = .ok (pWh F0 F1 v), fun e ⟨p, F0, F1, v, h1, h2, h3⟩ => ⟨p, F0, F1, v, h1, h2.mono e, h3⟩⟩
theorem pl_mem {F0 F1 : List (List Int)} {f r k : Nat} {l : List Int} {c : Int} (hf : f < 2) (hr : (fieldM F0 F1 ((f : Nat) : Int))[r]? = some l) (hk : l[k]? = some c) : (c, f, r, k) ∈ plM [F0, F1] := by
  have hF : [F0, F1][f]? = some (fieldM F0 F1 ((f : Nat) : Int)) := by
    rcases f with _ | _ | f
    · rfl
    · rfl
    · omega
  unfold plM
  refine List.mem_flatMap.mpr ⟨(fieldM F0 F1 ((f : Nat) : Int), f), List.mem_zipIdx_iff_getElem?.mpr hF, ?_⟩
  unfold rowsP
  refine List.mem_flatMap.mpr ⟨(l, r), List.mem_zipIdx_iff_getElem?.mpr hr, ?_⟩
  unfold cardsP
  exact List.mem_map.mpr ⟨(c, k), List.mem_zipIdx_iff_getElem?.mpr hk, rfl⟩
theorem ev_index {σ : L2.St} {H : Hp} {ta te : TE} {a : Addr} {l : List Int} {v : Int} {k : Nat} (ha : Ev ta σ H (.ref a)) (hs : SqL K H a (l.map V.int)) (hv : Ev te σ H (.int v)) (hk : l[k]? = some v) (hn : ∀ m : Nat, m < k → l[m]? ≠ some v) : Ev (tBM K "list" (rIndex K) ta (tCons te tNil)) σ H (.int (k : Nat)) := fun H1 e Q q =>
  ha H1 e _ fun H2 e2 => ⟨Or.inl ⟨rfl, _, ex_l (e.trans e2) hs⟩, hv H2 (e.trans e2) _ fun H3 e3 => ⟨a, l.map V.int, .int v, k, .int v, rfl, rfl, ex_l ((e.trans e2).trans e3) hs, rfl, flat_ints l, by rw [List.getElem?_map, hk]; rfl, by rw [eqV_int]; exact decide_eq_true rfl, fun m z hm hz => by
    rw [List.getElem?_map] at hz
    cases hl : l[m]? with
    | none => rw [hl] at hz; cases hz
    | some y =>
      rw [hl] at hz
      obtain rfl : V.int y = z := Option.some.inj hz
      rw [eqV_int]
      exact decide_eq_false fun e => hn m hm (by rw [hl, e]), q H3 (e2.trans e3)⟩⟩
theorem first_at {l : List Int} {v : Int} (h : v ∈ l) : ∃ k : Nat, l[k]? = some v ∧ ∀ m : Nat, m < k → l[m]? ≠ some v := by
  induction l with
  | nil => cases h
  | cons x r ih =>
    by_cases e : x = v
    · exact ⟨0, by rw [e]; rfl, fun m hm => by omega⟩
    · rcases List.mem_cons.mp h with z | z
      · exact absurd z.symm e
      · obtain ⟨k, h1, h2⟩ := ih z
        refine ⟨k + 1, h1, fun m hm => ?_⟩
        cases m with
        | zero => intro q; exact e (Option.some.inj q)
        | succ m => exact h2 m (by omega)
theorem ok__law_where (B : Bt mg) (D : Df K mg "_law_where" s__law_where ["_law_rows", "_law_verse_here"]) : Ok P w K mg base 1 "_law_where" ["_law_rows", "_law_verse_here"] ((R__law_where K).sp mg) := by
  refine D.ok sc__law_where (fun vs H Q E h => ?_) (fun f cdv A outer s H vs Q E hr h => ?_)
  · obtain ⟨r, ⟨p, F0, F1, v, rfl, _⟩, _⟩ := h
    rfl
  · obtain ⟨r, ⟨p, F0, F1, v, rfl, hF, rfl⟩, k⟩ := h
    refine ⟨_, (pss_cons (ps_for (passes_of rfl) rfl (pi_range1 (by rfl) B.range (pa_cons pe_int pa_nil)) (pg_name (i := 2) sc__law_where.nd rfl (.inl rfl))
        (pss_one (ps_for (passes_of rfl) rfl (pi_range1 (by rfl) B.range (pa_cons (pe_callB (call_lenK K) (by rfl) B.len boot_b_len (pa_cons (pe_ix (ix_seqK K) (pv 0) (pv 2) (fun _ _ => rfl)) pa_nil)) pa_nil)) (pg_name (i := 3) sc__law_where.nd rfl (.inl rfl))
          (pss_one (ps_if (pt_cmpR (op_inK K (hu65 hr)) (pv 1) (pe_ix (ix_seqK K) (pe_ix (ix_seqK K) (pv 0) (pv 2) (fun _ _ => rfl)) (pv 3) (fun _ _ => rfl)) (by rfl))
            (pss_one (ps_ret (pe_tup (pa_cons (pv 2) (pa_cons (pv 3) (pa_cons (pe_bmK K PySem.F.plainAttrs_list PySem.F.slot_list_index PySem.F.type_list_index (mt_indexK K) (pe_ix (ix_seqK K) (pe_ix (ix_seqK K) (pv 0) (pv 2) (fun _ _ => rfl)) (pv 3) (fun _ _ => rfl)) (pa_cons (pv 1) pa_nil)) pa_nil))))))
            pss_nil)))))
      (pss_one (ps_ret pe_non))), ?_⟩
    refine q_forN (G := emp) (Own.one H) (ei_rng1 (m := 2) (by wtm_at "ev") (by decide)) (fun i σ H' => ∃ y2 y3, σ = [some (.ref p), some (.int v), y2, y3] ∧ Own [H] H' ∧ ∀ f, f < i → ∀ l ∈ fieldM F0 F1 ((f : Nat) : Int), v ∉ l) (fun H1 o => ⟨_, _, rfl, o, fun f hf => by omega⟩) (fun i σ H' _ _ => emp_ex) ?_ ?_
    · rintro f x σ H1 H2 hf ⟨y2, y3, rfl, o, hno⟩ e rfl
      have o := o.mono e
      have hf : f < 2 := hf
      obtain ⟨xs, c, hS, hat, hRw⟩ := hF.at hf
      obtain ⟨zs, hZ, hZr⟩ := hRw.rows
      have hzl := Paired.length hZr
      have hl3 := hRw.2.1
      have evF : ∀ {σ : L2.St} {G : Hp}, Ex H G → Ev (tVar 0) σ G (.ref p) → Ev (tVar 2) σ G (.int ((f : Nat) : Int)) → Ev (tOp (rIx K) (tVar 0) (tVar 2)) σ G (.ref c) := fun e h0 h2 => ev_op h0 h2 (rv_ixLs (ex_l e hS) hat)
      refine s_forN (G := emp) o (ei_rng1 (m := ((fieldM F0 F1 ((f : Nat) : Int)).length : Nat)) (ea_cons (ev_is (ev_cb (ea_cons (evF o.e0 (ev_var rfl) (ev_var rfl)) ea_nil) (rc_lenL (ex_l o.e0 hZ))) (by rw [hzl])) ea_nil) (by omega)) (fun r σ H' => ∃ y3, σ = [some (.ref p), some (.int v), some (.int ((f : Nat) : Int)), y3] ∧ Own [H] H' ∧ ∀ l ∈ (fieldM F0 F1 ((f : Nat) : Int)).take r, v ∉ l) (fun H1 o => ⟨_, rfl, o, fun l hl => by simp at hl⟩) (fun i σ H' _ _ => emp_ex) ?_ ?_
      · rintro r x σ H3 H4 hr2 ⟨y3, rfl, o, hn2⟩ e rfl
        have o := o.mono e
        have hr2 : r < (fieldM F0 F1 ((f : Nat) : Int)).length := hr2
        have hrr : (fieldM F0 F1 ((f : Nat) : Int))[r]? = some (fieldM F0 F1 ((f : Nat) : Int))[r] := List.getElem?_eq_getElem hr2
        obtain ⟨q, hq, hL⟩ := hZr.get hrr
        have evR : ∀ {σ : L2.St} {G : Hp}, Ex H G → Ev (tVar 0) σ G (.ref p) → Ev (tVar 2) σ G (.int ((f : Nat) : Int)) → Ev (tVar 3) σ G (.int ((r : Nat) : Int)) → Ev (tOp (rIx K) (tOp (rIx K) (tVar 0) (tVar 2)) (tVar 3)) σ G (.ref q) := fun e h0 h2 h3 => ev_op (evF e h0 h2) h3 (rv_ixLs (ex_l e hZ) (atI_nat hq))
        refine s_wh o (et_is (et_test (ev_op (ev_var rfl) (evR o.e0 (ev_var rfl) (ev_var rfl) (ev_var rfl)) (rv_inLs (ex_l o.e0 hL) rfl (flat_ints _)))) (inV_ints _ _)) (fun hb H5 o => ?_) (fun hb H5 o => ?_)
        · have hm := of_decide_eq_true hb
          obtain ⟨kk, hk1, hk2⟩ := first_at hm
          refine s_rn o (ep_tup (vs := [.int ((f : Nat) : Int), .int ((r : Nat) : Int), .int (kk : Nat)]) (ea_cons (ev_var rfl) (ea_cons (ev_var rfl) (ea_cons (ev_index (evR o.e0 (ev_var rfl) (ev_var rfl) (ev_var rfl)) (ex_l o.e0 hL) (ev_var rfl) hk1 hk2) ea_nil)))) fun x H6 N o hp => ?_
          obtain ⟨t, rfl, ht⟩ := hp
          exact o.ret k (i := 0) (j := 1) rfl rfl (.inl ⟨t, f, r, kk, rfl, ht, pl_mem hf hrr hk1⟩)
        · have hm := of_decide_eq_false hb
          refine ⟨_, rfl, o, fun l hl => ?_⟩
          rw [List.take_succ_eq_append_getElem hr2] at hl
          rcases List.mem_append.mp hl with z | z
          · exact hn2 l z
          · rw [List.mem_singleton.mp z]; exact hm
      · rintro σ H3 ⟨y3, rfl, o, hn2⟩
        have hn2 : ∀ l ∈ (fieldM F0 F1 ((f : Nat) : Int)).take (fieldM F0 F1 ((f : Nat) : Int)).length, v ∉ l := hn2
        rw [List.take_length] at hn2
        refine ⟨_, _, rfl, o, fun g hg => ?_⟩
        rcases Nat.lt_succ_iff_lt_or_eq.mp hg with z | z
        · exact hno g z
        · rw [z]; exact hn2
    · rintro σ H1 ⟨y2, y3, rfl, o, hno⟩
      refine s_rv o ev_c fun H2 o => o.retV k (j := 0) rfl (.inr ⟨rfl, fun hm => ?_⟩)
      rw [pl_keys] at hm
      have hm : v ∈ F0.flatten ++ (F1.flatten ++ []) := hm
      rw [List.append_nil] at hm
      rcases List.mem_append.mp hm with z | z
      · obtain ⟨l, hl, hv⟩ := List.mem_flatten.mp z
        exact hno 0 (by decide) l hl hv
      · obtain ⟨l, hl, hv⟩ := List.mem_flatten.mp z
        exact hno 1 (by decide) l hl hv
end
abbrev s__law_deal_told : Stmt := topS 58
theorem sc__law_deal_told : FnScope ["_law_deal", "_law_verses", "_law_rows", "_law_field", "_law_cards_here", "_law_row", "_law_verse_here"] ["_law_deal", "_law_verses", "_law_rows"] (defScope s__law_deal_told) := ⟨rfl, rfl, rfl, by decide +kernel, rfl, by decide +kernel, by decide +kernel⟩
section
variable {P : Program} {w : World} {K : PySem.W.Frag} {mg : Str → Option Value} {base : Heap}
/-- two fields, in lists of their own, at p -/
def FlX (H : Hp) (p : Addr) (F0 F1 : List (List Int)) : Prop := ∃ a b xs ys, H p = some (.lst [.ref a, .ref b]) ∧ H a = some (.lst xs) ∧ CIi H xs F0 ∧ H b = some (.lst ys) ∧ CIi H ys F1
theorem FlX.mono {H H' : Hp} {p : Addr} {F0 F1 : List (List Int)} (e : Ex H H') (h : FlX H p F0 F1) : FlX H' p F0 F1 := by
  obtain ⟨a, b, xs, ys, h1, h2, h3, h4, h5⟩ := h
  exact ⟨a, b, xs, ys, e _ _ h1, e _ _ h2, h3.mono e, e _ _ h4, h5.mono e⟩
theorem FlX.fl {H : Hp} {p : Addr} {F0 F1 : List (List Int)} {n : Nat} (h : FlX H p F0 F1) (h0 : fldM n F0 = true) (h1 : fldM n F1 = true) : Fl K H p F0 F1 := by
  obtain ⟨a, b, xs, ys, g1, g2, g3, g4, g5⟩ := h
  obtain ⟨⟨_, l0⟩, r0⟩ := fld_rows h0
  obtain ⟨⟨_, l1⟩, r1⟩ := fld_rows h1
  exact ⟨a, b, sq_of g1, CIi.rw g2 g3 (by omega) (fun l hl => by have := (r0 l hl).1; omega), CIi.rw g4 g5 (by omega) (fun l hl => by have := (r1 l hl).1; omega)⟩
theorem FlX.at {H : Hp} {p : Addr} {F0 F1 : List (List Int)} (h : FlX H p F0 F1) {i : Nat} (hi : i < 2) : ∃ zs c xs, H p = some (.lst zs) ∧ atI zs ((i : Nat) : Int) = some (.ref c) ∧ H c = some (.lst xs) ∧ CIi H xs (fieldM F0 F1 ((i : Nat) : Int)) := by
  obtain ⟨a, b, xs, ys, g1, g2, g3, g4, g5⟩ := h
  rcases i with _ | _ | i
  · exact ⟨_, a, xs, g1, rfl, g2, g3⟩
  · exact ⟨_, b, ys, g1, rfl, g4, g5⟩
  · omega
theorem deal_parts {n : Nat} {F0 F1 : List (List Int)} (h : dealM n F0 F1 = true) : fldM n F0 = true ∧ fldM n F1 = true ∧ ((plM [F0, F1]).map (·.1)).Nodup := by
  unfold dealM goodP at h
  simp only [Bool.and_eq_true, decide_eq_true_eq] at h
  exact ⟨h.1, h.2.1, h.2.2⟩
theorem fld_flat {n : Nat} {F : List (List Int)} (h : fldM n F = true) : ∀ j, (F.take j).flatten.length ≤ 12 * j := fun j => by
  obtain ⟨_, r⟩ := fld_rows h
  have key : ∀ (G : List (List Int)), (∀ l ∈ G, l.length ≤ 12) → G.flatten.length ≤ 12 * G.length := fun G => by
    induction G with
    | nil => intro _; simp
    | cons x g ih =>
      intro hg
      have h1 := ih fun l hl => hg l (List.mem_cons_of_mem _ hl)
      have h2 := hg x List.mem_cons_self
      rw [List.flatten_cons, List.length_append, List.length_cons]
      omega
  have h1 := key (F.take j) fun l hl => (r l (List.mem_of_mem_take hl)).1
  rw [List.length_take] at h1
  omega
def R__law_deal_told (K : PySem.W.Frag) (CB C : Addr) : Rl := ⟨fun vs H r => ∃ (d b v p : Addr) (ls : List (List Str)) (F0 F1 : List (List Int)) (kvs : List (Key × V)), vs = [.ref d, .ref v, .ref p] ∧ DealK K C H d b F0 F1 kvs ∧ BookAt K CB H b ls ∧ Bk K H v ls ∧ FlX H p F0 F1 ∧ dealM ls.length F0 F1 = true ∧ r = .ok (is (.bl true)), fun e ⟨d, b, v, p, ls, F0, F1, kvs, h1, h2, h3, h4, h5, h6⟩ => ⟨d, b, v, p, ls, F0, F1, kvs, h1, h2.mono e, h3.mono e, h4.mono e, h5.mono e, h6⟩⟩
theorem ok__law_deal_told (B : Bt mg) {C_Book C_Deal : Addr} (O_Deal_book : OkM P w K mg base 1 C_Deal "book" ["self"] ((R_Deal_book K C_Deal).sp mg)) (O_Deal_rows : OkM P w K mg base 2 C_Deal "rows" ["self", "field"] ((R_Deal_rows K C_Deal).sp mg)) (O_Deal_cards : OkM P w K mg base 3 C_Deal "cards" ["self", "field"] ((R_Deal_cards K C_Deal).sp mg)) (O_Deal_where : OkM P w K mg base 3 C_Deal "where" ["self", "verse"] ((R_Deal_where K C_Book C_Deal).sp mg)) (O__law_same : ∀ n, Ok P w K mg base n "_law_same" ["_law_found", "_law_due"] ((R__law_same K n).sp mg)) (O__law_book_told : Ok P w K mg base 4 "_law_book_told" ["_law_book_here", "_law_verses"] ((R__law_book_told K C_Book).sp mg)) (O__law_where : Ok P w K mg base 1 "_law_where" ["_law_rows", "_law_verse_here"] ((R__law_where K).sp mg)) (D : Df K mg "_law_deal_told" s__law_deal_told ["_law_deal", "_law_verses", "_law_rows"]) : Ok P w K mg base 5 "_law_deal_told" ["_law_deal", "_law_verses", "_law_rows"] ((R__law_deal_told K C_Book C_Deal).sp mg) := by
  have O__law_same := O__law_same 3
  refine D.ok sc__law_deal_told (fun vs H Q E h => ?_) (fun f cdv A outer s H vs Q E hr h => ?_)
  · obtain ⟨r, ⟨d, b, v, p, ls, F0, F1, kvs, rfl, _⟩, _⟩ := h
    rfl
  · obtain ⟨r, ⟨d, b, v, p, ls, F0, F1, kvs, rfl, hD, hK, hB, hF, hd, rfl⟩, k⟩ := h
    refine ⟨_, (pss_cons (ps_for (passes_of rfl) rfl (pi_range1 (by rfl) B.range (pa_cons pe_int pa_nil)) (pg_name (i := 3) sc__law_deal_told.nd rfl (.inl rfl))
        (pss_cons (ps_set (i := 4) sc__law_deal_told.nd rfl (.inl rfl) (pe_lst pa_nil))
        (pss_cons (ps_for (passes_of rfl) rfl (pi_listK K (pe_ix (ix_seqK K) (pv 2) (pv 3) (fun _ _ => rfl))) (pg_name (i := 5) sc__law_deal_told.nd rfl (.inl rfl))
          (pss_one (ps_set (i := 4) sc__law_deal_told.nd rfl (.inl rfl) (pe_op (op_addK K) (pv 4) (pv 5)))))
        (pss_one (ps_if (PW.pt (pw_or (pt_not (pt_val (pe_callO O__law_same (hr.mono (by omega)) (by rfl) (takes_of rfl rfl rfl rfl) (pa_cons (pe_methO O_Deal_rows (pv 0) (hr.mono (by omega)) (takes_of rfl rfl rfl rfl) (pa_cons (pv 3) pa_nil)) (pa_cons (pe_ix (ix_seqK K) (pv 2) (pv 3) (fun _ _ => rfl)) pa_nil))))) (pw_or1 (pt_not (pt_val (pe_callO O__law_same (hr.mono (by omega)) (by rfl) (takes_of rfl rfl rfl rfl) (pa_cons (pe_methO O_Deal_cards (pv 0) (hr.mono (by omega)) (takes_of rfl rfl rfl rfl) (pa_cons (pv 3) pa_nil)) (pa_cons (pv 4) pa_nil))))))))
          (pss_one (ps_ret pe_bl))
          pss_nil)))))
      (pss_cons (ps_if (pt_not (pt_val (pe_callO O__law_book_told (hr.mono (by omega)) (by rfl) (takes_of rfl rfl rfl rfl) (pa_cons (pe_methO0 O_Deal_book (pv 0) (hr.mono (by omega)) (takes_of rfl rfl rfl rfl)) (pa_cons (pv 1) pa_nil)))))
        (pss_one (ps_ret pe_bl))
        pss_nil)
      (pss_one (ps_ret (pe_callB (cr_allK K rfl) (by rfl) B.all boot_b_all (pa_cons (pe_lc (own := [("_law_verse_here", 6)]) rfl sc__law_deal_told.nd (pi_range1 (by rfl) B.range (pa_cons (pe_callB (call_lenK K) (by rfl) B.len boot_b_len (pa_cons (pv 1) pa_nil)) pa_nil)) (blkOk_by (N := ["_law_deal", "_law_verses", "_law_rows", "_law_field", "_law_cards_here", "_law_row", "_law_verse_here"]) (sc := defScope s__law_deal_told) (by decide +kernel)) (fun _ _ _ _ _ => (pg_name (i := 6) sc__law_deal_told.nd rfl (.inl rfl))) (fun _ _ _ _ _ => pts_nil) (fun _ _ _ _ _ => (pe_callO O__law_same (hr.mono (by omega)) (by rfl) takes0 (pa_cons (pe_methO O_Deal_where (pv 0) (hr.mono (by omega)) takes0 (pa_cons (pv 6) pa_nil)) (pa_cons (pe_callO O__law_where (hr.mono (by omega)) (by rfl) takes0 (pa_cons (pv 2) (pa_cons (pv 6) pa_nil))) pa_nil))))) pa_nil)))))), ?_⟩
    obtain ⟨g0, g1, nd⟩ := deal_parts hd
    obtain ⟨dx, pf, ph, a0, a1, hdi, _, _, _, hph, hkp, _⟩ := id hD
    have hFl : Fl K H p F0 F1 := hF.fl g0 g1
    obtain ⟨ys, hS, hR⟩ := hB.rows
    have hlen := hR.len
    have hl2 := hB.2.1
    have gf : ∀ i : Nat, i < 2 → fldM ls.length (fieldM F0 F1 ((i : Nat) : Int)) = true := fun i hi => by
      rcases i with _ | _ | i
      · exact g0
      · exact g1
      · omega
    refine q_forN (G := emp) (Own.one H) (ei_rng1 (m := 2) (by wtm_at "ev") (by decide)) (fun i σ H' => ∃ y3 y4 y5, σ = [some (.ref d), some (.ref v), some (.ref p), y3, y4, y5, none] ∧ Own [H] H') (fun H1 o => ⟨_, _, _, rfl, o⟩) (fun i σ H' _ _ => emp_ex) ?_ ?_
    · rintro f x σ H1 H2 hf ⟨y3, y4, y5, rfl, o⟩ e rfl
      have o := o.mono e
      have hf : f < 2 := hf
      obtain ⟨zs, c, xs, hp, hat, hc, hci⟩ := hF.at hf
      have hgf := gf f hf
      have hff := fld_flat hgf
      obtain ⟨⟨_, hrl⟩, hrr⟩ := fld_rows hgf
      have hxl := Paired.length hci
      generalize hFe : fieldM F0 F1 ((f : Nat) : Int) = Fi at hci hff hrl hrr hxl
      have evF : ∀ {σ : L2.St} {G : Hp}, Ex H G → Ev (tVar 2) σ G (.ref p) → Ev (tVar 3) σ G (.int ((f : Nat) : Int)) → Ev (tOp (rIx K) (tVar 2) (tVar 3)) σ G (.ref c) := fun e h0 h2 => ev_op h0 h2 (rv_ixLs (sq_of (e _ _ hp)) hat)
      refine q_l (xs := ([] : List Int).map V.int) o (el_lst ea_nil (Nat.le_of_ble_eq_true rfl)) fun pc0 H3 o => ?_
      refine q_forN (G := H) o (ei_list (evF o.e1 (ev_var rfl) (ev_var rfl)) (sq_of hc) o.e1) (fun j σ H' => ∃ (M : Hp) (pc : Addr) (y5 : Option V), σ = [some (.ref d), some (.ref v), some (.ref p), some (.int ((f : Nat) : Int)), some (.ref pc), y5, none] ∧ Own [M, H] H' ∧ M pc = some (.lst ((Fi.take j).flatten.map V.int))) (fun H4 o => ⟨_, pc0, _, rfl, o, sing_at⟩) (fun j σ H' _ ⟨_, _, _, _, o, _⟩ => o.e1) ?_ ?_
      · rintro j x σ H4 H5 hj ⟨M, pc, y5, rfl, o, hM⟩ e hx
        have o := o.mono e
        obtain ⟨l, hl, t, rfl, ht⟩ := LiI.paired_get hci hx
        have hj3 : j < 3 := by omega
        have h12 := hff j
        have hll := (hrr l (List.mem_of_getElem? hl)).1
        refine s_n (P := pLst ((Fi.take j).flatten.map V.int ++ l.map V.int)) o (ep_catN (K := K) (P1 := is (.ref pc)) (P2 := is (.ref t)) (ep_v (ev_var rfl)) (ep_v (ev_var rfl)) fun N1 N2 H1 v1 v2 e _ _ e1 e2 => ⟨pc, t, _, _, e1, e2, e _ _ (o.e0 _ _ hM), e _ _ (o.e1 _ _ ht), by rw [List.length_map, List.length_map]; omega, fun q => ⟨q, rfl, sing_at⟩⟩) fun v4 H6 N4 o hp4 => ?_
        obtain ⟨p4, rfl, h4⟩ := hp4
        refine ⟨N4, p4, _, rfl, ⟨o.1, fun M hM => o.2.1 M (List.mem_cons_of_mem _ hM), o.2.2.2.2⟩, ?_⟩
        rw [h4, (take_snoc hl).1, List.flatten_append, List.map_append]
        simp
      · rintro σ H4 ⟨M, pc, y5, rfl, o, hM⟩
        rw [hxl, List.take_length] at hM
        have hfl : Fi.flatten.length ≤ 36 := by have := hff Fi.length; rw [List.take_length] at this; omega
        have lyR : Ly 2 (eRws Fi) := ly_list (by rw [List.length_map]; omega) fun q hq => by
          obtain ⟨l, hl, rfl⟩ := List.mem_map.mp hq
          exact ly_ints (by have := (hrr l hl).1; omega)
        have lyC : Ly 1 (eInts Fi.flatten) := ly_ints (by omega)
        have dpR : ∀ {G G2 : Hp} {q : Addr} {xs : List V}, Ex G G2 → G q = some (.lst xs) → CIi G xs Fi → Dp K G2 (.ref q) (eRws Fi) := fun e h1 h2 => dp_rws.mpr ⟨_, _, rfl, sq_of (e _ _ h1), paired_imp (fun _ _ ⟨t, a, b⟩ => ⟨t, a, sq_of (e _ _ b)⟩) h2⟩
        have fr : ∀ P, fieldR ((f : Nat) : Int) P = .ok P := fun P => by unfold fieldR; rw [if_pos ⟨by omega, by omega⟩]
        refine s_wh (b := false) o (et_or (et_not (et_B (ev_callN (v := .bl true) (S := R__law_same K 3) (eps_cons (P := pRw Fi) (ep_meth (S := R_Deal_rows K C_Deal) (ev_var rfl) (o.e1 _ _ hdi) rfl (ea_cons (ev_var rfl) ea_nil) ⟨d, b, F0, F1, kvs, _, rfl, hD.mono o.e1, by rw [hFe, fr]⟩) (eps_cons (P := is (.ref c)) (ep_v (evF o.e1 (ev_var rfl) (ev_var rfl))) eps_nil)) fun vs H5 e5 ha => ?_))) fun _ => et_not (et_B (ev_callN (v := .bl true) (S := R__law_same K 3) (eps_cons (P := pLst (Fi.flatten.map V.int)) (ep_meth (S := R_Deal_cards K C_Deal) (ev_var rfl) (o.e1 _ _ hdi) rfl (ea_cons (ev_var rfl) ea_nil) ⟨d, b, F0, F1, kvs, _, rfl, hD.mono o.e1, by rw [hFe]; omega, by rw [hFe, fr]⟩) (eps_cons (P := is (.ref pc)) (ep_v (ev_var rfl)) eps_nil)) fun vs H5 e5 ha => ?_))) (fun h => nomatch h) (fun _ H5 o => ⟨_, _, _, rfl, o.tail⟩)
        · obtain ⟨x, y, rfl, ⟨N1, i1, c1, x1, rfl, q1, q2⟩, _, _, q3⟩ := all2_two ha
          have q3 : y = .ref c := q3
          subst q3
          exact ⟨_, _, _, rfl, dpR i1 q1 q2, dpR (o.e1.trans e5) hc hci, lyR.sm, Nat.lt_of_le_of_lt lyR.dep (by decide), rfl⟩
        · obtain ⟨x, y, rfl, ⟨N1, i1, c1, rfl, q1⟩, _, _, q3⟩ := all2_two ha
          have q3 : y = .ref pc := q3
          subst q3
          exact ⟨_, _, _, rfl, dp_ints.mpr ⟨c1, rfl, sq_of (i1 _ _ q1)⟩, dp_ints.mpr ⟨pc, rfl, sq_of (e5 _ _ (o.e0 _ _ hM))⟩, lyC.sm, Nat.lt_of_le_of_lt lyC.dep (by decide), rfl⟩
    · rintro σ H1 ⟨y3, y4, y5, rfl, o⟩
      refine q_wh (b := false) o (et_not (et_B (ev_callO (v := .bl true) (S := R__law_book_told K C_Book) (vs := [.ref b, .ref v]) (ea_cons (ev_p (ep_meth (S := R_Deal_book K C_Deal) (ev_var rfl) (o.e0 _ _ hdi) rfl ea_nil ⟨d, b, F0, F1, kvs, rfl, hD.mono o.e0, rfl⟩)) (ea_cons (ev_var rfl) ea_nil)) ⟨b, v, ls, rfl, hK.mono o.e0, hB.mono o.e0, rfl⟩))) (fun h => nomatch h) (fun _ H2 o => ?_)
      refine s_rv (v := .bl true) o (ev_is (ev_allI (n := ls.length) (fun i => [some (.ref d), some (.ref v), some (.ref p), y3, y4, y5, some (.int (i : Nat))]) (fun _ => true) (ei_rng1 (G := H2) (m := (ls.length : Nat)) (ea_cons (ev_is (ev_cb (by wtm_at "ev") (rc_lenL (ex_l o.e0 hS))) (by rw [hlen])) ea_nil) (by omega)) (Ex.refl _) (by omega) (fun i x H' _ hx Q q => by rw [hx]; exact q) (fun _ _ => rfl) fun i H3 e3 hi => ?_) (by rw [List.all_eq_true.mpr fun _ _ => rfl])) fun H3 o => o.retV k (j := 0) rfl rfl
      have eH := o.e0.trans e3
      refine ev_callN (v := .bl true) (S := R__law_same K 3) (eps_cons (P := is ((valV kvs (.inl ((i : Nat) : Int))).getD .non)) (ep_meth (S := R_Deal_where K C_Book C_Deal) (ev_var rfl) (eH _ _ hdi) rfl (ea_cons (ev_var rfl) ea_nil) ⟨d, b, ls, F0, F1, kvs, (i : Nat), rfl, hD.mono eH, hK.mono eH, (okR_ok (okN_app (ns := []) hi rfl)).symm⟩) (eps_cons (P := pWh F0 F1 (i : Nat)) (ep_call (S := R__law_where K) (vs := [.ref p, .int (i : Nat)]) (by wtm_at "ev") ⟨p, F0, F1, (i : Nat), rfl, hFl.mono eH, rfl⟩) eps_nil)) fun vs H4 e4 ha => ?_
      obtain ⟨x, y, rfl, ⟨_, _, q1⟩, N1, i1, q2⟩ := all2_two ha
      have q1 : x = (valV kvs (.inl ((i : Nat) : Int))).getD .non := q1
      subst q1
      rcases q2 with ⟨t, fo, ro, ko, rfl, ht, hm⟩ | ⟨rfl, hm⟩
      · obtain ⟨t2, hv, ht2⟩ := hkp.val nd hm
        have hv : valV kvs (.inl ((i : Nat) : Int)) = some (.ref t2) := hv
        rw [hv]
        have ly : Ly 1 (.tuple [.int ((fo : Nat) : Int), .int ((ro : Nat) : Int), .int ((ko : Nat) : Int)]) := ly_tup (Nat.le_of_ble_eq_true rfl) fun q hq => by
          simp only [List.mem_cons, List.not_mem_nil, or_false] at hq
          rcases hq with rfl | rfl | rfl <;> exact ly_int 0 _
        exact ⟨_, _, _, rfl, .tup (st_of (e4 _ _ (eH _ _ ht2))) (.cons (.int _) (.cons (.int _) (.cons (.int _) .nil))), .tup (st_of (i1 _ _ ht)) (.cons (.int _) (.cons (.int _) (.cons (.int _) .nil))), ly.sm, Nat.lt_of_le_of_lt ly.dep (by decide), rfl⟩
      · have hn : valV kvs (.inl ((i : Nat) : Int)) = none := by
          have := hkp.has ((i : Nat) : Int)
          rw [decide_eq_false hm] at this
          cases q : valV kvs (.inl ((i : Nat) : Int)) with
          | none => rfl
          | some z => rw [q] at this; cases this
        rw [hn]
        exact ⟨_, _, _, rfl, .non, .non, (ly_none 1).sm, Nat.lt_of_le_of_lt (ly_none 1).dep (by decide), rfl⟩
end
section
end
section
variable {P : Program} {w : World} {K : PySem.W.Frag} {mg : Str → Option Value} {base : Heap}
def rowOk (F0 F1 : List (List Int)) (f r : Int) : Bool := (decide (0 ≤ f) && decide (f ≤ 1)) && (decide (0 ≤ r) && decide (r < ((fieldM F0 F1 f).length : Int)))
def rowAt (F0 F1 : List (List Int)) (f r : Int) : List Int := (fieldM F0 F1 f).getD r.toNat []
def cardOk (F0 F1 : List (List Int)) (f r p q : Int) : Bool := decide (0 ≤ p) && (decide (p ≤ q) && decide (q < ((rowAt F0 F1 f r).length : Int)))
def swM (F0 F1 : List (List Int)) (f r p q : Int) : List Int := ((rowAt F0 F1 f r).take (q + 1).toNat).drop p.toNat
theorem row_ok {F0 F1 : List (List Int)} {f r : Int} (h : rowOk F0 F1 f r = true) : (0 ≤ f ∧ f ≤ 1) ∧ 0 ≤ r ∧ r.toNat < (fieldM F0 F1 f).length ∧ (fieldM F0 F1 f)[r.toNat]? = some (rowAt F0 F1 f r) := by
  unfold rowOk at h
  simp only [Bool.and_eq_true, decide_eq_true_eq] at h
  have hl : r.toNat < (fieldM F0 F1 f).length := by omega
  exact ⟨h.1, h.2.1, hl, by unfold rowAt; rw [List.getD_eq_getElem?_getD, List.getElem?_eq_getElem hl]; rfl⟩
theorem DealK.row {C : Addr} {H : Hp} {d b : Addr} {F0 F1 : List (List Int)} {kvs : List (Key × V)} {i j : Int} (T : TDeal K mg C) (h : DealK K C H d b F0 F1 kvs) (ho : rowOk F0 F1 i j = true) : ∃ q, SqL K H q ((rowAt F0 F1 i j).map V.int) ∧ ∀ {σ : L2.St} {G : Hp} {td ti tj : TE}, Ex H G → Ev td σ G (.ref d) → Ev ti σ G (.int i) → Ev tj σ G (.int j) → Ev (tOp (rIx K) (tOp (rIx K) (tFld K td "fields") ti) tj) σ G (.ref q) := by
  obtain ⟨dx, pf, ph, a0, a1, h1, h2, h3, h4, _⟩ := h
  obtain ⟨hi, hj, hl, hrow⟩ := row_ok ho
  obtain ⟨a, ha, hr⟩ : ∃ a, atI [V.ref a0, .ref a1] i = some (.ref a) ∧ Rw K H a (fieldM F0 F1 i) := by
    by_cases z : i = 0
    · subst z
      exact ⟨a0, rfl, h3⟩
    · have : i = 1 := by omega
      subst this
      exact ⟨a1, rfl, h4⟩
  obtain ⟨xs, hS, hR⟩ := hr.rows
  obtain ⟨q, hq, hL⟩ := hR.get hrow
  have e : (j.toNat : Int) = j := by omega
  refine ⟨q, hL, fun e1 hd hi hj => ev_op (ev_op (ev_fld hd (e1 _ _ h1) T.cl T.n_fields rfl) hi (rv_ixLs (sq_of (e1 _ _ h2)) ha)) hj (rv_ixLs (ex_l e1 hS) (by rw [← e]; exact atI_nat hq))⟩
end
section
variable {P : Program} {w : World} {K : PySem.W.Frag} {mg : Str → Option Value} {base : Heap}
end
section
variable {P : Program} {w : World} {K : PySem.W.Frag} {mg : Str → Option Value} {base : Heap}
/-! ### kinds, and the promises of earlier texts told by kinds -/
theorem paired_ints {H : Hp} : ∀ {xs : List V} {l : List Int}, Paired (tI.R H) xs l → xs = l.map V.int
  | _, _, .nil => rfl
  | _, _, .cons h r => by
    obtain rfl := h
    rw [paired_ints r]
    rfl
theorem paired_txts {H : Hp} : ∀ {xs : List V} {l : List Str}, Paired (tX.R H) xs l → xs = l.map V.str ∧ ∀ s ∈ l, TxtOk s
  | _, _, .nil => ⟨rfl, fun _ h => nomatch h⟩
  | _, _, .cons h r => by
    obtain ⟨rfl, h2⟩ := h
    obtain ⟨h3, h4⟩ := paired_txts r
    refine ⟨by rw [h3]; rfl, fun s hs => ?_⟩
    rcases List.mem_cons.mp hs with z | z
    · rw [z]; exact h2
    · exact h4 s z
theorem txts_paired {H : Hp} : ∀ {l : List Str}, (∀ s ∈ l, TxtOk s) → Paired (tX.R H) (l.map V.str) l
  | [], _ => .nil
  | s :: l, h => .cons ⟨rfl, h s List.mem_cons_self⟩ (txts_paired fun t ht => h t (List.mem_cons_of_mem _ ht))
theorem ints_of {H : Hp} {v : V} {l : List Int} (h : (tL K tI).R H v l) : ∃ p, v = .ref p ∧ SqL K H p (l.map V.int) := by
  obtain ⟨p, xs, h1, h2, h3, _⟩ := h
  rw [paired_ints h3] at h2
  exact ⟨p, h1, h2⟩
theorem nm_of {H : Hp} {v : V} {l : List Int} (h : (tL K tI).R H v l) (hb : ∀ n ∈ l, 0 ≤ n ∧ n < 9967) : ∃ p, v = .ref p ∧ Nm K H p l := by
  obtain ⟨p, h1, h2⟩ := ints_of h
  exact ⟨p, h1, h2, hb⟩
theorem bk_of {H : Hp} {v : V} {ls : List (List Str)} (h : (tL K (tL K tX)).R H v ls) (h1 : ls.length ≤ 1000) (h2 : ∀ l ∈ ls, l.length ≤ 1000) : ∃ p, v = .ref p ∧ Bk K H p ls := by
  have hd := Pla.dp (K := K) (T := tL K (tL K tX)) h
  obtain ⟨p, xs, rfl, h4, h5, h6⟩ := h
  refine ⟨p, rfl, hd, h1, fun l hl => ⟨h2 l hl, ?_⟩⟩
  obtain ⟨i, hi, rfl⟩ := List.mem_iff_getElem.mp hl
  obtain ⟨v, _, q, ys, _, _, g3, _⟩ := paired_at h5 (List.getElem?_eq_getElem hi)
  exact (paired_txts g3).2
theorem rw_of {H : Hp} {v : V} {rs : List (List Int)} (h : (tL K (tL K tI)).R H v rs) (h1 : rs.length ≤ 1000) (h2 : ∀ l ∈ rs, l.length ≤ 1000) : ∃ p, v = .ref p ∧ Rw K H p rs := by
  have hd := Pla.dp (K := K) (T := tL K (tL K tI)) h
  obtain ⟨p, xs, rfl, h4, h5, h6⟩ := h
  exact ⟨p, rfl, hd, h1, h2⟩
theorem w_ints {N : Hp} {p : Addr} {l : List Int} (h : N p = some (.lst (l.map V.int))) (hl : l.length ≤ 40000) : (tW tI).R N (.ref p) l := ⟨p, _, rfl, h, paired_mapI l, hl⟩
theorem w_rws {N : Hp} {p : Addr} {xs : List V} {rs : List (List Int)} (h : N p = some (.lst xs)) (c : CIi N xs rs) (h1 : rs.length ≤ 40000) (h2 : ∀ l ∈ rs, l.length ≤ 40000) : (tW (tW tI)).R N (.ref p) rs := by
  refine ⟨p, xs, rfl, h, ?_, h1⟩
  clear h h1
  induction c with
  | nil => exact .nil
  | cons a r ih =>
    obtain ⟨t, rfl, h4⟩ := a
    exact .cons (w_ints h4 (h2 _ List.mem_cons_self)) (ih fun l hl => h2 l (List.mem_cons_of_mem _ hl))
theorem w_cells {N : Hp} {p : Addr} {ls : List (List Str)} (c : Cells N p ls) (h1 : ls.length ≤ 1000) (h2 : ∀ l ∈ ls, l.length ≤ 1000 ∧ ∀ s ∈ l, TxtOk s) : (tW (tW tX)).R N (.ref p) ls := by
  obtain ⟨xs, hp, c⟩ := c
  refine ⟨p, xs, rfl, hp, ?_, by omega⟩
  clear hp h1
  induction c with
  | nil => exact .nil
  | cons a r ih =>
    obtain ⟨t, rfl, h4⟩ := a
    obtain ⟨h5, h6⟩ := h2 _ List.mem_cons_self
    exact .cons ⟨t, _, rfl, h4, txts_paired h6, by omega⟩ (ih fun l hl => h2 l (List.mem_cons_of_mem _ hl))
/-- a book | a deal, with its book -/
def tBook (K : PySem.W.Frag) (C : Addr) : Tp (List (List Str)) := ⟨fun H v ls => ∃ b, v = .ref b ∧ BookAt K C H b ls, fun e ⟨b, h1, h2⟩ => ⟨b, h1, h2.mono e⟩⟩
structure DealM where
  ls : List (List Str)
  F0 : List (List Int)
  F1 : List (List Int)
deriving Inhabited
def tDeal (K : PySem.W.Frag) (CB C : Addr) : Tp DealM := ⟨fun H v d => ∃ a b kvs, v = .ref a ∧ DealK K C H a b d.F0 d.F1 kvs ∧ BookAt K CB H b d.ls ∧ dealM d.ls.length d.F0 d.F1 = true, fun e ⟨a, b, kvs, h1, h2, h3, h4⟩ => ⟨a, b, kvs, h1, h2.mono e, h3.mono e, h4⟩⟩
instance {C : Addr} : NN (tBook K C) := ⟨fun ⟨_, h, _⟩ z => by cases h; cases z⟩
instance {CB C : Addr} : NN (tDeal K CB C) := ⟨fun ⟨_, _, _, h, _⟩ z => by cases h; cases z⟩
theorem book_ins {C : Addr} {G : Hp} {v : V} {ls : List (List Str)} {m : Str} (hm : ("lines" == m) = false) (h : (tBook K C).R G v ls) : ∃ a dx gs, v = .ref a ∧ G a = some (.ins C dx gs) ∧ gs.lookup m = none := by
  obtain ⟨b, rfl, ⟨dx, p, h1, _⟩, _⟩ := h
  refine ⟨b, dx, _, rfl, h1, ?_⟩
  have : (m == "lines") = false := by rw [BEq.comm]; exact hm
  simp [List.lookup, this]
theorem deal_ins {CB C : Addr} {G : Hp} {v : V} {d : DealM} {m : Str} (hm : (m == "bound") = false ∧ (m == "fields") = false ∧ (m == "homes") = false) (h : (tDeal K CB C).R G v d) : ∃ a dx gs, v = .ref a ∧ G a = some (.ins C dx gs) ∧ gs.lookup m = none := by
  obtain ⟨a, b, kvs, rfl, ⟨dx, pf, ph, a0, a1, h1, _⟩, _⟩ := h
  exact ⟨a, dx, _, rfl, h1, by simp [List.lookup, hm.1, hm.2.1, hm.2.2]⟩
/-! ### earlier promises -/
theorem ad__law_numbers {G : Hp} {vs : List V} {ns : List Int} {m : Int} (ha : ArgsR G vs [⟨tL K tI, ns⟩, ⟨tI, m⟩]) (h : 0 ≤ m ∧ m ≤ 5000) : (R__law_numbers K).R vs G (.ok (pNums m.toNat)) := by
  obtain ⟨v, w, rfl, h1, rfl⟩ := args2 ha
  obtain ⟨p, rfl, h2⟩ := ints_of h1
  exact ⟨p, ns, m, rfl, h2, h.1, h.2, rfl⟩
theorem cv_nums {m : Int} (hm : m ≤ 5000) : ∀ N v, pNums m.toNat N v → ∃ y, (tW tI).R N v y ∧ Nums m.toNat y := fun N v ⟨p, ns, h1, h2, h3⟩ => by
  subst h1
  exact ⟨ns, w_ints h2 (by have := h3.1; omega), h3⟩
theorem ad__law_book {G : Hp} {vs : List V} {ns : List Int} {n : Int} (ha : ArgsR G vs [⟨tL K tI, ns⟩, ⟨tI, n⟩]) (h : (∀ x ∈ ns, 0 ≤ x ∧ x < 9967) ∧ 9 + 6 * n ≤ ns.length ∧ 1 ≤ n ∧ n ≤ 40) : (R__law_book K).R vs G (.ok (pGood K n.toNat)) := by
  obtain ⟨v, w, rfl, h1, rfl⟩ := args2 ha
  obtain ⟨p, rfl, h2⟩ := nm_of h1 h.1
  exact ⟨p, ns, n, rfl, h2, h.2.1, h.2.2.1, h.2.2.2, rfl⟩
theorem cv_good {n : Nat} : ∀ N v, pGood K n N v → ∃ y, (tW (tW tX)).R N v y ∧ GB n y ∧ ∀ l ∈ y, l.length ≤ 1000 := fun N v ⟨p, ls, h1, h2, h3, h4⟩ => by
  subst h1
  exact ⟨ls, w_cells h4 h2.1.2.1 h2.1.2.2, h3, fun l hl => (h2.1.2.2 l hl).1⟩
theorem ad__law_copyT {G : Hp} {vs : List V} {ls : List (List Str)} (ha : ArgsR G vs [⟨tL K (tL K tX), ls⟩]) (h : ls.length ≤ 1000 ∧ ∀ l ∈ ls, l.length ≤ 1000) : (R__law_copy2 K).R vs G (.ok (pRows K ls)) := by
  obtain ⟨v, rfl, h1⟩ := args1 ha
  obtain ⟨p, rfl, h2⟩ := bk_of h1 h.1 h.2
  exact .inl ⟨p, ls, rfl, h2, rfl⟩
theorem cv_rows {ls : List (List Str)} : ∀ N v, pRows K ls N v → (tW (tW tX)).R N v ls := fun N v ⟨p, h1, h2, h3⟩ => by
  subst h1
  exact w_cells h3 h2.2.1 h2.2.2
theorem cv_rws {rs : List (List Int)} (h1 : rs.length ≤ 1000) (h2 : ∀ l ∈ rs, l.length ≤ 1000) : ∀ N v, pRw rs N v → (tW (tW tI)).R N v rs := fun N v ⟨p, xs, h3, h4, h5⟩ => by
  subst h3
  exact w_rws h4 h5 (by omega) fun l hl => by have := h2 l hl; omega
theorem ad_Book {C : Addr} {G : Hp} {vs : List V} {ls : List (List Str)} (ha : ArgsR G vs [⟨tL K (tL K tX), ls⟩]) (h : needM ls = none ∧ ls.length ≤ 1000 ∧ ∀ l ∈ ls, l.length ≤ 1000) : (R_Book K C).R vs G (.ok (pBook K C ls)) := by
  obtain ⟨v, rfl, h1⟩ := args1 ha
  obtain ⟨p, rfl, h2⟩ := bk_of h1 h.2.1 h.2.2
  exact ⟨p, ls, rfl, h2, (needR_ok h.1).symm⟩
theorem dealM_rows {n : Nat} {F0 F1 : List (List Int)} (h : dealM n F0 F1 = true) : fldM n F0 = true ∧ fldM n F1 = true ∧ goodP [F0, F1] = true := by
  unfold dealM at h
  simp only [Bool.and_eq_true] at h
  exact h
theorem fld_le {n : Nat} {F : List (List Int)} (h : fldM n F = true) : F.length ≤ 1000 ∧ ∀ l ∈ F, l.length ≤ 1000 := by
  obtain ⟨h1, h2⟩ := fld_rows h
  exact ⟨by omega, fun l hl => by have := (h2 l hl).1; omega⟩
theorem list2 {α : Type} {l : List α} (h : l.length = 2) : ∃ a b, l = [a, b] := by
  match l, h with
  | [a, b], _ => exact ⟨a, b, rfl⟩
theorem get2a {α : Type} [Inhabited α] {a b : α} : getI [a, b] 0 = a := rfl
theorem get2b {α : Type} [Inhabited α] {a b : α} : getI [a, b] 1 = b := rfl
theorem ad__law_made {CB C : Addr} {G : Hp} {vs : List V} {ls : List (List Str)} {rows : List (List (List Int))} (ha : ArgsR G vs [⟨tBook K CB, ls⟩, ⟨tL K (tL K (tL K tI)), rows⟩]) (h : rows.length = 2 ∧ dealM ls.length (getI rows 0) (getI rows 1) = true) :
    ∃ P, (R__law_made K CB C).R vs G (.ok P) ∧ ∀ N v G', Ex G G' → Ex N G' → P N v → (tDeal K CB C).R G' v ⟨ls, getI rows 0, getI rows 1⟩ := by
  obtain ⟨hl, hd⟩ := h
  obtain ⟨F0, F1, rfl⟩ := list2 hl
  rw [get2a, get2b] at hd ⊢
  obtain ⟨v, w, rfl, ⟨b, rfl, h1⟩, p, xs, rfl, h2, h3, h4⟩ := args2 ha
  cases h3 with
  | cons a h3 =>
    cases h3 with
    | cons b' h3 =>
      cases h3
      obtain ⟨d0, d1, d2⟩ := dealM_rows hd
      obtain ⟨p0, rfl, g0⟩ := rw_of a (fld_le d0).1 (fld_le d0).2
      obtain ⟨p1, rfl, g1⟩ := rw_of b' (fld_le d1).1 (fld_le d1).2
      refine ⟨pDeal K C b F0 F1, ⟨b, p, ls, F0, F1, rfl, h1, ⟨p0, p1, h2, g0, g1⟩, by unfold dealR; rw [if_pos hd]⟩, fun N v G' e1 e2 ⟨d, kvs, ev, hk⟩ => ?_⟩
      subst ev
      exact ⟨d, b, kvs, rfl, hk.mono e2, h1.mono e1, hd⟩
/-- fields as they were drawn -/
def FldsOk (n : Nat) (rows : List (List (List Int))) : Prop := ∃ n0 C, FOk n n0 C ∧ rows = [C.take n0, C.drop n0]
theorem ad__law_fields {G : Hp} {vs : List V} {ns : List Int} {n : Int} (ha : ArgsR G vs [⟨tI, n⟩, ⟨tL K tI, ns⟩]) (h : (∀ x ∈ ns, 0 ≤ x ∧ x < 9967) ∧ 0 ≤ n ∧ 3 + n ≤ ns.length ∧ n ≤ 1000) : (R__law_fields K).R vs G (.ok (pFds n.toNat)) := by
  obtain ⟨v, w, rfl, rfl, h1⟩ := args2 ha
  obtain ⟨p, rfl, h2⟩ := nm_of h1 h.1
  have e : n = ((n.toNat : Nat) : Int) := by omega
  exact ⟨n.toNat, p, ns, by rw [← e], h2, by omega, by omega, rfl⟩
theorem CA.wts {M : Hp} {ts : List Addr} {C : List (List Int)} (h : CA M ts (C.map fun l => l.map V.int)) (hl : ∀ l ∈ C, l.length ≤ 12) : Paired ((tW tI).R M) (ts.map V.ref) C := by
  induction C generalizing ts with
  | nil => cases h; exact .nil
  | cons l r ih =>
    cases h with
    | cons h1 h2 => exact .cons (w_ints h1 (by have := hl l List.mem_cons_self; omega)) (ih h2 fun x hx => hl x (List.mem_cons_of_mem _ hx))
theorem FldsOk.deal {n : Nat} {rows : List (List (List Int))} (h : FldsOk n rows) : rows.length = 2 ∧ dealM n (getI rows 0) (getI rows 1) = true := by
  obtain ⟨n0, C, h1, rfl⟩ := h
  rw [get2a, get2b]
  exact ⟨rfl, h1.deal⟩
/-- what a sweep touches, or the class of the refusal -/
def swErr (d : DealM) (s : T4 Int Int Int Int) : Option Str := if rowOk d.F0 d.F1 s.a s.b = true then (if cardOk d.F0 d.F1 s.a s.b s.c s.d = true then none else some "NoCard") else some "NoField"
def swTo (d : DealM) (s : T4 Int Int Int Int) : List Int := swM d.F0 d.F1 s.a s.b s.c s.d
theorem ad__law_same {α : Type} {T S : Tp α} [Z : Pla K T] [Y : Pla K S] {G : Hp} {vs : List V} {x y : α} {n : Nat} (hxy : Z.enc = Y.enc) (hn : Z.dep < n) (ha : ArgsR G vs [⟨T, x⟩, ⟨S, y⟩]) (h : x = y) : (R__law_same K n).R vs G (.ok (is (.bl true))) := by
  obtain ⟨v, w, rfl, h1, h2⟩ := args2 ha
  subst h
  have h3 := Y.dp h2
  rw [← hxy] at h3
  exact ⟨v, w, Z.enc x, rfl, Z.dp h1, h3, Z.sm h1, Nat.lt_of_le_of_lt (Z.depth x) hn, rfl⟩
end
section
variable {P : Program} {w : World} {K : PySem.W.Frag} {mg : Str → Option Value} {base : Heap}
theorem Own.off {p : Addr} {u : HO} {H : Hp} : ∀ {Ns : List Hp}, Own Ns H → (∀ M ∈ Ns, M p = none) → Own Ns (upd H p u)
  | [], _, _ => trivial
  | M :: r, ⟨a, b, c⟩, h => ⟨fun x o hx => by
      have ne : x ≠ p := fun z => by rw [z, h M List.mem_cons_self] at hx; cases hx
      rw [upd_ne ne]
      exact a x o hx, b, Own.off c fun M' hM' => h M' (List.mem_cons_of_mem _ hM')⟩
def putF (F0 F1 : List (List Int)) (i j : Int) (cs : List Int) : List (List Int) × List (List Int) := if i = 0 then (F0.set j.toNat cs, F1) else (F0, F1.set j.toNat cs)
end
local macro_rules | `(tactic| wtm_at "vc") => `(tactic| first
  | assumption
  | omega
  | trivial
  | (simp only [rngI_get, rngI2_get, enumI_get, rngI_mem, rngI2_mem, rngI_len, rngI2_len, enumI_len, List.length_nil, List.length_cons, List.length_append, List.length_map, List.length_set, Bool.and_eq_true, Bool.or_eq_true, Bool.or_eq_false_iff, Bool.and_eq_false_iff, Bool.not_eq_true', Bool.not_eq_false', decide_eq_true_eq, decide_eq_false_iff_not, Int.reduceToNat, Nums] at *; omega)
  | (subst_vars; simp only [rngI_get, rngI2_get, enumI_get, rngI_mem, rngI2_mem, rngI_len, rngI2_len, enumI_len, List.length_nil, List.length_cons, List.length_append, List.length_map, List.length_set, Bool.and_eq_true, Bool.or_eq_true, Bool.or_eq_false_iff, Bool.and_eq_false_iff, Bool.not_eq_true', Bool.not_eq_false', decide_eq_true_eq, decide_eq_false_iff_not, Int.reduceToNat, Nums] at *; omega)
  | rfl
  | decide)
local macro_rules | `(tactic| wtm_at "asm") => `(tactic| assumption)
section
variable {P : Program} {w : World} {K : PySem.W.Frag} {mg : Str → Option Value} {base : Heap}
theorem deal_ok {CB C : Addr} {H : Hp} {v : V} {d : DealM} (h : (tDeal K CB C).R H v d) : dealM d.ls.length d.F0 d.F1 = true ∧ needM d.ls = none := by
  obtain ⟨_, _, _, _, _, h1, h2⟩ := h
  exact ⟨h2, h1.2⟩
/-- rows of two fields -/
structure RowsOk (rows : List (List (List Int))) : Prop where
  two : rows.length = 2
  row : ∀ r ∈ rows, (1 ≤ r.length ∧ r.length ≤ 3) ∧ ∀ c ∈ r, c.length ≤ 12
theorem getI_mem {α : Type} [Inhabited α] {l : List α} {i : Int} (h : -(l.length : Int) ≤ i ∧ i < l.length) : getI l i ∈ l := by
  have := atI_get h
  have e : atI l i = some (getI l i) := this
  unfold atI at e
  cases q : ixN l.length i with
  | none => rw [q] at e; cases e
  | some j =>
    rw [q] at e
    exact List.mem_of_getElem? e
theorem take_succ_of {α : Type} {l : List α} {i : Nat} {y : α} (h : l[i]? = some y) : l.take (i + 1) = l.take i ++ [y] := by
  obtain ⟨hi, rfl⟩ := List.getElem?_eq_some_iff.mp h
  exact (List.take_append_getElem hi).symm
theorem get3 {x a b c : Int} : getI [a, b, c] (x % 3) = a ∨ getI [a, b, c] (x % 3) = b ∨ getI [a, b, c] (x % 3) = c := by
  have h : x % 3 = 0 ∨ x % 3 = 1 ∨ x % 3 = 2 := by omega
  rcases h with h | h | h <;> rw [h]
  · exact .inl rfl
  · exact .inr (.inl rfl)
  · exact .inr (.inr rfl)
theorem cutI_from {α : Type} (l : List α) {a : Int} (ha : 0 ≤ a) : cutI l (some a) none = l.drop a.toNat := by
  obtain ⟨n, rfl⟩ : ∃ n : Nat, a = n := ⟨a.toNat, by omega⟩
  unfold cutI
  rw [HT.sIx_nat, HT.sIx_none, Int.toNat_natCast]
  by_cases h : n ≤ l.length
  · rw [Nat.min_eq_left h, List.take_of_length_le (by rw [List.length_drop]; omega)]
  · rw [Nat.min_eq_right (by omega), List.drop_length, List.drop_of_length_le (by omega), List.take_nil]
theorem Nums.cut {n : Nat} {l : List Int} (h : Nums n l) {a : Int} (ha : 0 ≤ a) : (∀ x ∈ cutI l (some a) none, 0 ≤ x ∧ x < 9967) ∧ (cutI l (some a) none).length = n - a.toNat := by
  rw [cutI_from l ha]
  exact ⟨fun x hx => h.2 x (List.mem_of_mem_drop hx), by rw [List.length_drop, h.1]⟩
theorem FldsOk.rows {n : Nat} {rows : List (List (List Int))} (h : FldsOk n rows) : RowsOk rows := by
  obtain ⟨n0, C, h1, rfl⟩ := h
  have lo := h1.lo
  have hi := h1.hi
  refine ⟨rfl, fun r hr => ?_⟩
  rcases List.mem_cons.mp hr with z | z
  · subst z
    exact ⟨by rw [List.length_take]; omega, fun c hc => h1.len c (List.mem_of_mem_take hc)⟩
  · rcases List.mem_cons.mp z with z | z
    · subst z
      exact ⟨by rw [List.length_drop]; omega, fun c hc => h1.len c (List.mem_of_mem_drop hc)⟩
    · cases z
theorem get3_le {x a b c : Int} {M : Nat} (ha : a.toNat ≤ M) (hb : b.toNat ≤ M) (hc : c.toNat ≤ M) : (getI [a, b, c] (x % 3)).toNat ≤ M := by
  rcases get3 (x := x) (a := a) (b := b) (c := c) with h | h | h <;> rw [h] <;> assumption
theorem get3_rng {x a b c : Int} {M : Int} (ha : 1 ≤ a ∧ a ≤ M) (hb : 1 ≤ b ∧ b ≤ M) (hc : 1 ≤ c ∧ c ≤ M) : 1 ≤ getI [a, b, c] (x % 3) ∧ getI [a, b, c] (x % 3) ≤ M := by
  rcases get3 (x := x) (a := a) (b := b) (c := c) with h | h | h <;> rw [h] <;> assumption
theorem book_pre {n : Nat} {l : List Int} {k m : Int} (M : Int) (h : Nums n l) (hm : 1 ≤ m ∧ m ≤ M) (hk : 0 ≤ k) (hn : 9 + 6 * M + k ≤ n) (hM : M ≤ 40) : (∀ x ∈ cutI l (some k) none, 0 ≤ x ∧ x < 9967) ∧ 9 + 6 * m ≤ (cutI l (some k) none).length ∧ 1 ≤ m ∧ m ≤ 40 := by
  obtain ⟨h1, h2⟩ := h.cut hk
  exact ⟨h1, by omega, hm.1, by omega⟩
theorem flds_pre {n m : Nat} {l : List Int} {k : Int} {vs : List (List Str)} (M : Nat) (h : Nums n l) (hb : GB m vs ∧ ∀ l ∈ vs, l.length ≤ 1000) (hm : m ≤ M) (hk : 0 ≤ k) (hn : 3 + (M : Int) + k ≤ n) (hM : M ≤ 40) : (∀ x ∈ cutI l (some k) none, 0 ≤ x ∧ x < 9967) ∧ 0 ≤ (vs.length : Int) ∧ 3 + (vs.length : Int) ≤ (cutI l (some k) none).length ∧ (vs.length : Int) ≤ 1000 := by
  obtain ⟨h1, h2⟩ := h.cut hk
  have := hb.1.len
  exact ⟨h1, by omega, by omega, by omega⟩
theorem book_lens {m : Nat} {vs : List (List Str)} (hb : GB m vs ∧ ∀ l ∈ vs, l.length ≤ 1000) (hm : m ≤ 40) : needM vs = none ∧ vs.length ≤ 1000 ∧ ∀ l ∈ vs, l.length ≤ 1000 := by
  have := hb.1.len
  exact ⟨hb.1.need hm, by omega, hb.2⟩
end
section
variable {P : Program} {w : World} {K : PySem.W.Frag} {mg : Str → Option Value} {base : Heap}
/-! ### fields of a deal; where a verse lies -/
section
variable {σ : L2.St} {H B : Hp} {te : TE} {CB C : Addr} {d : DealM}
end
/-- the field, row and place of a verse -/
def whereM (F0 F1 : List (List Int)) (v : Int) : Option (T3 Int Int Int) := ((plM [F0, F1]).find? fun q => decide (q.1 = v)).map fun q => ⟨(q.2.1 : Nat), (q.2.2.1 : Nat), (q.2.2.2 : Nat)⟩
def numErr (n : Nat) (ns : List Int) : Option Str := if okN n ns = true then none else some "NoVerse"
theorem num_ok {n : Nat} {ns : List Int} {P : Hp → V → Prop} : okR n ns P = resE (numErr n ns) P := by
  unfold okR numErr
  split <;> rfl
theorem val_kp {G : Hp} {kvs : List (Key × V)} {ps : List Pl} (h : KP G kvs ps) (v : Int) : (tO (tT3 K tI tI tI)).R G ((valV kvs (.inl v)).getD .non) ((ps.find? fun q => decide (q.1 = v)).map fun q => ⟨(q.2.1 : Nat), (q.2.2.1 : Nat), (q.2.2.2 : Nat)⟩) := by
  induction h with
  | nil => rfl
  | cons a r ih =>
    rename_i kv q kvs' ps'
    obtain ⟨k1, t, k2, k3⟩ := a
    by_cases e : q.1 = v
    · have z1 : valV (kv :: kvs') (.inl v) = some kv.2 := valV_pos (by rw [k1, e])
      rw [z1, List.find?_cons, decide_eq_true e, k2]
      exact ⟨⟨t, _, _, _, rfl, st_of k3, rfl, rfl, rfl⟩, fun z => nomatch z⟩
    · have z1 : valV (kv :: kvs') (.inl v) = valV kvs' (.inl v) := valV_neg (fun z => e (by rw [k1] at z; exact Sum.inl.inj z))
      rw [z1, List.find?_cons, decide_eq_false e]
      exact ih
theorem ad_Deal_where {CB C : Addr} {G : Hp} {vs : List V} {d : DealM} {v : Int} {e : Option Str} (ha : ArgsR G vs [⟨tDeal K CB C, d⟩, ⟨tI, v⟩]) (he : numErr d.ls.length [v] = none) :
    ∃ P, (R_Deal_where K CB C).R vs G (.ok P) ∧ ∀ N x G', Ex G G' → Ex N G' → P N x → (tO (tT3 K tI tI tI)).R G' x (whereM d.F0 d.F1 v) := by
  obtain ⟨x, y, rfl, ⟨a, b, kvs, rfl, h1, h2, h3⟩, rfl⟩ := args2 ha
  refine ⟨is ((valV kvs (.inl v)).getD .non), ⟨a, b, d.ls, d.F0, d.F1, kvs, v, rfl, h1, h2, by rw [num_ok, he]; rfl⟩, fun N x G' e1 _ hx => ?_⟩
  have hx : x = _ := hx
  subst hx
  obtain ⟨dx, pf, ph, a0, a1, _, _, _, _, _, hk, _⟩ := h1
  exact Tp.up _ e1 (val_kp hk v)
theorem ad_Deal_whereE {CB C : Addr} {G : Hp} {vs : List V} {d : DealM} {v : Int} {x : Str} (ha : ArgsR G vs [⟨tDeal K CB C, d⟩, ⟨tI, v⟩]) (he : numErr d.ls.length [v] = some x) : (R_Deal_where K CB C).R vs G (.err x []) := by
  obtain ⟨z, y, rfl, ⟨a, b, kvs, rfl, h1, h2, h3⟩, rfl⟩ := args2 ha
  exact ⟨a, b, d.ls, d.F0, d.F1, kvs, v, rfl, h1, h2, by rw [num_ok, he]; rfl⟩
/-- unread verses as they were drawn -/
def UnI (n : Nat) (us : List Int) : Prop := ∃ ns, Un n ns ∧ us = ns.map fun i => ((i : Nat) : Int)
end
section
variable {P : Program} {w : World} {K : PySem.W.Frag} {mg : Str → Option Value} {base : Heap}
theorem ad_Deal_book {CB C : Addr} {G : Hp} {vs : List V} {d : DealM} (ha : ArgsR G vs [⟨tDeal K CB C, d⟩]) : ∃ P, (R_Deal_book K C).R vs G (.ok P) ∧ ∀ N x G', Ex G G' → Ex N G' → P N x → (tBook K CB).R G' x d.ls := by
  obtain ⟨x, rfl, a, b, kvs, rfl, h1, h2, h3⟩ := args1 ha
  refine ⟨is (.ref b), ⟨a, b, d.F0, d.F1, kvs, rfl, h1, rfl⟩, fun N x G' e1 _ hx => ?_⟩
  have hx : x = _ := hx
  subst hx
  exact ⟨b, rfl, h2.mono e1⟩
end
section
theorem getI_at {α : Type} [Inhabited α] {l : List α} {i : Nat} {x : α} (h : l[i]? = some x) : getI l (i : Int) = x := by
  have hl := get_lt h
  unfold getI atI
  rw [ixN_nat hl]
  show (l[i]?).getD default = x
  rw [h]
  rfl
theorem getI_head {α : Type} [Inhabited α] {a : α} {l : List α} : getI (a :: l) 0 = a := getI_at (i := 0) rfl
end
section
variable {P : Program} {w : World} {K : PySem.W.Frag} {mg : Str → Option Value} {base : Heap}
end
section
variable {P : Program} {w : World} {K : PySem.W.Frag} {mg : Str → Option Value} {base : Heap}
/-- a row's sweep of a cover -/
structure CovAt (d : DealM) (vs : List Int) (s : T4 Int Int Int Int) : Prop where
  ok : swErr d s = none
  fst : getI (swTo d s) 0 ∈ vs
  lst : getI (swTo d s) (-1) ∈ vs
  pos : 0 < (swTo d s).length
end
section
variable {P : Program} {w : World} {K : PySem.W.Frag} {mg : Str → Option Value} {base : Heap}
theorem okN_err {n : Nat} {ns : List Int} (h : okN n ns = true) : numErr n ns = none := if_pos h
theorem okN_mem {n : Nat} {ns : List Int} : okN n ns = true ↔ ∀ x ∈ ns, 0 ≤ x ∧ x < (n : Int) := by
  unfold okN
  simp only [List.all_eq_true, Bool.and_eq_true, decide_eq_true_eq]
theorem needM_len {ls : List (List Str)} (h : needM ls = none) : 1 ≤ ls.length ∧ ls.length ≤ 40 := by
  unfold needM at h
  split at h
  · assumption
  · cases h
end
section
variable {P : Program} {w : World} {K : PySem.W.Frag} {mg : Str → Option Value} {base : Heap}
/-- a scene: verses, rows, unread verses -/
structure SceneOk (m : Nat) (y : T3 (List (List Str)) (List (List (List Int))) (List Int)) : Prop where
  gb : GB m y.a ∧ ∀ l ∈ y.a, l.length ≤ 1000
  flds : FldsOk y.a.length y.b
  un : UnI y.a.length y.c
theorem Nums.own {n : Nat} {l : List Int} (h : Nums n l) {a : Int} (ha : 0 ≤ a) : Nums (cutI l (some a) none).length (cutI l (some a) none) := ⟨rfl, (h.cut ha).1⟩
theorem UnI.ok {n : Nat} {us : List Int} (h : UnI n us) : okN n us = true ∧ us.length ≤ n + 2 := by
  obtain ⟨ns, ⟨h1, h2⟩, rfl⟩ := h
  refine ⟨okN_mem.mpr fun x hx => ?_, by rw [List.length_map]; exact h2⟩
  obtain ⟨i, hi, rfl⟩ := List.mem_map.mp hx
  have := h1 i hi
  omega
end
local macro_rules | `(tactic| wtm_at "asm") => `(tactic| first
  | assumption
  | exact SceneOk.gb (by assumption)
  | exact SceneOk.flds (by assumption)
  | exact SceneOk.un (by assumption))
section
variable {P : Program} {w : World} {K : PySem.W.Frag} {mg : Str → Option Value} {base : Heap}
theorem getI_nat {α : Type} [Inhabited α] {l : List α} {i : Int} (h : 0 ≤ i) : getI l i = l.getD i.toNat default := by
  unfold getI atI ixN
  rw [if_pos h]
  by_cases hl : i < l.length
  · rw [if_pos hl]; simp [List.getD_eq_getElem?_getD]
  · rw [if_neg hl, List.getD_eq_getElem?_getD, List.getElem?_eq_none (by omega)]
    rfl
end
section
variable {P : Program} {w : World} {K : PySem.W.Frag} {mg : Str → Option Value} {base : Heap}
/-! ### rows and cards of a field -/
def fldErr (i : Int) : Option Str := if 0 ≤ i ∧ i ≤ 1 then none else some "NoField"
theorem fld_err {i : Int} {P : Hp → V → Prop} : fieldR i P = resE (fldErr i) P := by
  unfold fieldR fldErr
  split <;> rfl
def cardsI (d : DealM) (i : Int) : List Int := (fieldM d.F0 d.F1 i).flatten
theorem flat_12 : ∀ {F : List (List Int)}, (∀ l ∈ F, l.length ≤ 12) → F.flatten.length ≤ 12 * F.length
  | [], _ => Nat.le_refl _
  | a :: F, h => by
    have h1 := flat_12 fun l hl => h l (List.mem_cons_of_mem _ hl)
    have h2 := h a List.mem_cons_self
    rw [List.flatten_cons, List.length_append, List.length_cons]
    omega
theorem cards_len {d : DealM} (h : dealM d.ls.length d.F0 d.F1 = true) (i : Int) : (cardsI d i).length ≤ 36 := by
  obtain ⟨h0, h1, _⟩ := dealM_rows h
  have key : ∀ F, fldM d.ls.length F = true → F.flatten.length ≤ 36 := fun F hF => by
    obtain ⟨g1, g2⟩ := fld_rows hF
    have := flat_12 fun l hl => (g2 l hl).1
    omega
  unfold cardsI fieldM
  split
  · exact key _ h0
  · exact key _ h1
theorem ad_Deal_cards {CB C : Addr} {G : Hp} {vs : List V} {d : DealM} {i : Int} {r : Res} (ha : ArgsR G vs [⟨tDeal K CB C, d⟩, ⟨tI, i⟩]) (hr : r = resE (fldErr i) (pLst ((cardsI d i).map V.int))) : (R_Deal_cards K C).R vs G r := by
  obtain ⟨v, w, rfl, ⟨a, b, kvs, rfl, h1, h2, h3⟩, rfl⟩ := args2 ha
  exact ⟨a, b, d.F0, d.F1, kvs, i, rfl, h1, Nat.le_trans (cards_len h3 i) (by decide), by rw [hr, fld_err]; rfl⟩
theorem cv_cards {l : List Int} (h : l.length ≤ 40000) : ∀ N v, pLst (l.map V.int) N v → (tW tI).R N v l := fun N v ⟨p, h1, h2⟩ => ⟨p, _, h1, h2, paired_mapI l, h⟩
end
section
variable {P : Program} {w : World} {K : PySem.W.Frag} {mg : Str → Option Value} {base : Heap}
/-! ### deals changed -/
def FB (n : Nat) (F : List (List Int)) : Prop := (1 ≤ F.length ∧ F.length ≤ 3) ∧ ∀ l ∈ F, l.length ≤ 12 ∧ ∀ c ∈ l, 0 ≤ c ∧ c < (n : Int)
theorem fld_iff {n : Nat} {F : List (List Int)} : fldM n F = true ↔ FB n F := by
  refine ⟨fun h => fld_rows h, fun h => ?_⟩
  unfold fldM okRw
  simp only [Bool.and_eq_true, decide_eq_true_eq, List.all_eq_true]
  obtain ⟨⟨h1, h2⟩, h3⟩ := h
  refine ⟨⟨by omega, by omega⟩, fun l hl => ?_⟩
  obtain ⟨h4, h5⟩ := h3 l hl
  refine ⟨by omega, fun c hc => ?_⟩
  have h6 := h5 c hc
  unfold okCd
  simp only [Bool.and_eq_true, decide_eq_true_eq]
  exact h6
theorem deal_iff {n : Nat} {F0 F1 : List (List Int)} : dealM n F0 F1 = true ↔ FB n F0 ∧ FB n F1 ∧ (F0.flatten ++ F1.flatten).Nodup := by
  have e : goodP [F0, F1] = true ↔ (F0.flatten ++ F1.flatten).Nodup := by
    unfold goodP
    rw [decide_eq_true_eq, pl_keys]
    show (F0.flatten ++ (F1.flatten ++ [])).Nodup ↔ _
    rw [List.append_nil]
  unfold dealM
  rw [Bool.and_eq_true, Bool.and_eq_true, fld_iff, fld_iff, e]
theorem ad_Deal_rows {CB C : Addr} {G : Hp} {vs : List V} {d : DealM} {i : Int} {r : Res} (ha : ArgsR G vs [⟨tDeal K CB C, d⟩, ⟨tI, i⟩]) (hr : r = resE (fldErr i) (pRw (fieldM d.F0 d.F1 i))) : (R_Deal_rows K C).R vs G r := by
  obtain ⟨v, x, rfl, ⟨a, b, kvs, rfl, h1, h2, h3⟩, rfl⟩ := args2 ha
  exact ⟨a, b, d.F0, d.F1, kvs, i, rfl, h1, by rw [hr, fld_err]⟩
theorem fieldM_le {d : DealM} (h : dealM d.ls.length d.F0 d.F1 = true) (i : Int) : (fieldM d.F0 d.F1 i).length ≤ 1000 ∧ ∀ l ∈ fieldM d.F0 d.F1 i, l.length ≤ 1000 := by
  obtain ⟨h0, h1, _⟩ := dealM_rows h
  unfold fieldM
  split
  · exact fld_le h0
  · exact fld_le h1
variable {C CB : Addr} {σ : L2.St} {H B : Hp} {te : TE} {d : DealM}
end
section
variable {P : Program} {w : World} {K : PySem.W.Frag} {mg : Str → Option Value} {base : Heap}
theorem cii_of {H : Hp} {v : V} {F : List (List Int)} (h : (tW (tW tI)).R H v F) : ∃ p xs, v = .ref p ∧ H p = some (.lst xs) ∧ CIi H xs F := by
  obtain ⟨p, xs, rfl, h2, h3, _⟩ := h
  exact ⟨p, xs, rfl, h2, paired_imp (fun x l ⟨t, ys, e1, e2, e3, _⟩ => ⟨t, e1, by rw [← paired_ints e3]; exact e2⟩) h3⟩
theorem flx_of {H : Hp} {v : V} {rows : List (List (List Int))} (h : (tW (tW (tW tI))).R H v rows) (hl : rows.length = 2) : ∃ p, v = .ref p ∧ FlX H p (getI rows 0) (getI rows 1) := by
  obtain ⟨F0, F1, rfl⟩ := list2 hl
  rw [get2a, get2b]
  obtain ⟨p, xs, rfl, h2, h3, h4⟩ := h
  cases h3 with
  | cons a h3 =>
    cases h3 with
    | cons b' h3 =>
      cases h3
      obtain ⟨p0, x0, rfl, q0, c0⟩ := cii_of a
      obtain ⟨p1, x1, rfl, q1, c1⟩ := cii_of b'
      exact ⟨p, rfl, p0, p1, x0, x1, h2, q0, c0, q1, c1⟩
theorem ad__law_deal_told {CB C : Addr} {G : Hp} {vs : List V} {d : DealM} {ls : List (List Str)} {rows : List (List (List Int))} (ha : ArgsR G vs [⟨tDeal K CB C, d⟩, ⟨tL K (tL K tX), ls⟩, ⟨tW (tW (tW tI)), rows⟩]) (h : d = ⟨ls, getI rows 0, getI rows 1⟩ ∧ rows.length = 2 ∧ ls.length ≤ 1000 ∧ ∀ l ∈ ls, l.length ≤ 1000) : (R__law_deal_told K CB C).R vs G (.ok (is (.bl true))) := by
  obtain ⟨x, y, z, rfl, ⟨a, b, kvs, rfl, h1, h2, h3⟩, h4, h5⟩ := args3 ha
  obtain ⟨rfl, hl, hb⟩ := h
  obtain ⟨v, rfl, h6⟩ := bk_of h4 hb.1 hb.2
  obtain ⟨p, rfl, h7⟩ := flx_of h5 hl
  exact ⟨a, b, v, p, ls, _, _, kvs, rfl, h1, h2, h6, h7, h3, rfl⟩
end
section
variable {P : Program} {w : World} {K : PySem.W.Frag} {mg : Str → Option Value} {base : Heap}
end
section
variable {P : Program} {w : World} {K : PySem.W.Frag} {mg : Str → Option Value} {base : Heap}
end
section
variable {P : Program} {w : World} {K : PySem.W.Frag} {mg : Str → Option Value} {base : Heap}
theorem needM_ver {ls : List (List Str)} (h : needM ls = none) : ∀ l ∈ ls, isVer l = true := by
  unfold needM at h
  split at h
  · split at h
    · cases h
    · rename_i hb
      intro l hl
      unfold badRow at hb
      rw [List.find?_range_eq_none] at hb
      obtain ⟨i, hi, rfl⟩ := List.mem_iff_getElem.mp hl
      have := hb i hi
      have e : row1 ls i = ls[i] := by
        unfold row1
        rw [List.getD_eq_getElem?_getD, List.getElem?_eq_getElem hi]
        rfl
      rw [e] at this
      simpa using this
  · cases h
end
section
/-! ### a table: its class, what it holds -/
structure TTable (K : PySem.W.Frag) (mg : Str → Option Value) (C : Addr) : Prop where
  cl : Cls K C
  g : mg "Table" = some (.ref C)
  n_begun : NoAttr K C "begun"
  n_lying : NoAttr K C "lying"
  n_past : NoAttr K C "past"
  n_spoken : NoAttr K C "spoken"
  n_hands : NoAttr K C "hands"
  n_won : NoAttr K C "won"
  n_missed : NoAttr K C "missed"
  n_owed : NoAttr K C "owed"
abbrev Swp := T4 Int Int Int Int
abbrev Rdg := T4 Int (Option Int) Bool Bool
abbrev Hnd := T3 Int Int Swp
structure TabM where
  begun : DealM
  lying : DealM
  past : List Rdg
  spoken : Option (Int × Int)
  hands : List Hnd
  won : Int × Int
  missed : Int × Int
  owed : Option (Int × Int)
def tabF (b l p s h w m o : V) : List (Str × V) := [("begun", b), ("lying", l), ("past", p), ("spoken", s), ("hands", h), ("won", w), ("missed", m), ("owed", o)]
theorem tabF_len {b l p s h w m o : V} : (tabF b l p s h w m o).length < 1000 := by show 8 < 1000; decide
theorem put_spoken {b l p s h w m o : V} : ∀ v, L2.putF "spoken" v (tabF b l p s h w m o) = tabF b l p v h w m o := fun v => rfl
theorem put_hands {b l p s h w m o : V} : ∀ v, L2.putF "hands" v (tabF b l p s h w m o) = tabF b l p s v w m o := fun v => rfl
abbrev tSwp (K : PySem.W.Frag) : Tp Swp := tT4 K tI tI tI tI
abbrev tRdg (K : PySem.W.Frag) : Tp Rdg := tT4 K tI (tO tI) tB tB
abbrev tHnd (K : PySem.W.Frag) : Tp Hnd := tT3 K tI tI (tSwp K)
/-- the cell of a table is its part; what it holds lies about -/
def stTab (K : PySem.W.Frag) (CB CD CT : Addr) : St TabM := ⟨fun B N v x => ∃ (p dx : Addr) (b l ps s h w m o : V), v = .ref p ∧ N = sing p (.ins CT dx (tabF b l ps s h w m o)) ∧ (tDeal K CB CD).R B b x.begun ∧ (tDeal K CB CD).R B l x.lying ∧ (tW (tRdg K)).R B ps x.past ∧ (tO (tP K tI tI)).R B s x.spoken ∧ (tW (tHnd K)).R B h x.hands ∧ (tP K tI tI).R B w x.won ∧ (tP K tI tI).R B m x.missed ∧ (tO (tP K tI tI)).R B o x.owed,
  fun e ⟨p, dx, b, l, ps, s, h, w, m, o, e1, e2, f1, f2, f3, f4, f5, f6, f7, f8⟩ => ⟨p, dx, b, l, ps, s, h, w, m, o, e1, e2, Tp.up _ e f1, Tp.up _ e f2, Tp.up _ e f3, Tp.up _ e f4, Tp.up _ e f5, Tp.up _ e f6, Tp.up _ e f7, Tp.up _ e f8⟩⟩
theorem tab_ins {K : PySem.W.Frag} {CB CD CT : Addr} {B N H : Hp} {v : V} {x : TabM} {mn : Str} (hm : ∀ b l p s h w m o : V, (tabF b l p s h w m o).lookup mn = none) (h : (stTab K CB CD CT).R B N v x) (e : Ex N H) : ∃ p dx gs, v = .ref p ∧ H p = some (.ins CT dx gs) ∧ gs.lookup mn = none := by
  obtain ⟨p, dx, b, l, ps, s, h, w, m, o, rfl, rfl, _⟩ := h
  exact ⟨p, dx, _, rfl, e _ _ sing_at, hm _ _ _ _ _ _ _ _⟩
/-- both deals are deals -/
def TabD (t : TabM) : Prop := (dealM t.begun.ls.length t.begun.F0 t.begun.F1 = true ∧ needM t.begun.ls = none) ∧ dealM t.lying.ls.length t.lying.F0 t.lying.F1 = true ∧ needM t.lying.ls = none
theorem tab_ok {K : PySem.W.Frag} {CB CD CT : Addr} {B N : Hp} {v : V} {x : TabM} (h : (stTab K CB CD CT).R B N v x) : TabD x ∧ x.past.length ≤ 40000 ∧ x.hands.length ≤ 40000 := by
  obtain ⟨p, dx, b, l, ps, s, h, w, m, o, _, _, f1, f2, f3, _, f5, _⟩ := h
  exact ⟨⟨deal_ok f1, deal_ok f2⟩, len_ofW f3, len_ofW f5⟩
end
section
variable {P : Program} {w : World} {K : PySem.W.Frag} {mg : Str → Option Value} {base : Heap}
theorem ad_Book_manyB {C : Addr} {G : Hp} {vs : List V} {ls : List (List Str)} (ha : ArgsR G vs [⟨tBook K C, ls⟩]) : (R_Book_many K C).R vs G (.ok (is (.int (ls.length : Int)))) := by
  obtain ⟨v, rfl, ⟨b, rfl, h1⟩⟩ := args1 ha
  exact ⟨b, ls, rfl, h1, rfl⟩
theorem ad_Book_verseB {C : Addr} {G : Hp} {vs : List V} {ls : List (List Str)} {i : Int} {r : Res} (ha : ArgsR G vs [⟨tBook K C, ls⟩, ⟨tI, i⟩]) (hr : r = resE (numErr ls.length [i]) (pLine (row1 ls i.toNat))) : (R_Book_verse K C).R vs G r := by
  obtain ⟨v, w, rfl, ⟨b, rfl, h1⟩, rfl⟩ := args2 ha
  refine ⟨b, ls, i, rfl, h1, ?_⟩
  rw [hr]
  unfold verseR numErr
  by_cases h : 0 ≤ i ∧ i < (ls.length : Int)
  · rw [if_pos h, if_pos (okN_mem.mpr fun x hx => by rw [List.mem_singleton.mp hx]; exact h)]
    rfl
  · rw [if_neg h, if_neg (fun z => h (okN_mem.mp z i List.mem_cons_self))]
    rfl
theorem cv_lineB {l : List Str} (h : ∀ s ∈ l, TxtOk s) (hl : l.length ≤ 40000) : ∀ N v, pLine l N v → (tW tX).R N v l := fun N v ⟨p, h1, h2⟩ => ⟨p, _, h1, h2, txts_paired h, hl⟩
theorem row_txtB {ls : List (List Str)} (h : ∀ l ∈ ls, isVer l = true) (i : Nat) : (∀ s ∈ row1 ls i, TxtOk s) ∧ (row1 ls i).length ≤ 40000 := by
  unfold row1
  rw [List.getD_eq_getElem?_getD]
  cases q : ls[i]? with
  | none => exact ⟨fun s hs => (by cases hs), Nat.zero_le _⟩
  | some l =>
    have hv := isVer_iff.mp (h l (List.mem_of_getElem? q))
    exact ⟨fun s hs => syl_ok (hv.2.2 s hs), by show l.length ≤ 40000; omega⟩
end
section
variable {P : Program} {w : World} {K : PySem.W.Frag} {mg : Str → Option Value} {base : Heap}
def undM (t : TabM) : Option Int := t.spoken.map fun p => p.1
def unrM (t : TabM) : List Int := (rngI (t.lying.ls.length : Int)).filter fun v => !decide (v ∈ t.past.map fun r => r.a)
def hrdM (t : TabM) : List Str := match t.spoken with
  | none => []
  | some p => cutI (row1 t.lying.ls p.1.toNat) none (some p.2)
def winM (t : TabM) : Option Int := if t.owed.isNone = true then (if cardsI t.lying 0 = [] then some 0 else if cardsI t.lying 1 = [] then some 1 else none) else none
/-- the verse that is read is one -/
def TabS (t : TabM) : Prop := ∀ p, t.spoken = some p → (0 ≤ p.1 ∧ p.1 < (t.lying.ls.length : Int)) ∧ 0 ≤ p.2 ∧ p.2 ≤ ((row1 t.lying.ls p.1.toNat).length : Int)
theorem getD_some {α : Type} [Inhabited α] {x : Option α} (h : x.isSome = true) : x = some (x.getD default) := by
  cases x with
  | none => cases h
  | some y => rfl
theorem nn_some {α : Type} {x : Option α} (h : x.isNone = false) : x.isSome = true := by
  cases x with
  | none => cases h
  | some y => rfl
theorem none_of {α : Type} {x : Option α} (h : x.isNone = true) : x = none := by
  cases x with
  | none => rfl
  | some y => cases h
theorem cards40 {d : DealM} (h : dealM d.ls.length d.F0 d.F1 = true) (i : Int) : (cardsI d i).length ≤ 40000 := by
  have := cards_len h i
  omega
def goErr (t : TabM) : Option Str := if (winM t).isSome = true then some "Over" else none
def qtErr (t : TabM) : Option Str := if t.spoken.isSome = true then some "Reading" else none
abbrev s_Table_deal : Stmt := inClass (topS 36) 1
theorem sc_Table_deal : FnScope ["self"] ["self"] (defScope s_Table_deal) := ⟨rfl, rfl, rfl, by decide +kernel, rfl, by decide +kernel, by decide +kernel⟩
theorem vc_Table_deal_ret1 (t : TabM) (ho_t : TabD t ∧ t.past.length ≤ 40000 ∧ t.hands.length ≤ 40000) : (t.lying) = (t.lying) := by
  rfl
def R_Table_deal (K : PySem.W.Frag) (C_Book C_Deal C_Table : Addr) : RlX := ⟨fun vs B Ps r => ∃ (t : TabM) (N : Hp) (v : V), ArgsR B vs [⟨tIs v, ()⟩] ∧ Ps = [N] ∧ (stTab K C_Book C_Deal C_Table).R B N v t ∧ r = resX (none) (fun G Ps' w => Ps' = [N] ∧ (tDeal K C_Book C_Deal).R G w (t.lying)) (fun _ Ps' => Ps' = [N])⟩
theorem ok_Table_deal (B : Bt mg) {C_Book C_Deal C_Table : Addr} (T_Table : TTable K mg C_Table) (D : Dm K C_Table "deal" "Table.deal" s_Table_deal ["self"]) : OkM P w K mg base 1 C_Table "deal" ["self"] ((R_Table_deal K C_Book C_Deal C_Table).sp mg) := by
  refine D.ok sc_Table_deal (fun vs H Q E h => ?_) (fun f cdv A outer s H vs Q E hr h => ?_)
  · obtain ⟨B0, Ps, r, _, ⟨t, N0, v0, ha, _⟩, _⟩ := h
    exact ha.len
  · obtain ⟨B0, Ps, r, o00, ⟨t, N0, v0, ha, rfl, hS, rfl⟩, k⟩ := h
    obtain ⟨v0', rfl, f0⟩ := args1 ha
    obtain rfl : v0' = v0 := f0
    have ho_t := tab_ok hS
    obtain ⟨p1, dx2, u3, u4, u5, u6, u7, u8, u9, u10, hv_, hN_, f11, f12, f13, f14, f15, f16, f17, f18⟩ := hS
    subst hv_ hN_
    have o0 : Own (emp :: B0 :: (sing p1 (.ins C_Table dx2 (tabF u3 u4 u5 u6 u7 u8 u9 u10))) :: (rest2 [B0, sing p1 (.ins C_Table dx2 (tabF u3 u4 u5 u6 u7 u8 u9 u10))] H) :: []) H := own_start o00
    refine ⟨_, (pss_one (ps_ret (pe_fldK K (pv 0)))), ?_⟩
    first | show tRet _ _ _ _ | (dsimp only; show tRet _ _ _ _)
    have kX := (resX_ok rfl k)
    refine s_rbX (P := fun G w => (tDeal K C_Book C_Deal).R G w (t.lying)) o00 (Own.front o0 (j := 0) rfl) (List.mem_of_getElem? (i := 0) rfl) (ed_fldO (T := (tDeal K C_Book C_Deal)) (ev_var rfl) (Own.exO o0 (j := 0) rfl _ _ sing_at) T_Table.cl T_Table.n_lying rfl (up (Own.ug o0) f12) (Own.uh o0)) kX (fun G w eG h => ⟨rfl, (by rw [(vc_Table_deal_ret1 t ho_t)]; exact h)⟩)
abbrev s_Table_touches : Stmt := inClass (topS 36) 5
theorem sc_Table_touches : FnScope ["self"] ["self"] (defScope s_Table_touches) := ⟨rfl, rfl, rfl, by decide +kernel, rfl, by decide +kernel, by decide +kernel⟩
theorem vc_Table_touches_ret1 (t : TabM) (ho_t : TabD t ∧ t.past.length ≤ 40000 ∧ t.hands.length ≤ 40000) : (t.hands) = (t.hands) := by
  rfl
def R_Table_touches (K : PySem.W.Frag) (C_Book C_Deal C_Table : Addr) : RlX := ⟨fun vs B Ps r => ∃ (t : TabM) (N : Hp) (v : V), ArgsR B vs [⟨tIs v, ()⟩] ∧ Ps = [N] ∧ (stTab K C_Book C_Deal C_Table).R B N v t ∧ r = resX (none) (fun G Ps' w => Ps' = [N] ∧ (tW (tT3 K tI tI (tT4 K tI tI tI tI))).R G w (t.hands)) (fun _ Ps' => Ps' = [N])⟩
theorem ok_Table_touches (B : Bt mg) {C_Book C_Deal C_Table : Addr} (T_Table : TTable K mg C_Table) (D : Dm K C_Table "touches" "Table.touches" s_Table_touches ["self"]) : OkM P w K mg base 1 C_Table "touches" ["self"] ((R_Table_touches K C_Book C_Deal C_Table).sp mg) := by
  refine D.ok sc_Table_touches (fun vs H Q E h => ?_) (fun f cdv A outer s H vs Q E hr h => ?_)
  · obtain ⟨B0, Ps, r, _, ⟨t, N0, v0, ha, _⟩, _⟩ := h
    exact ha.len
  · obtain ⟨B0, Ps, r, o00, ⟨t, N0, v0, ha, rfl, hS, rfl⟩, k⟩ := h
    obtain ⟨v0', rfl, f0⟩ := args1 ha
    obtain rfl : v0' = v0 := f0
    have ho_t := tab_ok hS
    obtain ⟨p1, dx2, u3, u4, u5, u6, u7, u8, u9, u10, hv_, hN_, f11, f12, f13, f14, f15, f16, f17, f18⟩ := hS
    subst hv_ hN_
    have o0 : Own (emp :: B0 :: (sing p1 (.ins C_Table dx2 (tabF u3 u4 u5 u6 u7 u8 u9 u10))) :: (rest2 [B0, sing p1 (.ins C_Table dx2 (tabF u3 u4 u5 u6 u7 u8 u9 u10))] H) :: []) H := own_start o00
    refine ⟨_, (pss_one (ps_ret (pe_callTy (call_listK K) (by rfl) B.list boot_ty_list (pa_cons (pe_fldK K (pv 0)) pa_nil)))), ?_⟩
    first | show tRet _ _ _ _ | (dsimp only; show tRet _ _ _ _)
    have kX := (resX_ok rfl k)
    refine s_rbX (P := fun G w => (tW (tT3 K tI tI (tT4 K tI tI tI tI))).R G w (t.hands)) o00 (Own.front o0 (j := 0) rfl) (List.mem_of_getElem? (i := 0) rfl) (ed_list (ed_to (T := (tW (tT3 K tI tI (tT4 K tI tI tI tI)))) (S := (tL K (tT3 K tI tI (tT4 K tI tI tI tI)))) (ed_fldO (T := (tW (tT3 K tI tI (tT4 K tI tI tI tI)))) (ev_var rfl) (Own.exO o0 (j := 0) rfl _ _ sing_at) T_Table.cl T_Table.n_hands rfl (up (Own.ug o0) f15) (Own.uh o0))) (Own.uh o0)) kX (fun G w eG h => ⟨rfl, (by rw [(vc_Table_touches_ret1 t ho_t)]; exact h)⟩)
abbrev s_Table_readings : Stmt := inClass (topS 36) 6
theorem sc_Table_readings : FnScope ["self"] ["self"] (defScope s_Table_readings) := ⟨rfl, rfl, rfl, by decide +kernel, rfl, by decide +kernel, by decide +kernel⟩
theorem vc_Table_readings_ret1 (t : TabM) (ho_t : TabD t ∧ t.past.length ≤ 40000 ∧ t.hands.length ≤ 40000) : (t.past) = (t.past) := by
  rfl
def R_Table_readings (K : PySem.W.Frag) (C_Book C_Deal C_Table : Addr) : RlX := ⟨fun vs B Ps r => ∃ (t : TabM) (N : Hp) (v : V), ArgsR B vs [⟨tIs v, ()⟩] ∧ Ps = [N] ∧ (stTab K C_Book C_Deal C_Table).R B N v t ∧ r = resX (none) (fun G Ps' w => Ps' = [N] ∧ (tW (tT4 K tI (tO tI) tB tB)).R G w (t.past)) (fun _ Ps' => Ps' = [N])⟩
theorem ok_Table_readings (B : Bt mg) {C_Book C_Deal C_Table : Addr} (T_Table : TTable K mg C_Table) (D : Dm K C_Table "readings" "Table.readings" s_Table_readings ["self"]) : OkM P w K mg base 1 C_Table "readings" ["self"] ((R_Table_readings K C_Book C_Deal C_Table).sp mg) := by
  refine D.ok sc_Table_readings (fun vs H Q E h => ?_) (fun f cdv A outer s H vs Q E hr h => ?_)
  · obtain ⟨B0, Ps, r, _, ⟨t, N0, v0, ha, _⟩, _⟩ := h
    exact ha.len
  · obtain ⟨B0, Ps, r, o00, ⟨t, N0, v0, ha, rfl, hS, rfl⟩, k⟩ := h
    obtain ⟨v0', rfl, f0⟩ := args1 ha
    obtain rfl : v0' = v0 := f0
    have ho_t := tab_ok hS
    obtain ⟨p1, dx2, u3, u4, u5, u6, u7, u8, u9, u10, hv_, hN_, f11, f12, f13, f14, f15, f16, f17, f18⟩ := hS
    subst hv_ hN_
    have o0 : Own (emp :: B0 :: (sing p1 (.ins C_Table dx2 (tabF u3 u4 u5 u6 u7 u8 u9 u10))) :: (rest2 [B0, sing p1 (.ins C_Table dx2 (tabF u3 u4 u5 u6 u7 u8 u9 u10))] H) :: []) H := own_start o00
    refine ⟨_, (pss_one (ps_ret (pe_callTy (call_listK K) (by rfl) B.list boot_ty_list (pa_cons (pe_fldK K (pv 0)) pa_nil)))), ?_⟩
    first | show tRet _ _ _ _ | (dsimp only; show tRet _ _ _ _)
    have kX := (resX_ok rfl k)
    refine s_rbX (P := fun G w => (tW (tT4 K tI (tO tI) tB tB)).R G w (t.past)) o00 (Own.front o0 (j := 0) rfl) (List.mem_of_getElem? (i := 0) rfl) (ed_list (ed_to (T := (tW (tT4 K tI (tO tI) tB tB))) (S := (tL K (tT4 K tI (tO tI) tB tB))) (ed_fldO (T := (tW (tT4 K tI (tO tI) tB tB))) (ev_var rfl) (Own.exO o0 (j := 0) rfl _ _ sing_at) T_Table.cl T_Table.n_past rfl (up (Own.ug o0) f13) (Own.uh o0))) (Own.uh o0)) kX (fun G w eG h => ⟨rfl, (by rw [(vc_Table_readings_ret1 t ho_t)]; exact h)⟩)
abbrev s_Table_score : Stmt := inClass (topS 36) 7
theorem sc_Table_score : FnScope ["self"] ["self"] (defScope s_Table_score) := ⟨rfl, rfl, rfl, by decide +kernel, rfl, by decide +kernel, by decide +kernel⟩
theorem vc_Table_score_ret1 (t : TabM) (ho_t : TabD t ∧ t.past.length ≤ 40000 ∧ t.hands.length ≤ 40000) : (t.won) = (t.won) := by
  rfl
def R_Table_score (K : PySem.W.Frag) (C_Book C_Deal C_Table : Addr) : RlX := ⟨fun vs B Ps r => ∃ (t : TabM) (N : Hp) (v : V), ArgsR B vs [⟨tIs v, ()⟩] ∧ Ps = [N] ∧ (stTab K C_Book C_Deal C_Table).R B N v t ∧ r = resX (none) (fun G Ps' w => Ps' = [N] ∧ (tP K tI tI).R G w (t.won)) (fun _ Ps' => Ps' = [N])⟩
theorem ok_Table_score (B : Bt mg) {C_Book C_Deal C_Table : Addr} (T_Table : TTable K mg C_Table) (D : Dm K C_Table "score" "Table.score" s_Table_score ["self"]) : OkM P w K mg base 1 C_Table "score" ["self"] ((R_Table_score K C_Book C_Deal C_Table).sp mg) := by
  refine D.ok sc_Table_score (fun vs H Q E h => ?_) (fun f cdv A outer s H vs Q E hr h => ?_)
  · obtain ⟨B0, Ps, r, _, ⟨t, N0, v0, ha, _⟩, _⟩ := h
    exact ha.len
  · obtain ⟨B0, Ps, r, o00, ⟨t, N0, v0, ha, rfl, hS, rfl⟩, k⟩ := h
    obtain ⟨v0', rfl, f0⟩ := args1 ha
    obtain rfl : v0' = v0 := f0
    have ho_t := tab_ok hS
    obtain ⟨p1, dx2, u3, u4, u5, u6, u7, u8, u9, u10, hv_, hN_, f11, f12, f13, f14, f15, f16, f17, f18⟩ := hS
    subst hv_ hN_
    have o0 : Own (emp :: B0 :: (sing p1 (.ins C_Table dx2 (tabF u3 u4 u5 u6 u7 u8 u9 u10))) :: (rest2 [B0, sing p1 (.ins C_Table dx2 (tabF u3 u4 u5 u6 u7 u8 u9 u10))] H) :: []) H := own_start o00
    refine ⟨_, (pss_one (ps_ret (pe_fldK K (pv 0)))), ?_⟩
    first | show tRet _ _ _ _ | (dsimp only; show tRet _ _ _ _)
    have kX := (resX_ok rfl k)
    refine s_rbX (P := fun G w => (tP K tI tI).R G w (t.won)) o00 (Own.front o0 (j := 0) rfl) (List.mem_of_getElem? (i := 0) rfl) (ed_fldO (T := (tP K tI tI)) (ev_var rfl) (Own.exO o0 (j := 0) rfl _ _ sing_at) T_Table.cl T_Table.n_won rfl (up (Own.ug o0) f16) (Own.uh o0)) kX (fun G w eG h => ⟨rfl, (by rw [(vc_Table_score_ret1 t ho_t)]; exact h)⟩)
abbrev s_Table_faults : Stmt := inClass (topS 36) 8
theorem sc_Table_faults : FnScope ["self"] ["self"] (defScope s_Table_faults) := ⟨rfl, rfl, rfl, by decide +kernel, rfl, by decide +kernel, by decide +kernel⟩
theorem vc_Table_faults_ret1 (t : TabM) (ho_t : TabD t ∧ t.past.length ≤ 40000 ∧ t.hands.length ≤ 40000) : (t.missed) = (t.missed) := by
  rfl
def R_Table_faults (K : PySem.W.Frag) (C_Book C_Deal C_Table : Addr) : RlX := ⟨fun vs B Ps r => ∃ (t : TabM) (N : Hp) (v : V), ArgsR B vs [⟨tIs v, ()⟩] ∧ Ps = [N] ∧ (stTab K C_Book C_Deal C_Table).R B N v t ∧ r = resX (none) (fun G Ps' w => Ps' = [N] ∧ (tP K tI tI).R G w (t.missed)) (fun _ Ps' => Ps' = [N])⟩
theorem ok_Table_faults (B : Bt mg) {C_Book C_Deal C_Table : Addr} (T_Table : TTable K mg C_Table) (D : Dm K C_Table "faults" "Table.faults" s_Table_faults ["self"]) : OkM P w K mg base 1 C_Table "faults" ["self"] ((R_Table_faults K C_Book C_Deal C_Table).sp mg) := by
  refine D.ok sc_Table_faults (fun vs H Q E h => ?_) (fun f cdv A outer s H vs Q E hr h => ?_)
  · obtain ⟨B0, Ps, r, _, ⟨t, N0, v0, ha, _⟩, _⟩ := h
    exact ha.len
  · obtain ⟨B0, Ps, r, o00, ⟨t, N0, v0, ha, rfl, hS, rfl⟩, k⟩ := h
    obtain ⟨v0', rfl, f0⟩ := args1 ha
    obtain rfl : v0' = v0 := f0
    have ho_t := tab_ok hS
    obtain ⟨p1, dx2, u3, u4, u5, u6, u7, u8, u9, u10, hv_, hN_, f11, f12, f13, f14, f15, f16, f17, f18⟩ := hS
    subst hv_ hN_
    have o0 : Own (emp :: B0 :: (sing p1 (.ins C_Table dx2 (tabF u3 u4 u5 u6 u7 u8 u9 u10))) :: (rest2 [B0, sing p1 (.ins C_Table dx2 (tabF u3 u4 u5 u6 u7 u8 u9 u10))] H) :: []) H := own_start o00
    refine ⟨_, (pss_one (ps_ret (pe_fldK K (pv 0)))), ?_⟩
    first | show tRet _ _ _ _ | (dsimp only; show tRet _ _ _ _)
    have kX := (resX_ok rfl k)
    refine s_rbX (P := fun G w => (tP K tI tI).R G w (t.missed)) o00 (Own.front o0 (j := 0) rfl) (List.mem_of_getElem? (i := 0) rfl) (ed_fldO (T := (tP K tI tI)) (ev_var rfl) (Own.exO o0 (j := 0) rfl _ _ sing_at) T_Table.cl T_Table.n_missed rfl (up (Own.ug o0) f17) (Own.uh o0)) kX (fun G w eG h => ⟨rfl, (by rw [(vc_Table_faults_ret1 t ho_t)]; exact h)⟩)
abbrev s_Table_due : Stmt := inClass (topS 36) 9
theorem sc_Table_due : FnScope ["self"] ["self"] (defScope s_Table_due) := ⟨rfl, rfl, rfl, by decide +kernel, rfl, by decide +kernel, by decide +kernel⟩
theorem vc_Table_due_ret1 (t : TabM) (ho_t : TabD t ∧ t.past.length ≤ 40000 ∧ t.hands.length ≤ 40000) : (t.owed) = (t.owed) := by
  rfl
def R_Table_due (K : PySem.W.Frag) (C_Book C_Deal C_Table : Addr) : RlX := ⟨fun vs B Ps r => ∃ (t : TabM) (N : Hp) (v : V), ArgsR B vs [⟨tIs v, ()⟩] ∧ Ps = [N] ∧ (stTab K C_Book C_Deal C_Table).R B N v t ∧ r = resX (none) (fun G Ps' w => Ps' = [N] ∧ (tO (tP K tI tI)).R G w (t.owed)) (fun _ Ps' => Ps' = [N])⟩
theorem ok_Table_due (B : Bt mg) {C_Book C_Deal C_Table : Addr} (T_Table : TTable K mg C_Table) (D : Dm K C_Table "due" "Table.due" s_Table_due ["self"]) : OkM P w K mg base 1 C_Table "due" ["self"] ((R_Table_due K C_Book C_Deal C_Table).sp mg) := by
  refine D.ok sc_Table_due (fun vs H Q E h => ?_) (fun f cdv A outer s H vs Q E hr h => ?_)
  · obtain ⟨B0, Ps, r, _, ⟨t, N0, v0, ha, _⟩, _⟩ := h
    exact ha.len
  · obtain ⟨B0, Ps, r, o00, ⟨t, N0, v0, ha, rfl, hS, rfl⟩, k⟩ := h
    obtain ⟨v0', rfl, f0⟩ := args1 ha
    obtain rfl : v0' = v0 := f0
    have ho_t := tab_ok hS
    obtain ⟨p1, dx2, u3, u4, u5, u6, u7, u8, u9, u10, hv_, hN_, f11, f12, f13, f14, f15, f16, f17, f18⟩ := hS
    subst hv_ hN_
    have o0 : Own (emp :: B0 :: (sing p1 (.ins C_Table dx2 (tabF u3 u4 u5 u6 u7 u8 u9 u10))) :: (rest2 [B0, sing p1 (.ins C_Table dx2 (tabF u3 u4 u5 u6 u7 u8 u9 u10))] H) :: []) H := own_start o00
    refine ⟨_, (pss_one (ps_ret (pe_fldK K (pv 0)))), ?_⟩
    first | show tRet _ _ _ _ | (dsimp only; show tRet _ _ _ _)
    have kX := (resX_ok rfl k)
    refine s_rbX (P := fun G w => (tO (tP K tI tI)).R G w (t.owed)) o00 (Own.front o0 (j := 0) rfl) (List.mem_of_getElem? (i := 0) rfl) (ed_fldO (T := (tO (tP K tI tI))) (ev_var rfl) (Own.exO o0 (j := 0) rfl _ _ sing_at) T_Table.cl T_Table.n_owed rfl (up (Own.ug o0) f18) (Own.uh o0)) kX (fun G w eG h => ⟨rfl, (by rw [(vc_Table_due_ret1 t ho_t)]; exact h)⟩)
abbrev s_Table_under : Stmt := inClass (topS 36) 3
theorem sc_Table_under : FnScope ["self"] ["self"] (defScope s_Table_under) := ⟨rfl, rfl, rfl, by decide +kernel, rfl, by decide +kernel, by decide +kernel⟩
theorem vc_Table_under_ret1 (t : TabM) (ho_t : TabD t ∧ t.past.length ≤ 40000 ∧ t.hands.length ≤ 40000) (c1 : t.spoken.isNone = true) : (undM t) = (none) := by
  unfold undM
  rw [none_of c1]
  rfl
theorem vc_Table_under_some1 (t : TabM) (ho_t : TabD t ∧ t.past.length ≤ 40000 ∧ t.hands.length ≤ 40000) (c1 : t.spoken.isNone = false) : (t.spoken).isSome = true := by
  exact nn_some c1
theorem vc_Table_under_ret2 (t : TabM) (ho_t : TabD t ∧ t.past.length ≤ 40000 ∧ t.hands.length ≤ 40000) (c1 : t.spoken.isNone = false) : (undM t) = (some (((t.spoken).getD default).1)) := by
  have e := getD_some (nn_some c1)
  unfold undM
  rw [e]
  rfl
def R_Table_under (K : PySem.W.Frag) (C_Book C_Deal C_Table : Addr) : RlX := ⟨fun vs B Ps r => ∃ (t : TabM) (N : Hp) (v : V), ArgsR B vs [⟨tIs v, ()⟩] ∧ Ps = [N] ∧ (stTab K C_Book C_Deal C_Table).R B N v t ∧ r = resX (none) (fun G Ps' w => Ps' = [N] ∧ (tO tI).R G w (undM t)) (fun _ Ps' => Ps' = [N])⟩
theorem ok_Table_under (B : Bt mg) {C_Book C_Deal C_Table : Addr} (T_Table : TTable K mg C_Table) (D : Dm K C_Table "under" "Table.under" s_Table_under ["self"]) : OkM P w K mg base 1 C_Table "under" ["self"] ((R_Table_under K C_Book C_Deal C_Table).sp mg) := by
  refine D.ok sc_Table_under (fun vs H Q E h => ?_) (fun f cdv A outer s H vs Q E hr h => ?_)
  · obtain ⟨B0, Ps, r, _, ⟨t, N0, v0, ha, _⟩, _⟩ := h
    exact ha.len
  · obtain ⟨B0, Ps, r, o00, ⟨t, N0, v0, ha, rfl, hS, rfl⟩, k⟩ := h
    obtain ⟨v0', rfl, f0⟩ := args1 ha
    obtain rfl : v0' = v0 := f0
    have ho_t := tab_ok hS
    obtain ⟨p1, dx2, u3, u4, u5, u6, u7, u8, u9, u10, hv_, hN_, f11, f12, f13, f14, f15, f16, f17, f18⟩ := hS
    subst hv_ hN_
    have o0 : Own (emp :: B0 :: (sing p1 (.ins C_Table dx2 (tabF u3 u4 u5 u6 u7 u8 u9 u10))) :: (rest2 [B0, sing p1 (.ins C_Table dx2 (tabF u3 u4 u5 u6 u7 u8 u9 u10))] H) :: []) H := own_start o00
    refine ⟨_, (pss_cons (ps_if (pt_cmpR op_isN (pe_fldK K (pv 0)) pe_non (nomark _))
        (pss_one (ps_ret pe_non))
        pss_nil)
      (pss_one (ps_ret (pe_ix (ix_seqK K) (pe_fldK K (pv 0)) pe_int (fun _ _ => rfl))))), ?_⟩
    refine q_wh o0 (et_test (ev_isnB (B := (uni B0 emp)) (ed_fldO (T := (tO (tP K tI tI))) (ev_var rfl) (Own.exO o0 (j := 0) rfl _ _ sing_at) T_Table.cl T_Table.n_spoken rfl (up (Own.ug o0) f14) (Own.uh o0)))) (fun c1 H19 o20 => ?_) (fun c1 H19 o20 => ?_)
    · skip
      first | show tRet _ _ _ _ | (dsimp only; show tRet _ _ _ _)
      have kX := (resX_ok rfl k)
      refine s_rbX (P := fun G w => (tO tI).R G w (none)) o00 (Own.front o20 (j := 0) rfl) (List.mem_of_getElem? (i := 0) rfl) (ed_n (T := tI) ev_c) kX (fun G w eG h => ⟨rfl, (by rw [(vc_Table_under_ret1 t ho_t c1)]; exact h)⟩)
    · skip
      first | show tRet _ _ _ _ | (dsimp only; show tRet _ _ _ _)
      exact s_rvX o00 (Own.front o20 (j := 0) rfl) (List.mem_of_getElem? (i := 0) rfl) (ev_i (ed_2a (ed_get (vc_Table_under_some1 t ho_t c1) (ed_fldO (T := (tO (tP K tI tI))) (ev_var rfl) (Own.exO o20 (j := 0) rfl _ _ sing_at) T_Table.cl T_Table.n_spoken rfl (up (Own.ug o0) f14) (Own.uh o20))) (Own.uh o20))) (resX_ok rfl k) ⟨rfl, (by rw [(vc_Table_under_ret2 t ho_t c1)]; exact ⟨rfl, NN.nn (T := tI) (H := emp) rfl⟩)⟩
abbrev s_Table_unread : Stmt := inClass (topS 36) 2
theorem sc_Table_unread : FnScope ["self", "closed", "reading", "verse"] ["self"] (defScope s_Table_unread) := ⟨rfl, rfl, rfl, by decide +kernel, rfl, by decide +kernel, by decide +kernel⟩
theorem vc_Table_unread_rng1 (t : TabM) (ho_t : TabD t ∧ t.past.length ≤ 40000 ∧ t.hands.length ≤ 40000) : -1000000 ≤ (t.lying.ls.length : Int) ∧ (t.lying.ls.length : Int) ≤ 40000 := by
  have hd := ho_t.1.2.1
  have hn := ho_t.1.2.2
  have h40 := needM_len hn
  omega
theorem vc_Table_unread_ret1 (t : TabM) (ho_t : TabD t ∧ t.past.length ≤ 40000 ∧ t.hands.length ≤ 40000) : (unrM t) = (((rngI ((t.lying.ls.length : Int))).filter fun e2 => !decide (e2 ∈ ((t.past).map fun e1 => e1.a))).map fun e2 => e2) := by
  unfold unrM
  rw [List.map_id'' (fun _ => rfl)]
def R_Table_unread (K : PySem.W.Frag) (C_Book C_Deal C_Table : Addr) : RlX := ⟨fun vs B Ps r => ∃ (t : TabM) (N : Hp) (v : V), ArgsR B vs [⟨tIs v, ()⟩] ∧ Ps = [N] ∧ (stTab K C_Book C_Deal C_Table).R B N v t ∧ r = resX (none) (fun G Ps' w => Ps' = [N] ∧ (tW tI).R G w (unrM t)) (fun _ Ps' => Ps' = [N])⟩
theorem ok_Table_unread (B : Bt mg) {C_Book C_Deal C_Table : Addr} (T_Table : TTable K mg C_Table) (O_Book_many : OkM P w K mg base 1 C_Book "many" ["self"] ((R_Book_many K C_Book).sp mg)) (O_Deal_book : OkM P w K mg base 1 C_Deal "book" ["self"] ((R_Deal_book K C_Deal).sp mg)) (D : Dm K C_Table "unread" "Table.unread" s_Table_unread ["self"]) : OkM P w K mg base 2 C_Table "unread" ["self"] ((R_Table_unread K C_Book C_Deal C_Table).sp mg) := by
  refine D.ok sc_Table_unread (fun vs H Q E h => ?_) (fun f cdv A outer s H vs Q E hr h => ?_)
  · obtain ⟨B0, Ps, r, _, ⟨t, N0, v0, ha, _⟩, _⟩ := h
    exact ha.len
  · obtain ⟨B0, Ps, r, o00, ⟨t, N0, v0, ha, rfl, hS, rfl⟩, k⟩ := h
    obtain ⟨v0', rfl, f0⟩ := args1 ha
    obtain rfl : v0' = v0 := f0
    have ho_t := tab_ok hS
    obtain ⟨p1, dx2, u3, u4, u5, u6, u7, u8, u9, u10, hv_, hN_, f11, f12, f13, f14, f15, f16, f17, f18⟩ := hS
    subst hv_ hN_
    have o0 : Own (emp :: B0 :: (sing p1 (.ins C_Table dx2 (tabF u3 u4 u5 u6 u7 u8 u9 u10))) :: (rest2 [B0, sing p1 (.ins C_Table dx2 (tabF u3 u4 u5 u6 u7 u8 u9 u10))] H) :: []) H := own_start o00
    refine ⟨_, (pss_cons (ps_set (i := 1) sc_Table_unread.nd rfl (.inr rfl) (pe_lc (own := [("reading", 2)]) rfl sc_Table_unread.nd (pi_listK K (pe_fldK K (pv 0))) (blkOk_by (N := ["self", "closed", "reading", "verse"]) (sc := defScope s_Table_unread) (by decide +kernel)) (fun _ _ _ _ _ => (pg_name (i := 2) sc_Table_unread.nd rfl (.inl rfl))) (fun _ _ _ _ _ => pts_nil) (fun _ _ _ _ _ => (pe_ix (ix_seqK K) (pv 2) pe_int (fun _ _ => rfl)))))
      (pss_one (ps_ret (pe_lc (own := [("verse", 3)]) rfl sc_Table_unread.nd (pi_range1 (by rfl) B.range (pa_cons (pe_methO0 O_Book_many (pe_methO0 O_Deal_book (pe_fldK K (pv 0)) (hr.mono (by omega)) (takes_of rfl rfl rfl rfl)) (hr.mono (by omega)) (takes_of rfl rfl rfl rfl)) pa_nil)) (blkOk_by (N := ["self", "closed", "reading", "verse"]) (sc := defScope s_Table_unread) (by decide +kernel)) (fun _ _ _ _ _ => (pg_name (i := 3) sc_Table_unread.nd rfl (.inl rfl))) (fun _ _ _ _ _ => pts_one (pt_cmpR (op_notinK K (hu65 hr)) (pv 3) (pv 1) (by rfl))) (fun _ _ _ _ _ => (pv 3)))))), ?_⟩
    refine q_b (i := 1) o0 (ed_of_n (Own.e0 o0) (en_flt (en_lcA (S := tI) (Z := fun B y σ σ2 => ∃ z19, σ2 = (σ.set 2 (some z19)) ∧ (tT4 K tI (tO tI) tB tB).R B z19 y) (dr_list (T := (tT4 K tI (tO tI) tB tB)) (ed_to (T := (tW (tT4 K tI (tO tI) tB tB))) (S := (tL K (tT4 K tI (tO tI) tB tB))) (ed_toB (Own.uh o0) (ed_fldO (T := (tW (tT4 K tI (tO tI) tB tB))) (ev_var rfl) (Own.exO o0 (j := 0) rfl _ _ sing_at) T_Table.cl T_Table.n_past rfl (up (Own.ug o0) f13) (Own.uh o0)))) (Ex.refl _) (fun G x y H' e hx σ' Q q => by exact q _ ⟨x, rfl, hx⟩)) (Ex.refl _) (fun e1 : (T4 Int (Option Int) Bool Bool) => e1.a) (fun _ _ _ ⟨z19, h0, fz19⟩ => by subst h0; rfl) (fun G20 e1 σ2 H20 eb20 eg20 eh20 hm1 hz20 => by obtain ⟨z19, rfl, fz19⟩ := hz20; exact (ed_i (ev_i (ed_4a (ed_of (T := (tT4 K tI (tO tI) tB tB)) (up eg20 fz19) rfl) (Ex.refl _))))) (fun _ _ _ _ e ⟨z19, h0, fz19⟩ => ⟨z19, h0, up e fz19⟩)))) fun v22 M23 H24 eM25 o26 f27 => ?_
    first | show tRet _ _ _ _ | (dsimp only; show tRet _ _ _ _)
    have kX := (resX_ok rfl k)
    refine s_rbX (P := fun G w => (tW tI).R G w (((rngI ((t.lying.ls.length : Int))).filter fun e2 => !decide (e2 ∈ ((t.past).map fun e1 => e1.a))).map fun e2 => e2)) o00 (Own.front o26 (j := 0) rfl) (List.mem_of_getElem? (i := 0) rfl) (ed_of_n (Own.uh o26) (en_flt (en_lc (S := tI) (Z := fun B y σ σ2 => ∃ v, σ2 = σ.set 3 (some v) ∧ tI.R B v y) (dr_rng (n := (t.lying.ls.length : Int)) (ev_p (v := (.int ((t.lying.ls.length : Int)))) (ep_imp (ep_methB (S := (R_Book_many K C_Book)) (Ex.refl _) (ed_methU (S := (R_Deal_book K C_Deal)) (Ex.refl _) (ed_toB (Own.uh o26) (ed_fldO (T := (tDeal K C_Book C_Deal)) (ev_var rfl) (Own.exO o26 (j := 0) rfl _ _ sing_at) T_Table.cl T_Table.n_lying rfl (up (Own.uu o26 eM25) (up (Own.ug o0) f12)) (Own.uh o26))) (fun h => deal_ins ⟨by decide, by decide, by decide⟩ h) ebs_nil (fun vs G ha => ad_Deal_book ha)) (fun h => book_ins (by decide) h) ebs_nil (fun vs G ha => ad_Book_manyB ha)) (fun _ _ h => h))) (vc_Table_unread_rng1 t ho_t) fun _ y _ _ _ q => q _ ⟨_, rfl, rfl⟩) (Ex.refl _) (fun e2 : Int => !decide (e2 ∈ ((t.past).map fun e1 => e1.a))) (fun e2 : Int => e2) (fun _ _ _ ⟨v, h0, fv⟩ => by subst h0; rfl) (fun G28 e2 σ2 H28 eb28 eg28 eh28 hm2 hz28 => by obtain ⟨v, rfl, fv⟩ := hz28; obtain rfl : v = (.int (e2)) := fv; exact (et_test (ev_niB (T := tI) (ed_i (ev_var rfl)) (ed_to (T := (tW tI)) (S := (tL K tI)) (ed_of (T := (tW tI)) (up eh28 (up (Own.e0 o26) f27)) rfl)) (Ex.refl _)))) (fun G28 e2 σ2 H28 eb28 eg28 eh28 hm2 hf2 hz28 => by obtain ⟨v, rfl, fv⟩ := hz28; obtain rfl : v = (.int (e2)) := fv; exact (ed_i (ev_var rfl))) (fun _ _ _ _ e ⟨v, h0, fv⟩ => ⟨v, h0, up e fv⟩)))) kX (fun G w eG h => ⟨rfl, (by rw [(vc_Table_unread_ret1 t ho_t)]; exact h)⟩)
abbrev s_Table_heard : Stmt := inClass (topS 36) 4
theorem sc_Table_heard : FnScope ["self"] ["self"] (defScope s_Table_heard) := ⟨rfl, rfl, rfl, by decide +kernel, rfl, by decide +kernel, by decide +kernel⟩
theorem vc_Table_heard_ret1 (t : TabM) (hp1 : TabS t) (ho_t : TabD t ∧ t.past.length ≤ 40000 ∧ t.hands.length ≤ 40000) (c1 : t.spoken.isNone = true) : (hrdM t) = (([] : List Str)) := by
  unfold hrdM
  rw [none_of c1]
theorem vc_Table_heard_some1 (t : TabM) (hp1 : TabS t) (ho_t : TabD t ∧ t.past.length ≤ 40000 ∧ t.hands.length ≤ 40000) (c1 : t.spoken.isNone = false) : (t.spoken).isSome = true := by
  exact nn_some c1
theorem vc_Table_heard_pre_Book_verse1 (t : TabM) (hp1 : TabS t) (ho_t : TabD t ∧ t.past.length ≤ 40000 ∧ t.hands.length ≤ 40000) (c1 : t.spoken.isNone = false) : ∀ l ∈ t.lying.ls, isVer l = true := by
  have hd := ho_t.1.2.1
  have hn := ho_t.1.2.2
  have h40 := needM_len hn
  exact needM_ver hn
theorem vc_Table_heard_safe1 (t : TabM) (hp1 : TabS t) (ho_t : TabD t ∧ t.past.length ≤ 40000 ∧ t.hands.length ≤ 40000) (c1 : t.spoken.isNone = false) : numErr t.lying.ls.length [((t.spoken).getD default).1] = none := by
  have hd := ho_t.1.2.1
  have hn := ho_t.1.2.2
  have h40 := needM_len hn
  have e := getD_some (nn_some c1)
  have hs := hp1 _ e
  exact okN_err (okN_mem.mpr fun x hx => by rw [List.mem_singleton.mp hx]; exact hs.1)
theorem vc_Table_heard_some2 (t : TabM) (hp1 : TabS t) (ho_t : TabD t ∧ t.past.length ≤ 40000 ∧ t.hands.length ≤ 40000) (c1 : t.spoken.isNone = false) : (t.spoken).isSome = true := by
  exact nn_some c1
theorem vc_Table_heard_ret2 (t : TabM) (hp1 : TabS t) (ho_t : TabD t ∧ t.past.length ≤ 40000 ∧ t.hands.length ≤ 40000) (c1 : t.spoken.isNone = false) : (hrdM t) = (cutI (row1 t.lying.ls (((t.spoken).getD default).1).toNat) none (some (((t.spoken).getD default).2))) := by
  have e := getD_some (nn_some c1)
  unfold hrdM
  rw [e]
  rfl
def R_Table_heard (K : PySem.W.Frag) (C_Book C_Deal C_Table : Addr) : RlX := ⟨fun vs B Ps r => ∃ (t : TabM) (N : Hp) (v : V), ArgsR B vs [⟨tIs v, ()⟩] ∧ Ps = [N] ∧ (stTab K C_Book C_Deal C_Table).R B N v t ∧ (TabS t) ∧ r = resX (none) (fun G Ps' w => Ps' = [N] ∧ (tW tX).R G w (hrdM t)) (fun _ Ps' => Ps' = [N])⟩
theorem ok_Table_heard (B : Bt mg) {C_Book C_Deal C_Table : Addr} (T_Table : TTable K mg C_Table) (O_Book_verse : OkM P w K mg base 1 C_Book "verse" ["self", "number"] ((R_Book_verse K C_Book).sp mg)) (O_Deal_book : OkM P w K mg base 1 C_Deal "book" ["self"] ((R_Deal_book K C_Deal).sp mg)) (D : Dm K C_Table "heard" "Table.heard" s_Table_heard ["self"]) : OkM P w K mg base 2 C_Table "heard" ["self"] ((R_Table_heard K C_Book C_Deal C_Table).sp mg) := by
  refine D.ok sc_Table_heard (fun vs H Q E h => ?_) (fun f cdv A outer s H vs Q E hr h => ?_)
  · obtain ⟨B0, Ps, r, _, ⟨t, N0, v0, ha, _⟩, _⟩ := h
    exact ha.len
  · obtain ⟨B0, Ps, r, o00, ⟨t, N0, v0, ha, rfl, hS, hp1, rfl⟩, k⟩ := h
    obtain ⟨v0', rfl, f0⟩ := args1 ha
    obtain rfl : v0' = v0 := f0
    have ho_t := tab_ok hS
    obtain ⟨p1, dx2, u3, u4, u5, u6, u7, u8, u9, u10, hv_, hN_, f11, f12, f13, f14, f15, f16, f17, f18⟩ := hS
    subst hv_ hN_
    have o0 : Own (emp :: B0 :: (sing p1 (.ins C_Table dx2 (tabF u3 u4 u5 u6 u7 u8 u9 u10))) :: (rest2 [B0, sing p1 (.ins C_Table dx2 (tabF u3 u4 u5 u6 u7 u8 u9 u10))] H) :: []) H := own_start o00
    refine ⟨_, (pss_cons (ps_if (pt_cmpR op_isN (pe_fldK K (pv 0)) pe_non (nomark _))
        (pss_one (ps_ret (pe_lst pa_nil)))
        pss_nil)
      (pss_one (ps_ret (pe_slice (sl_K K) (pe_methO O_Book_verse (pe_methO0 O_Deal_book (pe_fldK K (pv 0)) (hr.mono (by omega)) (takes_of rfl rfl rfl rfl)) (hr.mono (by omega)) (takes_of rfl rfl rfl rfl) (pa_cons (pe_ix (ix_seqK K) (pe_fldK K (pv 0)) pe_int (fun _ _ => rfl)) pa_nil)) po_none (po_some (pe_ix (ix_seqK K) (pe_fldK K (pv 0)) pe_int (fun _ _ => rfl))))))), ?_⟩
    refine q_wh o0 (et_test (ev_isnB (B := (uni B0 emp)) (ed_fldO (T := (tO (tP K tI tI))) (ev_var rfl) (Own.exO o0 (j := 0) rfl _ _ sing_at) T_Table.cl T_Table.n_spoken rfl (up (Own.ug o0) f14) (Own.uh o0)))) (fun c1 H19 o20 => ?_) (fun c1 H19 o20 => ?_)
    · skip
      first | show tRet _ _ _ _ | (dsimp only; show tRet _ _ _ _)
      have kX := (resX_ok rfl k)
      refine s_rbX (P := fun G w => (tW tX).R G w (([] : List Str))) o00 (Own.front o20 (j := 0) rfl) (List.mem_of_getElem? (i := 0) rfl) (ed_lst (T := tX) (l := ([] : List Str)) (Own.uh o20) ebs_nil (Nat.le_of_ble_eq_true rfl)) kX (fun G w eG h => ⟨rfl, (by rw [(vc_Table_heard_ret1 t hp1 ho_t c1)]; exact h)⟩)
    · skip
      first | show tRet _ _ _ _ | (dsimp only; show tRet _ _ _ _)
      have kX := (resX_ok rfl k)
      refine s_rbX (P := fun G w => (tW tX).R G w (cutI (row1 t.lying.ls (((t.spoken).getD default).1).toNat) none (some (((t.spoken).getD default).2)))) o00 (Own.front o20 (j := 0) rfl) (List.mem_of_getElem? (i := 0) rfl) (ed_slF (B := emp) (ed_to (T := (tW tX)) (S := (tL K tX)) (ed_p (T := (tW tX)) (ep_methB (S := (R_Book_verse K C_Book)) (Ex.refl _) (ed_methU (S := (R_Deal_book K C_Deal)) (Ex.refl _) (ed_toB (Own.uh o20) (ed_fldO (T := (tDeal K C_Book C_Deal)) (ev_var rfl) (Own.exO o20 (j := 0) rfl _ _ sing_at) T_Table.cl T_Table.n_lying rfl (up (Own.ug o0) f12) (Own.uh o20))) (fun h => deal_ins ⟨by decide, by decide, by decide⟩ h) ebs_nil (fun vs G ha => ad_Deal_book ha)) (fun h => book_ins (by decide) h) (ebs_cons (T := tI) (Ex.refl _) (ed_i (ev_i (ed_2a (ed_get (vc_Table_heard_some1 t hp1 ho_t c1) (ed_fldO (T := (tO (tP K tI tI))) (ev_var rfl) (Own.exO o20 (j := 0) rfl _ _ sing_at) T_Table.cl T_Table.n_spoken rfl (up (Own.ug o0) f14) (Own.uh o20))) (Own.uh o20)))) ebs_nil) (fun vs G ha => ad_Book_verseB ha (res_ok (vc_Table_heard_safe1 t hp1 ho_t c1)).symm)) (Own.e0 o20) (cv_lineB (row_txtB (vc_Table_heard_pre_Book_verse1 t hp1 ho_t c1) _).1 (row_txtB (vc_Table_heard_pre_Book_verse1 t hp1 ho_t c1) _).2))) eo_none (eo_some (ev_i (ed_2b (ed_get (vc_Table_heard_some2 t hp1 ho_t c1) (ed_fldO (T := (tO (tP K tI tI))) (ev_var rfl) (Own.exO o20 (j := 0) rfl _ _ sing_at) T_Table.cl T_Table.n_spoken rfl (up (Own.ug o0) f14) (Own.uh o20))) (Own.uh o20)))) (Own.e0 o20)) kX (fun G w eG h => ⟨rfl, (by rw [(vc_Table_heard_ret2 t hp1 ho_t c1)]; exact h)⟩)
abbrev s_Table_winner : Stmt := inClass (topS 36) 10
theorem sc_Table_winner : FnScope ["self", "side"] ["self"] (defScope s_Table_winner) := ⟨rfl, rfl, rfl, by decide +kernel, rfl, by decide +kernel, by decide +kernel⟩
theorem vc_Table_winner_rng1 (t : TabM) (ho_t : TabD t ∧ t.past.length ≤ 40000 ∧ t.hands.length ≤ 40000) (c1 : t.owed.isNone = true) : -1000000 ≤ (2 : Int) ∧ (2 : Int) ≤ 40000 := by
  decide
theorem vc_Table_winner_inv1i1 (t : TabM) (ho_t : TabD t ∧ t.past.length ≤ 40000 ∧ t.hands.length ≤ 40000) (c1 : t.owed.isNone = true) : ∀ i ∈ (rngI (2 : Int)).take 0, cardsI t.lying i ≠ [] := by
  exact fun _ h => nomatch h
theorem vc_Table_winner_pre_Deal_cards1 (t : TabM) (ix1 : Nat) (y1 : Int) (ho_t : TabD t ∧ t.past.length ≤ 40000 ∧ t.hands.length ≤ 40000) (c1 : t.owed.isNone = true) (hj1_1 : ∀ i ∈ (rngI (2 : Int)).take ix1, cardsI t.lying i ≠ []) (hi1 : (rngI (2 : Int))[ix1]? = some y1) : (cardsI t.lying y1).length ≤ 40000 := by
  have hd := ho_t.1.2.1
  have hn := ho_t.1.2.2
  have h40 := needM_len hn
  exact cards40 hd _
theorem vc_Table_winner_safe1 (t : TabM) (ix1 : Nat) (y1 : Int) (ho_t : TabD t ∧ t.past.length ≤ 40000 ∧ t.hands.length ≤ 40000) (c1 : t.owed.isNone = true) (hj1_1 : ∀ i ∈ (rngI (2 : Int)).take ix1, cardsI t.lying i ≠ []) (hi1 : (rngI (2 : Int))[ix1]? = some y1) : fldErr y1 = none := by
  have := rngI_mem.mp (List.mem_of_getElem? hi1)
  unfold fldErr
  rw [if_pos (by omega)]
theorem vc_Table_winner_ret1 (t : TabM) (ix1 : Nat) (y1 : Int) (ho_t : TabD t ∧ t.past.length ≤ 40000 ∧ t.hands.length ≤ 40000) (c1 : t.owed.isNone = true) (hj1_1 : ∀ i ∈ (rngI (2 : Int)).take ix1, cardsI t.lying i ≠ []) (hi1 : (rngI (2 : Int))[ix1]? = some y1) (c2 : (decide ((cardsI t.lying y1) = (([] : List Int)))) = true) : (winM t) = (some (y1)) := by
  have c2 := of_decide_eq_true c2
  have hy := rngI_get.mp hi1
  unfold winM
  rw [if_pos c1]
  rcases (show ix1 = 0 ∨ ix1 = 1 by omega) with e | e <;> subst e
  · have ey : y1 = 0 := by omega
    rw [ey] at c2 ⊢
    rw [if_pos c2]
  · have ey : y1 = 1 := by omega
    rw [ey] at c2 ⊢
    rw [if_neg (hj1_1 0 (by decide)), if_pos c2]
theorem vc_Table_winner_inv1s1 (t : TabM) (ix1 : Nat) (y1 : Int) (ho_t : TabD t ∧ t.past.length ≤ 40000 ∧ t.hands.length ≤ 40000) (c1 : t.owed.isNone = true) (hj1_1 : ∀ i ∈ (rngI (2 : Int)).take ix1, cardsI t.lying i ≠ []) (hi1 : (rngI (2 : Int))[ix1]? = some y1) (c2 : (decide ((cardsI t.lying y1) = (([] : List Int)))) = false) : ∀ i ∈ (rngI (2 : Int)).take (ix1 + 1), cardsI t.lying i ≠ [] := by
  rw [take_succ_of hi1]
  intro i hi
  rcases List.mem_append.mp hi with z | z
  · exact hj1_1 i z
  · rw [List.mem_singleton.mp z]
    exact of_decide_eq_false c2
theorem vc_Table_winner_ret2 (t : TabM) (ho_t : TabD t ∧ t.past.length ≤ 40000 ∧ t.hands.length ≤ 40000) (c1 : t.owed.isNone = true) (hj1_1 : ∀ i ∈ (rngI (2 : Int)).take ((rngI (2 : Int)).length), cardsI t.lying i ≠ []) : (winM t) = (none) := by
  unfold winM
  rw [if_pos c1, if_neg (hj1_1 0 (by decide)), if_neg (hj1_1 1 (by decide))]
theorem vc_Table_winner_ret3 (t : TabM) (ho_t : TabD t ∧ t.past.length ≤ 40000 ∧ t.hands.length ≤ 40000) (c1 : t.owed.isNone = false) : (winM t) = (none) := by
  unfold winM
  rw [if_neg (by rw [c1]; decide)]
def R_Table_winner (K : PySem.W.Frag) (C_Book C_Deal C_Table : Addr) : RlX := ⟨fun vs B Ps r => ∃ (t : TabM) (N : Hp) (v : V), ArgsR B vs [⟨tIs v, ()⟩] ∧ Ps = [N] ∧ (stTab K C_Book C_Deal C_Table).R B N v t ∧ r = resX (none) (fun G Ps' w => Ps' = [N] ∧ (tO tI).R G w (winM t)) (fun _ Ps' => Ps' = [N])⟩
theorem ok_Table_winner (B : Bt mg) {C_Book C_Deal C_Table : Addr} (T_Table : TTable K mg C_Table) (O_Deal_cards : OkM P w K mg base 3 C_Deal "cards" ["self", "field"] ((R_Deal_cards K C_Deal).sp mg)) (D : Dm K C_Table "winner" "Table.winner" s_Table_winner ["self"]) : OkM P w K mg base 4 C_Table "winner" ["self"] ((R_Table_winner K C_Book C_Deal C_Table).sp mg) := by
  refine D.ok sc_Table_winner (fun vs H Q E h => ?_) (fun f cdv A outer s H vs Q E hr h => ?_)
  · obtain ⟨B0, Ps, r, _, ⟨t, N0, v0, ha, _⟩, _⟩ := h
    exact ha.len
  · obtain ⟨B0, Ps, r, o00, ⟨t, N0, v0, ha, rfl, hS, rfl⟩, k⟩ := h
    obtain ⟨v0', rfl, f0⟩ := args1 ha
    obtain rfl : v0' = v0 := f0
    have ho_t := tab_ok hS
    obtain ⟨p1, dx2, u3, u4, u5, u6, u7, u8, u9, u10, hv_, hN_, f11, f12, f13, f14, f15, f16, f17, f18⟩ := hS
    subst hv_ hN_
    have o0 : Own (emp :: B0 :: (sing p1 (.ins C_Table dx2 (tabF u3 u4 u5 u6 u7 u8 u9 u10))) :: (rest2 [B0, sing p1 (.ins C_Table dx2 (tabF u3 u4 u5 u6 u7 u8 u9 u10))] H) :: []) H := own_start o00
    refine ⟨_, (pss_cons (ps_if (pt_cmpR op_isN (pe_fldK K (pv 0)) pe_non (nomark _))
        (pss_one (ps_for (passes_of rfl) rfl (pi_range1 (by rfl) B.range (pa_cons pe_int pa_nil)) (pg_name (i := 1) sc_Table_winner.nd rfl (.inl rfl))
          (pss_one (ps_if (pt_cmpR (op_eqK K (hu65 hr)) (pe_methO O_Deal_cards (pe_fldK K (pv 0)) (hr.mono (by omega)) (takes_of rfl rfl rfl rfl) (pa_cons (pv 1) pa_nil)) (pe_lst pa_nil) (nomark _))
            (pss_one (ps_ret (pv 1)))
            pss_nil))))
        pss_nil)
      (pss_one (ps_ret pe_non))), ?_⟩
    refine q_wh o0 (et_test (ev_isnB (B := (uni B0 emp)) (ed_fldO (T := (tO (tP K tI tI))) (ev_var rfl) (Own.exO o0 (j := 0) rfl _ _ sing_at) T_Table.cl T_Table.n_owed rfl (up (Own.ug o0) f18) (Own.uh o0)))) (fun c1 H19 o20 => ?_) (fun c1 H19 o20 => ?_)
    · skip
      refine s_fo (Z := fun B y σ σ2 => ∃ v, σ2 = σ.set 1 (some v) ∧ tI.R B v y) o20 (dr_rng (n := (2 : Int)) ev_c (vc_Table_winner_rng1 t ho_t c1) fun _ y _ _ _ q => q _ ⟨_, rfl, rfl⟩) (fun Mx ix σ' H' => ∃ (M21 : Hp) (g24 : Option V), (σ' = [some (.ref p1), g24]) ∧ (Ex Mx M21) ∧ (Own (M21 :: B0 :: sing p1 (.ins C_Table dx2 (tabF u3 u4 u5 u6 u7 u8 u9 u10)) :: rest2 [B0, sing p1 (.ins C_Table dx2 (tabF u3 u4 u5 u6 u7 u8 u9 u10))] H :: []) H') ∧ (∀ i ∈ (rngI (2 : Int)).take ix, cardsI t.lying i ≠ [])) (fun M1_1 H1 eM1_1 o1 => ?_) (fun M1_1 ix σ' H' eM1_1 ⟨M21, g24, _, eM23, o22, _⟩ => ?_) ?_ ?_
      · exact ⟨M1_1, _, rfl, Ex.refl _, o1, (vc_Table_winner_inv1i1 t ho_t c1)⟩
      · exact (eM23.trans (Own.e0 o22))
      · rintro M1_1 ix1 y1 σ' H' H'' σ2 eM1_1 hi1 ⟨M21, g24, rfl, eM23, o22, hj1_1⟩ eH25 ⟨z27, rfl, f28⟩
        have o26 := Own.mono eH25 o22
        obtain rfl : z27 = (.int (y1)) := f28
        refine s_wh o26 (et_test (ev_eqB (T := (tW tI)) (ed_p (T := (tW tI)) (ep_methB (S := (R_Deal_cards K C_Deal)) (Ex.refl _) (ed_toB (Own.uh o26) (ed_fldO (T := (tDeal K C_Book C_Deal)) (ev_var rfl) (Own.exO o26 (j := 0) rfl _ _ sing_at) T_Table.cl T_Table.n_lying rfl (up (Own.uu o26 (Ex.trans eM1_1 eM23)) (up (Own.ug o0) f12)) (Own.uh o26))) (fun h => deal_ins ⟨by decide, by decide, by decide⟩ h) (ebs_cons (T := tI) (Ex.refl _) (ed_i (ev_var rfl)) ebs_nil) (fun vs G ha => ad_Deal_cards ha (res_ok (vc_Table_winner_safe1 t ix1 y1 ho_t c1 hj1_1 hi1)).symm)) (Own.e0 o26) (cv_cards (vc_Table_winner_pre_Deal_cards1 t ix1 y1 ho_t c1 hj1_1 hi1))) (ed_lst (T := tI) (l := ([] : List Int)) (Own.e0 o26) ebs_nil (Nat.le_of_ble_eq_true rfl)) (Own.e0 o26))) (fun c2 H29 o30 => ?_) (fun c2 H29 o30 => ?_)
        · skip
          first | show tRet _ _ _ _ | (dsimp only; show tRet _ _ _ _)
          exact s_rvX o00 (Own.front o30 (j := 0) rfl) (List.mem_of_getElem? (i := 0) rfl) (ev_var rfl) (resX_ok rfl k) ⟨rfl, (by rw [(vc_Table_winner_ret1 t ix1 y1 ho_t c1 hj1_1 hi1 c2)]; exact ⟨rfl, NN.nn (T := tI) (H := emp) rfl⟩)⟩
        · skip
          exact ⟨M21, _, rfl, eM23, o30, (vc_Table_winner_inv1s1 t ix1 y1 ho_t c1 hj1_1 hi1 c2)⟩
      · rintro M1_1 σ' H' eM1_1 ⟨M21, g24, rfl, eM23, o22, hj1_1⟩
        first | show tRet _ _ _ _ | (dsimp only; show tRet _ _ _ _)
        have kX := (resX_ok rfl k)
        refine s_rbX (P := fun G w => (tO tI).R G w (none)) o00 (Own.front o22 (j := 0) rfl) (List.mem_of_getElem? (i := 0) rfl) (ed_n (T := tI) ev_c) kX (fun G w eG h => ⟨rfl, (by rw [(vc_Table_winner_ret2 t ho_t c1 hj1_1)]; exact h)⟩)
    · skip
      first | show tRet _ _ _ _ | (dsimp only; show tRet _ _ _ _)
      have kX := (resX_ok rfl k)
      refine s_rbX (P := fun G w => (tO tI).R G w (none)) o00 (Own.front o20 (j := 0) rfl) (List.mem_of_getElem? (i := 0) rfl) (ed_n (T := tI) ev_c) kX (fun G w eG h => ⟨rfl, (by rw [(vc_Table_winner_ret3 t ho_t c1)]; exact h)⟩)
abbrev s_Table_need_going : Stmt := inClass (topS 36) 11
theorem sc_Table_need_going : FnScope ["self"] ["self"] (defScope s_Table_need_going) := ⟨rfl, rfl, rfl, by decide +kernel, rfl, by decide +kernel, by decide +kernel⟩
theorem vc_Table_need_going_raise1 (t : TabM) (ho_t : TabD t ∧ t.past.length ≤ 40000 ∧ t.hands.length ≤ 40000) (c1 : ((winM (t)).isSome) = true) : goErr t = some ("Over" : Str) := by
  unfold goErr
  rw [if_pos c1]
theorem vc_Table_need_going_none1 (t : TabM) (ho_t : TabD t ∧ t.past.length ≤ 40000 ∧ t.hands.length ≤ 40000) (c1 : ((winM (t)).isSome) = false) : goErr t = none := by
  unfold goErr
  rw [if_neg (by rw [c1]; decide)]
theorem vc_Table_need_going_ret1 (t : TabM) (ho_t : TabD t ∧ t.past.length ≤ 40000 ∧ t.hands.length ≤ 40000) (c1 : ((winM (t)).isSome) = false) : (()) = (()) := by
  rfl
def R_Table_need_going (K : PySem.W.Frag) (C_Book C_Deal C_Table : Addr) : RlX := ⟨fun vs B Ps r => ∃ (t : TabM) (N : Hp) (v : V), ArgsR B vs [⟨tIs v, ()⟩] ∧ Ps = [N] ∧ (stTab K C_Book C_Deal C_Table).R B N v t ∧ r = resX (goErr t) (fun G Ps' w => Ps' = [N] ∧ tN.R G w (())) (fun _ Ps' => Ps' = [N])⟩
theorem ok_Table_need_going (B : Bt mg) {C_Book C_Deal C_Over C_Table : Addr} (X_Over : Xc K mg "Over" C_Over) (O_Table_winner : OkM P w K mg base 4 C_Table "winner" ["self"] ((R_Table_winner K C_Book C_Deal C_Table).sp mg)) (D : Dm K C_Table "need_going" "Table.need_going" s_Table_need_going ["self"]) : OkM P w K mg base 5 C_Table "need_going" ["self"] ((R_Table_need_going K C_Book C_Deal C_Table).sp mg) := by
  refine D.ok sc_Table_need_going (fun vs H Q E h => ?_) (fun f cdv A outer s H vs Q E hr h => ?_)
  · obtain ⟨B0, Ps, r, _, ⟨t, N0, v0, ha, _⟩, _⟩ := h
    exact ha.len
  · obtain ⟨B0, Ps, r, o00, ⟨t, N0, v0, ha, rfl, hS, rfl⟩, k⟩ := h
    obtain ⟨v0', rfl, f0⟩ := args1 ha
    obtain rfl : v0' = v0 := f0
    have ho_t := tab_ok hS
    obtain ⟨p1, dx2, u3, u4, u5, u6, u7, u8, u9, u10, hv_, hN_, f11, f12, f13, f14, f15, f16, f17, f18⟩ := hS
    subst hv_ hN_
    have o0 : Own (emp :: B0 :: (sing p1 (.ins C_Table dx2 (tabF u3 u4 u5 u6 u7 u8 u9 u10))) :: (rest2 [B0, sing p1 (.ins C_Table dx2 (tabF u3 u4 u5 u6 u7 u8 u9 u10))] H) :: []) H := own_start o00
    refine ⟨_, (pss_one (ps_if (pt_cmpR op_notN (pe_methO0 O_Table_winner (pv 0) (hr.mono (by omega)) (takes_of rfl rfl rfl rfl)) pe_non (nomark _))
        (pss_one (ps_raise rfl (takes_of rfl rfl rfl rfl) (pmk_ex X_Over (by rfl))))
        pss_nil)), ?_⟩
    refine s_wh o0 (et_test (ev_ntnB (B := emp) (ed_flt (ed_methP (S := (R_Table_winner K C_Book C_Deal C_Table)) (T := (tO tI)) (Own.front o0 (j := 0) rfl) (ev_var rfl) (tab_ins (fun _ _ _ _ _ _ _ _ => rfl) (show (stTab K C_Book C_Deal C_Table).R (uni B0 _) _ _ t from ⟨p1, dx2, u3, u4, u5, u6, u7, u8, u9, u10, rfl, rfl, (up (Own.ug o0) f11), (up (Own.ug o0) f12), (up (Own.ug o0) f13), (up (Own.ug o0) f14), (up (Own.ug o0) f15), (up (Own.ug o0) f16), (up (Own.ug o0) f17), (up (Own.ug o0) f18)⟩) (Own.exO o0 (j := 0) rfl)) ebs_nil (fun vs B eB ha => ⟨_, ⟨(t), _, _, ⟨rfl, ha⟩, rfl, (St.up _ eB ⟨p1, dx2, u3, u4, u5, u6, u7, u8, u9, u10, rfl, rfl, (up (Own.ug o0) f11), (up (Own.ug o0) f12), (up (Own.ug o0) f13), (up (Own.ug o0) f14), (up (Own.ug o0) f15), (up (Own.ug o0) f16), (up (Own.ug o0) f17), (up (Own.ug o0) f18)⟩), (resX_none rfl).symm⟩, fun _ _ _ h => h⟩))))) (fun c1 H19 o20 => ?_) (fun c1 H19 o20 => ?_)
    · skip
      exact RaiseL.go (resX_err (vc_Table_need_going_raise1 t ho_t c1) k) o00 (Own.front o20 (j := 0) rfl) (List.mem_of_getElem? (i := 0) rfl) rfl X_Over.g
    · skip
      exact s_rnQ o00 (Own.front o20 (j := 0) rfl) (List.mem_of_getElem? (i := 0) rfl) (resX_ok (vc_Table_need_going_none1 t ho_t c1) k) ⟨rfl, (by first | (rw [(vc_Table_need_going_ret1 t ho_t c1)]; exact rfl) | (rw [← (vc_Table_need_going_ret1 t ho_t c1)]; exact rfl))⟩
abbrev s_Table_need_quiet : Stmt := inClass (topS 36) 13
theorem sc_Table_need_quiet : FnScope ["self"] ["self"] (defScope s_Table_need_quiet) := ⟨rfl, rfl, rfl, by decide +kernel, rfl, by decide +kernel, by decide +kernel⟩
theorem vc_Table_need_quiet_raise1 (t : TabM) (ho_t : TabD t ∧ t.past.length ≤ 40000 ∧ t.hands.length ≤ 40000) (c1 : t.spoken.isSome = true) : qtErr t = some ("Reading" : Str) := by
  unfold qtErr
  rw [if_pos c1]
theorem vc_Table_need_quiet_none1 (t : TabM) (ho_t : TabD t ∧ t.past.length ≤ 40000 ∧ t.hands.length ≤ 40000) (c1 : t.spoken.isSome = false) : qtErr t = none := by
  unfold qtErr
  rw [if_neg (by rw [c1]; decide)]
theorem vc_Table_need_quiet_ret1 (t : TabM) (ho_t : TabD t ∧ t.past.length ≤ 40000 ∧ t.hands.length ≤ 40000) (c1 : t.spoken.isSome = false) : (()) = (()) := by
  rfl
def R_Table_need_quiet (K : PySem.W.Frag) (C_Book C_Deal C_Table : Addr) : RlX := ⟨fun vs B Ps r => ∃ (t : TabM) (N : Hp) (v : V), ArgsR B vs [⟨tIs v, ()⟩] ∧ Ps = [N] ∧ (stTab K C_Book C_Deal C_Table).R B N v t ∧ r = resX (qtErr t) (fun G Ps' w => Ps' = [N] ∧ tN.R G w (())) (fun _ Ps' => Ps' = [N])⟩
theorem ok_Table_need_quiet (B : Bt mg) {C_Book C_Deal C_Reading C_Table : Addr} (T_Table : TTable K mg C_Table) (X_Reading : Xc K mg "Reading" C_Reading) (D : Dm K C_Table "need_quiet" "Table.need_quiet" s_Table_need_quiet ["self"]) : OkM P w K mg base 1 C_Table "need_quiet" ["self"] ((R_Table_need_quiet K C_Book C_Deal C_Table).sp mg) := by
  refine D.ok sc_Table_need_quiet (fun vs H Q E h => ?_) (fun f cdv A outer s H vs Q E hr h => ?_)
  · obtain ⟨B0, Ps, r, _, ⟨t, N0, v0, ha, _⟩, _⟩ := h
    exact ha.len
  · obtain ⟨B0, Ps, r, o00, ⟨t, N0, v0, ha, rfl, hS, rfl⟩, k⟩ := h
    obtain ⟨v0', rfl, f0⟩ := args1 ha
    obtain rfl : v0' = v0 := f0
    have ho_t := tab_ok hS
    obtain ⟨p1, dx2, u3, u4, u5, u6, u7, u8, u9, u10, hv_, hN_, f11, f12, f13, f14, f15, f16, f17, f18⟩ := hS
    subst hv_ hN_
    have o0 : Own (emp :: B0 :: (sing p1 (.ins C_Table dx2 (tabF u3 u4 u5 u6 u7 u8 u9 u10))) :: (rest2 [B0, sing p1 (.ins C_Table dx2 (tabF u3 u4 u5 u6 u7 u8 u9 u10))] H) :: []) H := own_start o00
    refine ⟨_, (pss_one (ps_if (pt_cmpR op_notN (pe_fldK K (pv 0)) pe_non (nomark _))
        (pss_one (ps_raise rfl (takes_of rfl rfl rfl rfl) (pmk_ex X_Reading (by rfl))))
        pss_nil)), ?_⟩
    refine s_wh o0 (et_test (ev_ntnB (B := (uni B0 emp)) (ed_fldO (T := (tO (tP K tI tI))) (ev_var rfl) (Own.exO o0 (j := 0) rfl _ _ sing_at) T_Table.cl T_Table.n_spoken rfl (up (Own.ug o0) f14) (Own.uh o0)))) (fun c1 H19 o20 => ?_) (fun c1 H19 o20 => ?_)
    · skip
      exact RaiseL.go (resX_err (vc_Table_need_quiet_raise1 t ho_t c1) k) o00 (Own.front o20 (j := 0) rfl) (List.mem_of_getElem? (i := 0) rfl) rfl X_Reading.g
    · skip
      exact s_rnQ o00 (Own.front o20 (j := 0) rfl) (List.mem_of_getElem? (i := 0) rfl) (resX_ok (vc_Table_need_quiet_none1 t ho_t c1) k) ⟨rfl, (by first | (rw [(vc_Table_need_quiet_ret1 t ho_t c1)]; exact rfl) | (rw [← (vc_Table_need_quiet_ret1 t ho_t c1)]; exact rfl))⟩
def readErr (t : TabM) (v : Int) : Option Str := match goErr t with
  | some x => some x
  | none => if t.owed.isSome = true then some "GiftDue" else match qtErr t with
    | some x => some x
    | none => match numErr t.lying.ls.length [v] with
      | some x => some x
      | none => if v ∈ unrM t then none else some "ReadAlready"
def readM (t : TabM) (v : Int) : TabM := { t with spoken := some (v, 0), hands := [] }
abbrev s_Table_read : Stmt := inClass (topS 36) 15
theorem sc_Table_read : FnScope ["self", "verse"] ["self", "verse"] (defScope s_Table_read) := ⟨rfl, rfl, rfl, by decide +kernel, rfl, by decide +kernel, by decide +kernel⟩
theorem vc_Table_read_raise1 (t : TabM) (verse : Int) (xn1 : Str) (ho_t : TabD t ∧ t.past.length ≤ 40000 ∧ t.hands.length ≤ 40000) (hE1 : (goErr (t)) = some xn1) : readErr t verse = some xn1 := by
  unfold readErr
  rw [hE1]
theorem vc_Table_read_raise2 (t : TabM) (verse : Int) (ho_t : TabD t ∧ t.past.length ≤ 40000 ∧ t.hands.length ≤ 40000) (hE1 : (goErr (t)) = none) (c1 : t.owed.isSome = true) : readErr t verse = some ("GiftDue" : Str) := by
  unfold readErr
  rw [hE1]
  exact if_pos c1
theorem vc_Table_read_raise3 (t : TabM) (verse : Int) (xn2 : Str) (ho_t : TabD t ∧ t.past.length ≤ 40000 ∧ t.hands.length ≤ 40000) (hE1 : (goErr (t)) = none) (c1 : t.owed.isSome = false) (hE2 : (qtErr (t)) = some xn2) : readErr t verse = some xn2 := by
  unfold readErr
  rw [hE1]
  simp only []
  rw [if_neg (by rw [c1]; decide), hE2]
theorem vc_Table_read_raise4 (t : TabM) (verse : Int) (xn3 : Str) (ho_t : TabD t ∧ t.past.length ≤ 40000 ∧ t.hands.length ≤ 40000) (hE1 : (goErr (t)) = none) (c1 : t.owed.isSome = false) (hE2 : (qtErr (t)) = none) (hE3 : (numErr t.lying.ls.length [verse]) = some xn3) : readErr t verse = some xn3 := by
  unfold readErr
  rw [hE1]
  simp only []
  rw [if_neg (by rw [c1]; decide), hE2]
  simp only []
  rw [hE3]
theorem vc_Table_read_raise5 (t : TabM) (verse : Int) (ho_t : TabD t ∧ t.past.length ≤ 40000 ∧ t.hands.length ≤ 40000) (hE1 : (goErr (t)) = none) (c1 : t.owed.isSome = false) (hE2 : (qtErr (t)) = none) (hE3 : (numErr t.lying.ls.length [verse]) = none) (c2 : (!decide (verse ∈ (unrM (t)))) = true) : readErr t verse = some ("ReadAlready" : Str) := by
  unfold readErr
  rw [hE1]
  simp only []
  rw [if_neg (by rw [c1]; decide), hE2]
  simp only []
  rw [hE3]
  exact if_neg (by simpa using c2)
theorem vc_Table_read_none1 (t : TabM) (verse : Int) (ho_t : TabD t ∧ t.past.length ≤ 40000 ∧ t.hands.length ≤ 40000) (hE1 : (goErr (t)) = none) (c1 : t.owed.isSome = false) (hE2 : (qtErr (t)) = none) (hE3 : (numErr t.lying.ls.length [verse]) = none) (c2 : (!decide (verse ∈ (unrM (t)))) = false) : readErr t verse = none := by
  unfold readErr
  rw [hE1]
  simp only []
  rw [if_neg (by rw [c1]; decide), hE2]
  simp only []
  rw [hE3]
  exact if_pos (by simpa using c2)
theorem vc_Table_read_step1 (t : TabM) (verse : Int) (ho_t : TabD t ∧ t.past.length ≤ 40000 ∧ t.hands.length ≤ 40000) (hE1 : (goErr (t)) = none) (c1 : t.owed.isSome = false) (hE2 : (qtErr (t)) = none) (hE3 : (numErr t.lying.ls.length [verse]) = none) (c2 : (!decide (verse ∈ (unrM (t)))) = false) : (readM t verse) = ({ t with spoken := some ((verse, (0 : Int))), hands := ([] : List (T3 Int Int (T4 Int Int Int Int))) }) := by
  rfl
theorem vc_Table_read_ret1 (t : TabM) (verse : Int) (ho_t : TabD t ∧ t.past.length ≤ 40000 ∧ t.hands.length ≤ 40000) (hE1 : (goErr (t)) = none) (c1 : t.owed.isSome = false) (hE2 : (qtErr (t)) = none) (hE3 : (numErr t.lying.ls.length [verse]) = none) (c2 : (!decide (verse ∈ (unrM (t)))) = false) : (()) = (()) := by
  rfl
def R_Table_read (K : PySem.W.Frag) (C_Book C_Deal C_Table : Addr) : RlX := ⟨fun vs B Ps r => ∃ (t : TabM) (N : Hp) (v : V) (verse : Int), ArgsR B vs [⟨tIs v, ()⟩, ⟨tI, verse⟩] ∧ Ps = [N] ∧ (stTab K C_Book C_Deal C_Table).R B N v t ∧ r = resX (readErr t verse) (fun G Ps' w => ∃ N', Ps' = [N'] ∧ (stTab K C_Book C_Deal C_Table).R G N' v (readM t verse) ∧ tN.R G w (())) (fun _ Ps' => Ps' = [N])⟩
theorem ok_Table_read (B : Bt mg) {C_Book C_Deal C_GiftDue C_ReadAlready C_Table : Addr} (T_Table : TTable K mg C_Table) (X_GiftDue : Xc K mg "GiftDue" C_GiftDue) (X_ReadAlready : Xc K mg "ReadAlready" C_ReadAlready) (O_Deal_where : OkM P w K mg base 3 C_Deal "where" ["self", "verse"] ((R_Deal_where K C_Book C_Deal).sp mg)) (O_Table_need_going : OkM P w K mg base 5 C_Table "need_going" ["self"] ((R_Table_need_going K C_Book C_Deal C_Table).sp mg)) (O_Table_need_quiet : OkM P w K mg base 1 C_Table "need_quiet" ["self"] ((R_Table_need_quiet K C_Book C_Deal C_Table).sp mg)) (O_Table_unread : OkM P w K mg base 2 C_Table "unread" ["self"] ((R_Table_unread K C_Book C_Deal C_Table).sp mg)) (D : Dm K C_Table "read" "Table.read" s_Table_read ["self", "verse"]) : OkM P w K mg base 6 C_Table "read" ["self", "verse"] ((R_Table_read K C_Book C_Deal C_Table).sp mg) := by
  refine D.ok sc_Table_read (fun vs H Q E h => ?_) (fun f cdv A outer s H vs Q E hr h => ?_)
  · obtain ⟨B0, Ps, r, _, ⟨t, N0, v0, verse, ha, _⟩, _⟩ := h
    exact ha.len
  · obtain ⟨B0, Ps, r, o00, ⟨t, N0, v0, verse, ha, rfl, hS, rfl⟩, k⟩ := h
    obtain ⟨v0', v1, rfl, f0, f2⟩ := args2 ha
    obtain rfl : v0' = v0 := f0
    have ho_t := tab_ok hS
    obtain ⟨p3, dx4, u5, u6, u7, u8, u9, u10, u11, u12, hv_, hN_, f13, f14, f15, f16, f17, f18, f19, f20⟩ := hS
    subst hv_ hN_
    have o0 : Own (emp :: B0 :: (sing p3 (.ins C_Table dx4 (tabF u5 u6 u7 u8 u9 u10 u11 u12))) :: (rest2 [B0, sing p3 (.ins C_Table dx4 (tabF u5 u6 u7 u8 u9 u10 u11 u12))] H) :: []) H := own_start o00
    obtain rfl : v1 = (.int (verse)) := f2
    refine ⟨_, (pss_cons (ps_expr (pe_methO0 O_Table_need_going (pv 0) (hr.mono (by omega)) (takes_of rfl rfl rfl rfl)))
      (pss_cons (ps_if (pt_cmpR op_notN (pe_fldK K (pv 0)) pe_non (nomark _))
        (pss_one (ps_raise rfl (takes_of rfl rfl rfl rfl) (pmk_ex X_GiftDue (by rfl))))
        pss_nil)
      (pss_cons (ps_expr (pe_methO0 O_Table_need_quiet (pv 0) (hr.mono (by omega)) (takes_of rfl rfl rfl rfl)))
      (pss_cons (ps_expr (pe_methO O_Deal_where (pe_fldK K (pv 0)) (hr.mono (by omega)) (takes_of rfl rfl rfl rfl) (pa_cons (pv 1) pa_nil)))
      (pss_cons (ps_if (pt_cmpR (op_notinK K (hu65 hr)) (pv 1) (pe_methO0 O_Table_unread (pv 0) (hr.mono (by omega)) (takes_of rfl rfl rfl rfl)) (by rfl))
        (pss_one (ps_raise rfl (takes_of rfl rfl rfl rfl) (pmk_ex X_ReadAlready (by rfl))))
        pss_nil)
      (pss_cons (ps_fldK K (pv 0) (pe_tup (pa_cons (pv 1) (pa_cons pe_int pa_nil))))
      (pss_one (ps_fldK K (pv 0) (pe_lst pa_nil))))))))), ?_⟩
    cases hE1 : goErr (t) with
    | some xn1 =>
      exact q_der (xn := xn1) (fs := []) (er_methP (S := (R_Table_need_going K C_Book C_Deal C_Table)) (Own.front o0 (j := 0) rfl) (ev_var rfl) (tab_ins (fun _ _ _ _ _ _ _ _ => rfl) (show (stTab K C_Book C_Deal C_Table).R (uni B0 _) _ _ t from ⟨p3, dx4, u5, u6, u7, u8, u9, u10, u11, u12, rfl, rfl, (up (Own.ug o0) f13), (up (Own.ug o0) f14), (up (Own.ug o0) f15), (up (Own.ug o0) f16), (up (Own.ug o0) f17), (up (Own.ug o0) f18), (up (Own.ug o0) f19), (up (Own.ug o0) f20)⟩) (Own.exO o0 (j := 0) rfl)) ebs_nil (fun vs B eB ha => ⟨_, ⟨(t), _, _, ⟨rfl, ha⟩, rfl, (St.up _ eB ⟨p3, dx4, u5, u6, u7, u8, u9, u10, u11, u12, rfl, rfl, (up (Own.ug o0) f13), (up (Own.ug o0) f14), (up (Own.ug o0) f15), (up (Own.ug o0) f16), (up (Own.ug o0) f17), (up (Own.ug o0) f18), (up (Own.ug o0) f19), (up (Own.ug o0) f20)⟩), (resX_some hE1).symm⟩, fun _ _ h => h⟩)) (RaiseL.fwd (resX_err (vc_Table_read_raise1 t verse xn1 ho_t hE1) k) o00 (Own.front o0 (j := 0) rfl) (List.mem_of_getElem? (i := 0) rfl) (fun _ _ => rfl))
    | none =>
      refine q_dv o0 (ep_any (ed_methP (S := (R_Table_need_going K C_Book C_Deal C_Table)) (T := tN) (Own.front o0 (j := 0) rfl) (ev_var rfl) (tab_ins (fun _ _ _ _ _ _ _ _ => rfl) (show (stTab K C_Book C_Deal C_Table).R (uni B0 _) _ _ t from ⟨p3, dx4, u5, u6, u7, u8, u9, u10, u11, u12, rfl, rfl, (up (Own.ug o0) f13), (up (Own.ug o0) f14), (up (Own.ug o0) f15), (up (Own.ug o0) f16), (up (Own.ug o0) f17), (up (Own.ug o0) f18), (up (Own.ug o0) f19), (up (Own.ug o0) f20)⟩) (Own.exO o0 (j := 0) rfl)) ebs_nil (fun vs B eB ha => ⟨_, ⟨(t), _, _, ⟨rfl, ha⟩, rfl, (St.up _ eB ⟨p3, dx4, u5, u6, u7, u8, u9, u10, u11, u12, rfl, rfl, (up (Own.ug o0) f13), (up (Own.ug o0) f14), (up (Own.ug o0) f15), (up (Own.ug o0) f16), (up (Own.ug o0) f17), (up (Own.ug o0) f18), (up (Own.ug o0) f19), (up (Own.ug o0) f20)⟩), (resX_none hE1).symm⟩, fun _ _ _ h => h⟩))) fun H21 o22 => ?_
      refine q_wh o22 (et_test (ev_ntnB (B := (uni B0 emp)) (ed_fldO (T := (tO (tP K tI tI))) (ev_var rfl) (Own.exO o22 (j := 0) rfl _ _ sing_at) T_Table.cl T_Table.n_owed rfl (up (Own.ug o0) f20) (Own.uh o22)))) (fun c1 H23 o24 => ?_) (fun c1 H23 o24 => ?_)
      · skip
        exact RaiseL.go (resX_err (vc_Table_read_raise2 t verse ho_t hE1 c1) k) o00 (Own.front o24 (j := 0) rfl) (List.mem_of_getElem? (i := 0) rfl) rfl X_GiftDue.g
      · skip
        cases hE2 : qtErr (t) with
        | some xn2 =>
          exact q_der (xn := xn2) (fs := []) (er_methP (S := (R_Table_need_quiet K C_Book C_Deal C_Table)) (Own.front o24 (j := 0) rfl) (ev_var rfl) (tab_ins (fun _ _ _ _ _ _ _ _ => rfl) (show (stTab K C_Book C_Deal C_Table).R (uni B0 _) _ _ t from ⟨p3, dx4, u5, u6, u7, u8, u9, u10, u11, u12, rfl, rfl, (up (Own.ug o0) f13), (up (Own.ug o0) f14), (up (Own.ug o0) f15), (up (Own.ug o0) f16), (up (Own.ug o0) f17), (up (Own.ug o0) f18), (up (Own.ug o0) f19), (up (Own.ug o0) f20)⟩) (Own.exO o24 (j := 0) rfl)) ebs_nil (fun vs B eB ha => ⟨_, ⟨(t), _, _, ⟨rfl, ha⟩, rfl, (St.up _ eB ⟨p3, dx4, u5, u6, u7, u8, u9, u10, u11, u12, rfl, rfl, (up (Own.ug o0) f13), (up (Own.ug o0) f14), (up (Own.ug o0) f15), (up (Own.ug o0) f16), (up (Own.ug o0) f17), (up (Own.ug o0) f18), (up (Own.ug o0) f19), (up (Own.ug o0) f20)⟩), (resX_some hE2).symm⟩, fun _ _ h => h⟩)) (RaiseL.fwd (resX_err (vc_Table_read_raise3 t verse xn2 ho_t hE1 c1 hE2) k) o00 (Own.front o24 (j := 0) rfl) (List.mem_of_getElem? (i := 0) rfl) (fun _ _ => rfl))
        | none =>
          refine q_dv o24 (ep_any (ed_methP (S := (R_Table_need_quiet K C_Book C_Deal C_Table)) (T := tN) (Own.front o24 (j := 0) rfl) (ev_var rfl) (tab_ins (fun _ _ _ _ _ _ _ _ => rfl) (show (stTab K C_Book C_Deal C_Table).R (uni B0 _) _ _ t from ⟨p3, dx4, u5, u6, u7, u8, u9, u10, u11, u12, rfl, rfl, (up (Own.ug o0) f13), (up (Own.ug o0) f14), (up (Own.ug o0) f15), (up (Own.ug o0) f16), (up (Own.ug o0) f17), (up (Own.ug o0) f18), (up (Own.ug o0) f19), (up (Own.ug o0) f20)⟩) (Own.exO o24 (j := 0) rfl)) ebs_nil (fun vs B eB ha => ⟨_, ⟨(t), _, _, ⟨rfl, ha⟩, rfl, (St.up _ eB ⟨p3, dx4, u5, u6, u7, u8, u9, u10, u11, u12, rfl, rfl, (up (Own.ug o0) f13), (up (Own.ug o0) f14), (up (Own.ug o0) f15), (up (Own.ug o0) f16), (up (Own.ug o0) f17), (up (Own.ug o0) f18), (up (Own.ug o0) f19), (up (Own.ug o0) f20)⟩), (resX_none hE2).symm⟩, fun _ _ _ h => h⟩))) fun H25 o26 => ?_
          cases hE3 : numErr t.lying.ls.length [verse] with
          | some xn3 =>
            exact q_der (xn := xn3) (fs := []) (er_methB (S := (R_Deal_where K C_Book C_Deal)) (Ex.refl _) (ed_toB (Own.uh o26) (ed_fldO (T := (tDeal K C_Book C_Deal)) (ev_var rfl) (Own.exO o26 (j := 0) rfl _ _ sing_at) T_Table.cl T_Table.n_lying rfl (up (Own.ug o0) f14) (Own.uh o26))) (fun h => deal_ins ⟨by decide, by decide, by decide⟩ h) (ebs_cons (T := tI) (Ex.refl _) (ed_i (ev_var rfl)) ebs_nil) (fun vs G ha => ad_Deal_whereE ha hE3)) (RaiseL.fwd (resX_err (vc_Table_read_raise4 t verse xn3 ho_t hE1 c1 hE2 hE3) k) o00 (Own.front o26 (j := 0) rfl) (List.mem_of_getElem? (i := 0) rfl) (fun _ _ => rfl))
          | none =>
            refine q_dv o26 (ep_any (ed_methU (S := (R_Deal_where K C_Book C_Deal)) (Own.uh o26) (ed_fldO (T := (tDeal K C_Book C_Deal)) (ev_var rfl) (Own.exO o26 (j := 0) rfl _ _ sing_at) T_Table.cl T_Table.n_lying rfl (up (Own.ug o0) f14) (Own.uh o26)) (fun h => deal_ins ⟨by decide, by decide, by decide⟩ h) (ebs_cons (T := tI) (Own.uh o26) (ed_i (ev_var rfl)) ebs_nil) (fun vs G ha => ad_Deal_where (e := none) ha hE3))) fun H27 o28 => ?_
            refine q_wh o28 (et_test (ev_niB (T := tI) (ed_i (ev_var rfl)) (ed_to (T := (tW tI)) (S := (tL K tI)) (ed_methP (S := (R_Table_unread K C_Book C_Deal C_Table)) (T := (tW tI)) (Own.front o28 (j := 0) rfl) (ev_var rfl) (tab_ins (fun _ _ _ _ _ _ _ _ => rfl) (show (stTab K C_Book C_Deal C_Table).R (uni B0 _) _ _ t from ⟨p3, dx4, u5, u6, u7, u8, u9, u10, u11, u12, rfl, rfl, (up (Own.ug o0) f13), (up (Own.ug o0) f14), (up (Own.ug o0) f15), (up (Own.ug o0) f16), (up (Own.ug o0) f17), (up (Own.ug o0) f18), (up (Own.ug o0) f19), (up (Own.ug o0) f20)⟩) (Own.exO o28 (j := 0) rfl)) ebs_nil (fun vs B eB ha => ⟨_, ⟨(t), _, _, ⟨rfl, ha⟩, rfl, (St.up _ eB ⟨p3, dx4, u5, u6, u7, u8, u9, u10, u11, u12, rfl, rfl, (up (Own.ug o0) f13), (up (Own.ug o0) f14), (up (Own.ug o0) f15), (up (Own.ug o0) f16), (up (Own.ug o0) f17), (up (Own.ug o0) f18), (up (Own.ug o0) f19), (up (Own.ug o0) f20)⟩), (resX_none rfl).symm⟩, fun _ _ _ h => h⟩))) (Own.uh o28))) (fun c2 H29 o30 => ?_) (fun c2 H29 o30 => ?_)
            · skip
              exact RaiseL.go (resX_err (vc_Table_read_raise5 t verse ho_t hE1 c1 hE2 hE3 c2) k) o00 (Own.front o30 (j := 0) rfl) (List.mem_of_getElem? (i := 0) rfl) rfl X_ReadAlready.g
            · skip
              refine q_fldY (fun v => tabF u5 u6 u7 v u9 u10 u11 u12) put_spoken o30 (j := 0) rfl (ev_var rfl) (ed_some (T := (tP K tI tI)) (ed_tup2 (K := K) (Own.uh o30) (ebs_cons (T := tI) (Own.uh o30) (ed_i (ev_var rfl)) (ebs_cons (T := tI) (Own.uh o30) (ed_i ev_c) ebs_nil)))) T_Table.cl T_Table.n_spoken tabF_len fun u31 M32 H33 eM34 o35 f36 => ?_
              have o37 : Own (M32 :: B0 :: (sing p3 (.ins C_Table dx4 (tabF u5 u6 u7 u31 u9 u10 u11 u12))) :: (rest2 [B0, sing p3 (.ins C_Table dx4 (tabF u5 u6 u7 u8 u9 u10 u11 u12))] H) :: []) H33 := o35
              refine s_fldY (fun v => tabF u5 u6 u7 u31 v u10 u11 u12) put_hands o37 (j := 0) rfl (ev_var rfl) (ed_lst (T := (tT3 K tI tI (tT4 K tI tI tI tI))) (l := ([] : List (T3 Int Int (T4 Int Int Int Int)))) (Own.uh o37) ebs_nil (Nat.le_of_ble_eq_true rfl)) T_Table.cl T_Table.n_hands tabF_len fun u38 M39 H40 eM41 o42 f43 => ?_
              have o44 : Own (M39 :: B0 :: (sing p3 (.ins C_Table dx4 (tabF u5 u6 u7 u31 u38 u10 u11 u12))) :: (rest2 [B0, sing p3 (.ins C_Table dx4 (tabF u5 u6 u7 u8 u9 u10 u11 u12))] H) :: []) H40 := o42
              exact s_rnQ o00 (Own.front o44 (j := 0) rfl) (List.mem_of_getElem? (i := 0) rfl) (resX_ok (vc_Table_read_none1 t verse ho_t hE1 c1 hE2 hE3 c2) k) ⟨_, rfl, (by rw [(vc_Table_read_step1 t verse ho_t hE1 c1 hE2 hE3 c2)]; exact ⟨p3, dx4, u5, u6, u7, u31, u38, u10, u11, u12, rfl, rfl, (up (Own.uu o44 (Ex.trans eM34 eM41)) (up (Own.ug o0) f13)), (up (Own.uu o44 (Ex.trans eM34 eM41)) (up (Own.ug o0) f14)), (up (Own.uu o44 (Ex.trans eM34 eM41)) (up (Own.ug o0) f15)), (up (Own.uu o44 eM41) f36), f43, (up (Own.uu o44 (Ex.trans eM34 eM41)) (up (Own.ug o0) f18)), (up (Own.uu o44 (Ex.trans eM34 eM41)) (up (Own.ug o0) f19)), (up (Own.uu o44 (Ex.trans eM34 eM41)) (up (Own.ug o0) f20))⟩), (by first | (rw [(vc_Table_read_ret1 t verse ho_t hE1 c1 hE2 hE3 c2)]; exact rfl) | (rw [← (vc_Table_read_ret1 t verse ho_t hE1 c1 hE2 hE3 c2)]; exact rfl))⟩
def tabErr (d : DealM) : Option Str := if cardsI d 0 = [] ∨ cardsI d 1 = [] then some "BadDeal" else none
def tab0 (d : DealM) : TabM := { begun := d, lying := d, past := [], spoken := none, hands := [], won := (0, 0), missed := (0, 0), owed := none }
abbrev s_Tabled__initd_ : Stmt := inClass (topS 36) 0
theorem sc_Tabled__initd_ : FnScope ["self", "deal"] ["self", "deal"] (defScope s_Tabled__initd_) := ⟨rfl, rfl, rfl, by decide +kernel, rfl, by decide +kernel, by decide +kernel⟩
theorem vc_Tabled__initd__pre_Deal_cards1 (deal : DealM) (ho_deal : dealM deal.ls.length deal.F0 deal.F1 = true ∧ needM deal.ls = none) : (cardsI deal (0 : Int)).length ≤ 40000 := by
  exact cards40 ho_deal.1 _
theorem vc_Tabled__initd__safe1 (deal : DealM) (ho_deal : dealM deal.ls.length deal.F0 deal.F1 = true ∧ needM deal.ls = none) : fldErr (0 : Int) = none := by
  rfl
theorem vc_Tabled__initd__pre_Deal_cards2 (deal : DealM) (ho_deal : dealM deal.ls.length deal.F0 deal.F1 = true ∧ needM deal.ls = none) (hc3 : (decide ((cardsI deal (0 : Int)) = (([] : List Int)))) = false) : (cardsI deal (1 : Int)).length ≤ 40000 := by
  exact cards40 ho_deal.1 _
theorem vc_Tabled__initd__safe2 (deal : DealM) (ho_deal : dealM deal.ls.length deal.F0 deal.F1 = true ∧ needM deal.ls = none) (hc3 : (decide ((cardsI deal (0 : Int)) = (([] : List Int)))) = false) : fldErr (1 : Int) = none := by
  rfl
theorem vc_Tabled__initd__raise1 (deal : DealM) (ho_deal : dealM deal.ls.length deal.F0 deal.F1 = true ∧ needM deal.ls = none) (c1 : (((decide ((cardsI deal (0 : Int)) = (([] : List Int)))) || (decide ((cardsI deal (1 : Int)) = (([] : List Int)))))) = true) : tabErr deal = some ("BadDeal" : Str) := by
  unfold tabErr
  rw [if_pos (by simpa using c1)]
theorem vc_Tabled__initd__ret1 (deal : DealM) (ho_deal : dealM deal.ls.length deal.F0 deal.F1 = true ∧ needM deal.ls = none) (c1 : (((decide ((cardsI deal (0 : Int)) = (([] : List Int)))) || (decide ((cardsI deal (1 : Int)) = (([] : List Int)))))) = false) : (tab0 deal) = ({ begun := deal, lying := deal, past := ([] : List (T4 Int (Option Int) Bool Bool)), spoken := none, hands := ([] : List (T3 Int Int (T4 Int Int Int Int))), won := ((0 : Int), (0 : Int)), missed := ((0 : Int), (0 : Int)), owed := none } : TabM) := by
  rfl
theorem vc_Tabled__initd__none1 (deal : DealM) (ho_deal : dealM deal.ls.length deal.F0 deal.F1 = true ∧ needM deal.ls = none) (c1 : (((decide ((cardsI deal (0 : Int)) = (([] : List Int)))) || (decide ((cardsI deal (1 : Int)) = (([] : List Int)))))) = false) : tabErr deal = none := by
  unfold tabErr
  rw [if_neg (by simpa using c1)]
def R_Table (K : PySem.W.Frag) (C_Book C_Deal C_Table : Addr) : RlX := ⟨fun vs B Ps r => ∃ (deal : DealM), ArgsR B vs [⟨(tDeal K C_Book C_Deal), deal⟩] ∧ Ps = [] ∧ r = resX (tabErr deal) (fun G Ps' w => ∃ N', Ps' = [N'] ∧ (stTab K C_Book C_Deal C_Table).R G N' w (tab0 deal)) (fun _ _ => True)⟩
theorem ok_Tabled__initd_ (B : Bt mg) {C_BadDeal C_Book C_Deal C_Table : Addr} (T_Table : TTable K mg C_Table) (X_BadDeal : Xc K mg "BadDeal" C_BadDeal) (O_Deal_cards : OkM P w K mg base 3 C_Deal "cards" ["self", "field"] ((R_Deal_cards K C_Deal).sp mg)) (D : Dm K C_Table "__init__" "Table.__init__" s_Tabled__initd_ ["self", "deal"]) : OkM P w K mg base 4 C_Table "__init__" ["self", "deal"] ((R_Table K C_Book C_Deal C_Table).spI mg C_Table) := by
  refine D.ok sc_Tabled__initd_ (fun vs H Q E h => ?_) (fun f cdv A outer s H vs Q E hr h => ?_)
  · obtain ⟨x0, dx0, us, G0, B0, r, rfl, _, _, _, _, _, ⟨deal, ha, _⟩, _⟩ := init_out h
    exact congrArg Nat.succ ha.len
  · obtain ⟨x0, dx0, us, G0, B0, r, rfl, rfl, hx, hdx, hne, eB, ⟨deal, ha, _, rfl⟩, k⟩ := init_out h
    obtain ⟨v1, rfl, f2⟩ := args1 ha
    have o0 : Own (emp :: B0 :: (sing x0 (.ins C_Table dx0 [])) :: (rest2 [B0] G0) :: []) _ := own_initX hx hdx hne eB
    have ho_deal : dealM deal.ls.length deal.F0 deal.F1 = true ∧ needM deal.ls = none := deal_ok f2
    refine ⟨_, (pss_cons (ps_if (PW.pt (pw_or (pt_cmpR (op_eqK K (hu65 hr)) (pe_methO O_Deal_cards (pv 1) (hr.mono (by omega)) (takes_of rfl rfl rfl rfl) (pa_cons pe_int pa_nil)) (pe_lst pa_nil) (nomark _)) (pw_or1 (pt_cmpR (op_eqK K (hu65 hr)) (pe_methO O_Deal_cards (pv 1) (hr.mono (by omega)) (takes_of rfl rfl rfl rfl) (pa_cons pe_int pa_nil)) (pe_lst pa_nil) (nomark _)))))
        (pss_one (ps_raise rfl (takes_of rfl rfl rfl rfl) (pmk_ex X_BadDeal (by rfl))))
        pss_nil)
      (pss_cons (ps_fldK K (pv 0) (pv 1))
      (pss_cons (ps_fldK K (pv 0) (pv 1))
      (pss_cons (ps_fldK K (pv 0) (pe_lst pa_nil))
      (pss_cons (ps_fldK K (pv 0) pe_non)
      (pss_cons (ps_fldK K (pv 0) (pe_lst pa_nil))
      (pss_cons (ps_fldK K (pv 0) (pe_tup (pa_cons pe_int (pa_cons pe_int pa_nil))))
      (pss_cons (ps_fldK K (pv 0) (pe_tup (pa_cons pe_int (pa_cons pe_int pa_nil))))
      (pss_one (ps_fldK K (pv 0) pe_non)))))))))), ?_⟩
    refine q_wh o0 (et_or (et_test (ev_eqB (T := (tW tI)) (ed_p (T := (tW tI)) (ep_methB (S := (R_Deal_cards K C_Deal)) (Ex.refl _) (ed_of (T := (tDeal K C_Book C_Deal)) (up (Own.uh o0) (up (Own.ug o0) f2)) rfl) (fun h => deal_ins ⟨by decide, by decide, by decide⟩ h) (ebs_cons (T := tI) (Ex.refl _) (ed_i ev_c) ebs_nil) (fun vs G ha => ad_Deal_cards ha (res_ok (vc_Tabled__initd__safe1 deal ho_deal)).symm)) (Own.e0 o0) (cv_cards (vc_Tabled__initd__pre_Deal_cards1 deal ho_deal))) (ed_lst (T := tI) (l := ([] : List Int)) (Own.e0 o0) ebs_nil (Nat.le_of_ble_eq_true rfl)) (Own.e0 o0))) fun hc3 => (et_test (ev_eqB (T := (tW tI)) (ed_p (T := (tW tI)) (ep_methB (S := (R_Deal_cards K C_Deal)) (Ex.refl _) (ed_of (T := (tDeal K C_Book C_Deal)) (up (Own.uh o0) (up (Own.ug o0) f2)) rfl) (fun h => deal_ins ⟨by decide, by decide, by decide⟩ h) (ebs_cons (T := tI) (Ex.refl _) (ed_i ev_c) ebs_nil) (fun vs G ha => ad_Deal_cards ha (res_ok (vc_Tabled__initd__safe2 deal ho_deal hc3)).symm)) (Own.e0 o0) (cv_cards (vc_Tabled__initd__pre_Deal_cards2 deal ho_deal hc3))) (ed_lst (T := tI) (l := ([] : List Int)) (Own.e0 o0) ebs_nil (Nat.le_of_ble_eq_true rfl)) (Own.e0 o0)))) (fun c1 H4 o5 => ?_) (fun c1 H4 o5 => ?_)
    · skip
      exact RaiseX.go (init_raise (vc_Tabled__initd__raise1 deal ho_deal c1) k eB (Own.front o5 (j := 0) rfl) (List.mem_of_getElem? (i := 0) rfl)) (Ex.refl _) X_BadDeal.g
    · skip
      refine q_fldY (fun v => [("begun", v)]) (fun _ => rfl) o5 (j := 0) rfl (ev_var rfl) (ed_of (T := (tDeal K C_Book C_Deal)) (up (Own.ug o0) f2) rfl) T_Table.cl T_Table.n_begun (by show 0 < 1000; decide) fun u6 M7 H8 eM9 o10 f11 => ?_
      have o12 : Own (M7 :: B0 :: (sing x0 (.ins C_Table dx0 [("begun", u6)])) :: (rest2 [B0] G0) :: []) H8 := o10
      refine q_fldY (fun v => [("begun", u6), ("lying", v)]) (fun _ => rfl) o12 (j := 0) rfl (ev_var rfl) (ed_of (T := (tDeal K C_Book C_Deal)) (up (Own.uu o12 eM9) (up (Own.ug o0) f2)) rfl) T_Table.cl T_Table.n_lying (by show 1 < 1000; decide) fun u13 M14 H15 eM16 o17 f18 => ?_
      have o19 : Own (M14 :: B0 :: (sing x0 (.ins C_Table dx0 [("begun", u6), ("lying", u13)])) :: (rest2 [B0] G0) :: []) H15 := o17
      refine q_fldY (fun v => [("begun", u6), ("lying", u13), ("past", v)]) (fun _ => rfl) o19 (j := 0) rfl (ev_var rfl) (ed_lst (T := (tT4 K tI (tO tI) tB tB)) (l := ([] : List (T4 Int (Option Int) Bool Bool))) (Own.uh o19) ebs_nil (Nat.le_of_ble_eq_true rfl)) T_Table.cl T_Table.n_past (by show 2 < 1000; decide) fun u20 M21 H22 eM23 o24 f25 => ?_
      have o26 : Own (M21 :: B0 :: (sing x0 (.ins C_Table dx0 [("begun", u6), ("lying", u13), ("past", u20)])) :: (rest2 [B0] G0) :: []) H22 := o24
      refine q_fldY (fun v => [("begun", u6), ("lying", u13), ("past", u20), ("spoken", v)]) (fun _ => rfl) o26 (j := 0) rfl (ev_var rfl) (ed_n (T := (tP K tI tI)) ev_c) T_Table.cl T_Table.n_spoken (by show 3 < 1000; decide) fun u27 M28 H29 eM30 o31 f32 => ?_
      have o33 : Own (M28 :: B0 :: (sing x0 (.ins C_Table dx0 [("begun", u6), ("lying", u13), ("past", u20), ("spoken", u27)])) :: (rest2 [B0] G0) :: []) H29 := o31
      refine q_fldY (fun v => [("begun", u6), ("lying", u13), ("past", u20), ("spoken", u27), ("hands", v)]) (fun _ => rfl) o33 (j := 0) rfl (ev_var rfl) (ed_lst (T := (tT3 K tI tI (tT4 K tI tI tI tI))) (l := ([] : List (T3 Int Int (T4 Int Int Int Int)))) (Own.uh o33) ebs_nil (Nat.le_of_ble_eq_true rfl)) T_Table.cl T_Table.n_hands (by show 4 < 1000; decide) fun u34 M35 H36 eM37 o38 f39 => ?_
      have o40 : Own (M35 :: B0 :: (sing x0 (.ins C_Table dx0 [("begun", u6), ("lying", u13), ("past", u20), ("spoken", u27), ("hands", u34)])) :: (rest2 [B0] G0) :: []) H36 := o38
      refine q_fldY (fun v => [("begun", u6), ("lying", u13), ("past", u20), ("spoken", u27), ("hands", u34), ("won", v)]) (fun _ => rfl) o40 (j := 0) rfl (ev_var rfl) (ed_tup2 (K := K) (Own.uh o40) (ebs_cons (T := tI) (Own.uh o40) (ed_i ev_c) (ebs_cons (T := tI) (Own.uh o40) (ed_i ev_c) ebs_nil))) T_Table.cl T_Table.n_won (by show 5 < 1000; decide) fun u41 M42 H43 eM44 o45 f46 => ?_
      have o47 : Own (M42 :: B0 :: (sing x0 (.ins C_Table dx0 [("begun", u6), ("lying", u13), ("past", u20), ("spoken", u27), ("hands", u34), ("won", u41)])) :: (rest2 [B0] G0) :: []) H43 := o45
      refine q_fldY (fun v => [("begun", u6), ("lying", u13), ("past", u20), ("spoken", u27), ("hands", u34), ("won", u41), ("missed", v)]) (fun _ => rfl) o47 (j := 0) rfl (ev_var rfl) (ed_tup2 (K := K) (Own.uh o47) (ebs_cons (T := tI) (Own.uh o47) (ed_i ev_c) (ebs_cons (T := tI) (Own.uh o47) (ed_i ev_c) ebs_nil))) T_Table.cl T_Table.n_missed (by show 6 < 1000; decide) fun u48 M49 H50 eM51 o52 f53 => ?_
      have o54 : Own (M49 :: B0 :: (sing x0 (.ins C_Table dx0 [("begun", u6), ("lying", u13), ("past", u20), ("spoken", u27), ("hands", u34), ("won", u41), ("missed", u48)])) :: (rest2 [B0] G0) :: []) H50 := o52
      refine s_fldY (fun v => [("begun", u6), ("lying", u13), ("past", u20), ("spoken", u27), ("hands", u34), ("won", u41), ("missed", u48), ("owed", v)]) (fun _ => rfl) o54 (j := 0) rfl (ev_var rfl) (ed_n (T := (tP K tI tI)) ev_c) T_Table.cl T_Table.n_owed (by show 7 < 1000; decide) fun u55 M56 H57 eM58 o59 f60 => ?_
      have o61 : Own (M56 :: B0 :: (sing x0 (.ins C_Table dx0 [("begun", u6), ("lying", u13), ("past", u20), ("spoken", u27), ("hands", u34), ("won", u41), ("missed", u48), ("owed", u55)])) :: (rest2 [B0] G0) :: []) H57 := o59
      exact init_fin (vc_Tabled__initd__none1 deal ho_deal c1) k eB (Own.front o61 (j := 0) rfl) (List.mem_of_getElem? (i := 0) rfl) ⟨_, rfl, (by rw [(vc_Tabled__initd__ret1 deal ho_deal c1)]; exact ⟨x0, dx0, u6, u13, u20, u27, u34, u41, u48, u55, rfl, rfl, (up (Own.uu o61 (Ex.trans eM16 (Ex.trans eM23 (Ex.trans eM30 (Ex.trans eM37 (Ex.trans eM44 (Ex.trans eM51 eM58))))))) f11), (up (Own.uu o61 (Ex.trans eM23 (Ex.trans eM30 (Ex.trans eM37 (Ex.trans eM44 (Ex.trans eM51 eM58)))))) f18), (up (Own.uu o61 (Ex.trans eM30 (Ex.trans eM37 (Ex.trans eM44 (Ex.trans eM51 eM58))))) f25), (up (Own.uu o61 (Ex.trans eM37 (Ex.trans eM44 (Ex.trans eM51 eM58)))) f32), (up (Own.uu o61 (Ex.trans eM44 (Ex.trans eM51 eM58))) f39), (up (Own.uu o61 (Ex.trans eM51 eM58)) f46), (up (Own.uu o61 eM58) f53), f60⟩)⟩
end
section
/-! ### the law's own table: a dict -/
structure TRec where
  rows : List (List (List Int))
  past : List Rdg
  spoken : Option (Int × Int)
  hands : List Hnd
  won : Int × Int
  missed : Int × Int
  owed : Option (Int × Int)
abbrev recK : List Str := ["rows", "past", "spoken", "hands", "won", "missed", "owed"]
def recF (r p s h w m o : V) : List (Key × V) := [(.inr "rows", r), (.inr "past", p), (.inr "spoken", s), (.inr "hands", h), (.inr "won", w), (.inr "missed", m), (.inr "owed", o)]
variable {r p s h w m o : V}
theorem rget_rows : valV (recF r p s h w m o) (.inr "rows") = some r := rfl
theorem rget_past : valV (recF r p s h w m o) (.inr "past") = some p := rfl
theorem rget_spoken : valV (recF r p s h w m o) (.inr "spoken") = some s := rfl
theorem rget_hands : valV (recF r p s h w m o) (.inr "hands") = some h := rfl
theorem rget_won : valV (recF r p s h w m o) (.inr "won") = some w := rfl
theorem rget_missed : valV (recF r p s h w m o) (.inr "missed") = some m := rfl
theorem rget_owed : valV (recF r p s h w m o) (.inr "owed") = some o := rfl
abbrev tRws (K : PySem.W.Frag) : Tp (List (List (List Int))) := tW (tW (tW tI))
def RecO (K : PySem.W.Frag) (x : TRec) (H : Hp) (ob : HO) : Prop := ∃ r p s h w m o, ob = .dK (recF r p s h w m o) ∧ (tRws K).R H r x.rows ∧ (tW (tRdg K)).R H p x.past ∧ (tO (tP K tI tI)).R H s x.spoken ∧ (tW (tHnd K)).R H h x.hands ∧ (tP K tI tI).R H w x.won ∧ (tP K tI tI).R H m x.missed ∧ (tO (tP K tI tI)).R H o x.owed
theorem RecO.up {K : PySem.W.Frag} {x : TRec} {H H' : Hp} {ob : HO} (e : Ex H H') : RecO K x H ob → RecO K x H' ob := fun ⟨r, p, s, h, w, m, o, e1, f1, f2, f3, f4, f5, f6, f7⟩ => ⟨r, p, s, h, w, m, o, e1, Tp.up _ e f1, Tp.up _ e f2, Tp.up _ e f3, Tp.up _ e f4, Tp.up _ e f5, Tp.up _ e f6, Tp.up _ e f7⟩
def tRec (K : PySem.W.Frag) : Tp TRec := ⟨fun H v x => ∃ q ob, v = .ref q ∧ H q = some ob ∧ RecO K x H ob, fun e ⟨q, ob, h1, h2, h3⟩ => ⟨q, ob, h1, e _ _ h2, h3.up e⟩⟩
instance {K : PySem.W.Frag} : NN (tRec K) := ⟨fun ⟨_, _, h, _⟩ z => by cases h; cases z⟩
variable {K : PySem.W.Frag} {x : TRec}
theorem rec_rows : ∀ G v, (tRec K).R G v x → ∃ p kvs u, v = .ref p ∧ G p = some (.dK kvs) ∧ valV kvs (.inr "rows") = some u ∧ (tRws K).R G u x.rows := fun G v ⟨q, ob, h1, h2, r, p, s, h, w, m, o, e, f1, f2, f3, f4, f5, f6, f7⟩ => by subst e; exact ⟨q, _, _, h1, h2, rget_rows, f1⟩
theorem rec_past : ∀ G v, (tRec K).R G v x → ∃ p kvs u, v = .ref p ∧ G p = some (.dK kvs) ∧ valV kvs (.inr "past") = some u ∧ (tW (tRdg K)).R G u x.past := fun G v ⟨q, ob, h1, h2, r, p, s, h, w, m, o, e, f1, f2, f3, f4, f5, f6, f7⟩ => by subst e; exact ⟨q, _, _, h1, h2, rget_past, f2⟩
theorem rec_spoken : ∀ G v, (tRec K).R G v x → ∃ p kvs u, v = .ref p ∧ G p = some (.dK kvs) ∧ valV kvs (.inr "spoken") = some u ∧ (tO (tP K tI tI)).R G u x.spoken := fun G v ⟨q, ob, h1, h2, r, p, s, h, w, m, o, e, f1, f2, f3, f4, f5, f6, f7⟩ => by subst e; exact ⟨q, _, _, h1, h2, rget_spoken, f3⟩
theorem rec_hands : ∀ G v, (tRec K).R G v x → ∃ p kvs u, v = .ref p ∧ G p = some (.dK kvs) ∧ valV kvs (.inr "hands") = some u ∧ (tW (tHnd K)).R G u x.hands := fun G v ⟨q, ob, h1, h2, r, p, s, h, w, m, o, e, f1, f2, f3, f4, f5, f6, f7⟩ => by subst e; exact ⟨q, _, _, h1, h2, rget_hands, f4⟩
theorem rec_won : ∀ G v, (tRec K).R G v x → ∃ p kvs u, v = .ref p ∧ G p = some (.dK kvs) ∧ valV kvs (.inr "won") = some u ∧ (tP K tI tI).R G u x.won := fun G v ⟨q, ob, h1, h2, r, p, s, h, w, m, o, e, f1, f2, f3, f4, f5, f6, f7⟩ => by subst e; exact ⟨q, _, _, h1, h2, rget_won, f5⟩
theorem rec_missed : ∀ G v, (tRec K).R G v x → ∃ p kvs u, v = .ref p ∧ G p = some (.dK kvs) ∧ valV kvs (.inr "missed") = some u ∧ (tP K tI tI).R G u x.missed := fun G v ⟨q, ob, h1, h2, r, p, s, h, w, m, o, e, f1, f2, f3, f4, f5, f6, f7⟩ => by subst e; exact ⟨q, _, _, h1, h2, rget_missed, f6⟩
theorem rec_owed : ∀ G v, (tRec K).R G v x → ∃ p kvs u, v = .ref p ∧ G p = some (.dK kvs) ∧ valV kvs (.inr "owed") = some u ∧ (tO (tP K tI tI)).R G u x.owed := fun G v ⟨q, ob, h1, h2, r, p, s, h, w, m, o, e, f1, f2, f3, f4, f5, f6, f7⟩ => by subst e; exact ⟨q, _, _, h1, h2, rget_owed, f7⟩
theorem rec_mk {x1 : List (List (List Int))} {x2 : List Rdg} {x3 : Option (Int × Int)} {x4 : List Hnd} {x5 x6 : Int × Int} {x7 : Option (Int × Int)} : ∀ (G : Hp) (q : Addr) (vs : List V), vs.length = recK.length → G q = some (.dK (mergeK [] ((recK.map (Sum.inr : Str → Key)).zip vs))) → ArgsR G vs [⟨tRws K, x1⟩, ⟨tW (tRdg K), x2⟩, ⟨tO (tP K tI tI), x3⟩, ⟨tW (tHnd K), x4⟩, ⟨tP K tI tI, x5⟩, ⟨tP K tI tI, x6⟩, ⟨tO (tP K tI tI), x7⟩] → (tRec K).R G (.ref q) ⟨x1, x2, x3, x4, x5, x6, x7⟩ := fun G q vs hl hq ha => by
  match vs, hl with
  | [a, b, c, d, e, f, g], _ =>
    obtain ⟨h1, h2, h3, h4, h5, h6, h7, _⟩ := ha
    refine ⟨q, _, rfl, hq, a, b, c, d, e, f, g, ?_, h1, h2, h3, h4, h5, h6, h7⟩
    rfl
end
section
variable {P : Program} {w : World} {K : PySem.W.Frag} {mg : Str → Option Value} {base : Heap}
/-- the law's own table tells what the table is -/
def TRel (t : TabM) (vs : List (List Str)) (r : TRec) : Prop := t.lying.ls = vs ∧ r.rows = [t.lying.F0, t.lying.F1] ∧ r.past = t.past ∧ r.spoken = t.spoken ∧ r.hands = t.hands ∧ r.won = t.won ∧ r.missed = t.missed ∧ r.owed = t.owed
def opnR (vs : List (List Str)) (r : TRec) : List Int := (rngI (vs.length : Int)).filter fun v => !decide (v ∈ r.past.map fun x => x.a)
def hrdR (vs : List (List Str)) (r : TRec) : List Str := match r.spoken with
  | none => []
  | some p => cutI (getI vs p.1) none (some p.2)
def winR (r : TRec) : Option Int := if r.owed.isNone = true ∧ (getI r.rows 0).flatten = [] then some 0 else if r.owed.isNone = true ∧ (getI r.rows 1).flatten = [] then some 1 else none
def SpkR (vs : List (List Str)) (r : TRec) : Prop := ∀ p, r.spoken = some p → 0 ≤ p.1 ∧ p.1 < (vs.length : Int)
theorem flat_le {l : List (List Int)} {i n : Nat} {y : List Int} (h : l[i]? = some y) (hl : l.flatten.length ≤ n) : ((l.take i).flatten).length + y.length ≤ n := by
  have e : (l.take (i + 1)).flatten = (l.take i).flatten ++ y := by rw [take_succ_of h, List.flatten_append, List.flatten_singleton]
  have e2 : l.flatten = (l.take (i + 1)).flatten ++ (l.drop (i + 1)).flatten := by rw [← List.flatten_append, List.take_append_drop]
  rw [e2, e, List.length_append, List.length_append] at hl
  omega
def RwsR (r : TRec) : Prop := r.rows.length = 2 ∧ ∀ F ∈ r.rows, (F.flatten).length ≤ 40000
abbrev s__law_start : Stmt := topS 60
theorem sc__law_start : FnScope ["_law_rows"] ["_law_rows"] (defScope s__law_start) := ⟨rfl, rfl, rfl, by decide +kernel, rfl, by decide +kernel, by decide +kernel⟩
theorem vc__law_start_ret1 (rows : (List (List (List Int)))) (hl_rows : rows.length ≤ 40000) : ((⟨rows, [], none, [], (0, 0), (0, 0), none⟩ : TRec)) = ((⟨rows, ([] : List (T4 Int (Option Int) Bool Bool)), none, ([] : List (T3 Int Int (T4 Int Int Int Int))), ((0 : Int), (0 : Int)), ((0 : Int), (0 : Int)), none⟩ : TRec)) := by
  rfl
def R__law_start (K : PySem.W.Frag) : Rl := ⟨fun vs H r => ∃ (rows : (List (List (List Int)))), ArgsR H vs [⟨(tW (tW (tW tI))), rows⟩] ∧ r = .ok (fun N v => (tRec K).R N v ((⟨rows, [], none, [], (0, 0), (0, 0), none⟩ : TRec))), fun e ⟨rows, h, h2⟩ => ⟨rows, h.up e, h2⟩⟩
theorem ok__law_start (B : Bt mg)  (D : Df K mg "_law_start" s__law_start ["_law_rows"]) : Ok P w K mg base 1 "_law_start" ["_law_rows"] ((R__law_start K).spB mg) := by
  refine D.ok sc__law_start (fun vs H Q E h => ?_) (fun f cdv A outer s H vs Q E hr h => ?_)
  · obtain ⟨B0, r, _, ⟨rows, ha, _⟩, _⟩ := h
    exact ha.len
  · obtain ⟨B0, r, e0, ⟨rows, ha, rfl⟩, k⟩ := spB_out h
    obtain ⟨v1, rfl, f2⟩ := args1 ha
    have o0 := own_rest e0
    have hl_rows : rows.length ≤ 40000 := len_ofW f2
    refine ⟨_, (pss_one (ps_ret (pe_disp (pps_cons pe_str (pv 0) (pps_cons pe_str (pe_lst pa_nil) (pps_cons pe_str pe_non (pps_cons pe_str (pe_lst pa_nil) (pps_cons pe_str (pe_tup (pa_cons pe_int (pa_cons pe_int pa_nil))) (pps_cons pe_str (pe_tup (pa_cons pe_int (pa_cons pe_int pa_nil))) (pps_cons pe_str pe_non pps_nil))))))) rfl rfl (fun h => nomatch h) (by decide)))), ?_⟩
    exact s_rbS e0 o0 (j := 0) rfl (eb_imp (eb_disp (Own.uh o0) (ks := recK) (evd_cons (T := (tW (tW (tW tI)))) (Own.uh o0) ev_c (ed_of (T := (tW (tW (tW tI)))) (up (Own.ug o0) f2) rfl) (evd_cons (T := (tW (tT4 K tI (tO tI) tB tB))) (Own.uh o0) ev_c (ed_lst (T := (tT4 K tI (tO tI) tB tB)) (l := ([] : List (T4 Int (Option Int) Bool Bool))) (Own.uh o0) ebs_nil (Nat.le_of_ble_eq_true rfl)) (evd_cons (T := (tO (tP K tI tI))) (Own.uh o0) ev_c (ed_n (T := (tP K tI tI)) ev_c) (evd_cons (T := (tW (tT3 K tI tI (tT4 K tI tI tI tI)))) (Own.uh o0) ev_c (ed_lst (T := (tT3 K tI tI (tT4 K tI tI tI tI))) (l := ([] : List (T3 Int Int (T4 Int Int Int Int)))) (Own.uh o0) ebs_nil (Nat.le_of_ble_eq_true rfl)) (evd_cons (T := (tP K tI tI)) (Own.uh o0) ev_c (ed_tup2 (K := K) (Own.uh o0) (ebs_cons (T := tI) (Own.uh o0) (ed_i ev_c) (ebs_cons (T := tI) (Own.uh o0) (ed_i ev_c) ebs_nil))) (evd_cons (T := (tP K tI tI)) (Own.uh o0) ev_c (ed_tup2 (K := K) (Own.uh o0) (ebs_cons (T := tI) (Own.uh o0) (ed_i ev_c) (ebs_cons (T := tI) (Own.uh o0) (ed_i ev_c) ebs_nil))) (evd_cons (T := (tO (tP K tI tI))) (Own.uh o0) ev_c (ed_n (T := (tP K tI tI)) ev_c) evd_nil))))))) (by decide) rec_mk) fun N v h => (by rw [(vc__law_start_ret1 rows hl_rows)]; exact h)) (resB_ok (e := none) rfl k)
abbrev s__law_open : Stmt := topS 61
theorem sc__law_open : FnScope ["_law_verses", "_law_t", "_law_closed", "_law_reading", "_law_verse_here"] ["_law_verses", "_law_t"] (defScope s__law_open) := ⟨rfl, rfl, rfl, by decide +kernel, rfl, by decide +kernel, by decide +kernel⟩
theorem vc__law_open_rng1 (verses : (List (List Str))) (t : TRec) (hl_verses : verses.length ≤ 40000) : -1000000 ≤ ((verses).length : Int) ∧ ((verses).length : Int) ≤ 40000 := by
  omega
theorem vc__law_open_ret1 (verses : (List (List Str))) (t : TRec) (hl_verses : verses.length ≤ 40000) : (opnR verses t) = (((rngI (((verses).length : Int))).filter fun e2 => !decide (e2 ∈ ((t.past).map fun e1 => e1.a))).map fun e2 => e2) := by
  unfold opnR
  rw [List.map_id'' (fun _ => rfl)]
def R__law_open (K : PySem.W.Frag) : Rl := ⟨fun vs H r => ∃ (verses : (List (List Str))) (t : TRec), ArgsR H vs [⟨(tL K (tL K tX)), verses⟩, ⟨(tRec K), t⟩] ∧ r = .ok (fun N v => (tW tI).R N v (opnR verses t)), fun e ⟨verses, t, h, h2⟩ => ⟨verses, t, h.up e, h2⟩⟩
theorem ok__law_open (B : Bt mg)  (D : Df K mg "_law_open" s__law_open ["_law_verses", "_law_t"]) : Ok P w K mg base 1 "_law_open" ["_law_verses", "_law_t"] ((R__law_open K).sp mg) := by
  refine D.ok sc__law_open (fun vs H Q E h => ?_) (fun f cdv A outer s H vs Q E hr h => ?_)
  · obtain ⟨r, ⟨verses, t, ha, _⟩, _⟩ := h
    exact ha.len
  · obtain ⟨r, ⟨verses, t, ha, rfl⟩, k⟩ := h
    obtain ⟨v1, v2, rfl, f3, f4⟩ := args2 ha
    have o0 := Own.init H
    have hl_verses : verses.length ≤ 40000 := len_ofL f3
    refine ⟨_, (pss_cons (ps_set (i := 2) sc__law_open.nd rfl (.inr rfl) (pe_lc (own := [("_law_reading", 3)]) rfl sc__law_open.nd (pi_listK K (pe_dget (hu_of hr) (pv 1) pe_str (fun _ _ => rfl))) (blkOk_by (N := ["_law_verses", "_law_t", "_law_closed", "_law_reading", "_law_verse_here"]) (sc := defScope s__law_open) (by decide +kernel)) (fun _ _ _ _ _ => (pg_name (i := 3) sc__law_open.nd rfl (.inl rfl))) (fun _ _ _ _ _ => pts_nil) (fun _ _ _ _ _ => (pe_ix (ix_seqK K) (pv 3) pe_int (fun _ _ => rfl)))))
      (pss_one (ps_ret (pe_lc (own := [("_law_verse_here", 4)]) rfl sc__law_open.nd (pi_range1 (by rfl) B.range (pa_cons (pe_callB (call_lenK K) (by rfl) B.len boot_b_len (pa_cons (pv 0) pa_nil)) pa_nil)) (blkOk_by (N := ["_law_verses", "_law_t", "_law_closed", "_law_reading", "_law_verse_here"]) (sc := defScope s__law_open) (by decide +kernel)) (fun _ _ _ _ _ => (pg_name (i := 4) sc__law_open.nd rfl (.inl rfl))) (fun _ _ _ _ _ => pts_one (pt_cmpR (op_notinK K (hu65 hr)) (pv 4) (pv 2) (by rfl))) (fun _ _ _ _ _ => (pv 4)))))), ?_⟩
    refine q_b (i := 2) o0 (ed_of_n (Own.e0 o0) (en_flt (en_lcA (S := tI) (Z := fun B y σ σ2 => ∃ z5, σ2 = (σ.set 3 (some z5)) ∧ (tT4 K tI (tO tI) tB tB).R B z5 y) (dr_list (T := (tT4 K tI (tO tI) tB tB)) (ed_to (T := (tW (tT4 K tI (tO tI) tB tB))) (S := (tL K (tT4 K tI (tO tI) tB tB))) (ed_dgetR (ed_of (T := (tRec K)) (up (Own.uh o0) (up (Own.ug o0) f4)) rfl) ev_c (Ex.refl _) rec_past)) (Ex.refl _) (fun G x y H' e hx σ' Q q => by exact q _ ⟨x, rfl, hx⟩)) (Ex.refl _) (fun e1 : (T4 Int (Option Int) Bool Bool) => e1.a) (fun _ _ _ ⟨z5, h0, fz5⟩ => by subst h0; rfl) (fun G6 e1 σ2 H6 eb6 eg6 eh6 hm1 hz6 => by obtain ⟨z5, rfl, fz5⟩ := hz6; exact (ed_i (ev_i (ed_4a (ed_of (T := (tT4 K tI (tO tI) tB tB)) (up eg6 fz5) rfl) (Ex.refl _))))) (fun _ _ _ _ e ⟨z5, h0, fz5⟩ => ⟨z5, h0, up e fz5⟩)))) fun v8 M9 H10 eM11 o12 f13 => ?_
    exact s_rb o12 (eb_imp (ed_of_n (Own.e0 o12) (en_flt (en_lc (S := tI) (Z := fun B y σ σ2 => ∃ v, σ2 = σ.set 4 (some v) ∧ tI.R B v y) (dr_rng (n := ((verses).length : Int)) (ev_lenB (T := (tL K tX)) (ed_of (T := (tL K (tL K tX))) (up (Own.uu o12 eM11) (up (Own.ug o0) f3)) rfl) (Own.uh o12)) (vc__law_open_rng1 verses t hl_verses) fun _ y _ _ _ q => q _ ⟨_, rfl, rfl⟩) (Ex.refl _) (fun e2 : Int => !decide (e2 ∈ ((t.past).map fun e1 => e1.a))) (fun e2 : Int => e2) (fun _ _ _ ⟨v, h0, fv⟩ => by subst h0; rfl) (fun G14 e2 σ2 H14 eb14 eg14 eh14 hm2 hz14 => by obtain ⟨v, rfl, fv⟩ := hz14; obtain rfl : v = (.int (e2)) := fv; exact (et_test (ev_niB (T := tI) (ed_i (ev_var rfl)) (ed_to (T := (tW tI)) (S := (tL K tI)) (ed_of (T := (tW tI)) (up eh14 (up (Own.e0 o12) f13)) rfl)) (Ex.refl _)))) (fun G14 e2 σ2 H14 eb14 eg14 eh14 hm2 hf2 hz14 => by obtain ⟨v, rfl, fv⟩ := hz14; obtain rfl : v = (.int (e2)) := fv; exact (ed_i (ev_var rfl))) (fun _ _ _ _ e ⟨v, h0, fv⟩ => ⟨v, h0, up e fv⟩)))) fun N v h => (by rw [(vc__law_open_ret1 verses t hl_verses)]; exact h)) k
abbrev s__law_heard_now : Stmt := topS 62
theorem sc__law_heard_now : FnScope ["_law_verses", "_law_t"] ["_law_verses", "_law_t"] (defScope s__law_heard_now) := ⟨rfl, rfl, rfl, by decide +kernel, rfl, by decide +kernel, by decide +kernel⟩
theorem vc__law_heard_now_ret1 (verses : (List (List Str))) (t : TRec) (hp1 : SpkR verses t) (hl_verses : verses.length ≤ 40000) (c1 : t.spoken.isNone = true) : (hrdR verses t) = (([] : List Str)) := by
  unfold hrdR
  rw [none_of c1]
theorem vc__law_heard_now_some1 (verses : (List (List Str))) (t : TRec) (hp1 : SpkR verses t) (hl_verses : verses.length ≤ 40000) (c1 : t.spoken.isNone = false) : (t.spoken).isSome = true := by
  exact nn_some c1
theorem vc__law_heard_now_ix1 (verses : (List (List Str))) (t : TRec) (hp1 : SpkR verses t) (hl_verses : verses.length ≤ 40000) (c1 : t.spoken.isNone = false) : -((verses).length : Int) ≤ ((t.spoken).getD default).1 ∧ ((t.spoken).getD default).1 < (verses).length := by
  have := hp1 _ (getD_some (nn_some c1))
  omega
theorem vc__law_heard_now_some2 (verses : (List (List Str))) (t : TRec) (hp1 : SpkR verses t) (hl_verses : verses.length ≤ 40000) (c1 : t.spoken.isNone = false) : (t.spoken).isSome = true := by
  exact nn_some c1
theorem vc__law_heard_now_ret2 (verses : (List (List Str))) (t : TRec) (hp1 : SpkR verses t) (hl_verses : verses.length ≤ 40000) (c1 : t.spoken.isNone = false) : (hrdR verses t) = (cutI (getI verses (((t.spoken).getD default).1)) none (some (((t.spoken).getD default).2))) := by
  have e := getD_some (nn_some c1)
  unfold hrdR
  rw [e]
  rfl
def R__law_heard_now (K : PySem.W.Frag) : Rl := ⟨fun vs H r => ∃ (verses : (List (List Str))) (t : TRec), ArgsR H vs [⟨(tL K (tL K tX)), verses⟩, ⟨(tRec K), t⟩] ∧ (SpkR verses t) ∧ r = .ok (fun N v => (tW tX).R N v (hrdR verses t)), fun e ⟨verses, t, h, h2⟩ => ⟨verses, t, h.up e, h2⟩⟩
theorem ok__law_heard_now (B : Bt mg)  (D : Df K mg "_law_heard_now" s__law_heard_now ["_law_verses", "_law_t"]) : Ok P w K mg base 1 "_law_heard_now" ["_law_verses", "_law_t"] ((R__law_heard_now K).spB mg) := by
  refine D.ok sc__law_heard_now (fun vs H Q E h => ?_) (fun f cdv A outer s H vs Q E hr h => ?_)
  · obtain ⟨B0, r, _, ⟨verses, t, ha, _⟩, _⟩ := h
    exact ha.len
  · obtain ⟨B0, r, e0, ⟨verses, t, ha, hp1, rfl⟩, k⟩ := spB_out h
    obtain ⟨v1, v2, rfl, f3, f4⟩ := args2 ha
    have o0 := own_rest e0
    have hl_verses : verses.length ≤ 40000 := len_ofL f3
    refine ⟨_, (pss_cons (ps_if (pt_cmpR op_isN (pe_dget (hu_of hr) (pv 1) pe_str (fun _ _ => rfl)) pe_non (nomark _))
        (pss_one (ps_ret (pe_lst pa_nil)))
        pss_nil)
      (pss_one (ps_ret (pe_slice (sl_K K) (pe_ix (ix_seqK K) (pv 0) (pe_ix (ix_seqK K) (pe_dget (hu_of hr) (pv 1) pe_str (fun _ _ => rfl)) pe_int (fun _ _ => rfl)) (fun _ _ => rfl)) po_none (po_some (pe_ix (ix_seqK K) (pe_dget (hu_of hr) (pv 1) pe_str (fun _ _ => rfl)) pe_int (fun _ _ => rfl))))))), ?_⟩
    refine q_wh o0 (et_test (ev_isnB (B := (uni B0 emp)) (ed_dgetR (ed_of (T := (tRec K)) (up (Own.ug o0) f4) rfl) ev_c (Own.uh o0) rec_spoken))) (fun c1 H5 o6 => ?_) (fun c1 H5 o6 => ?_)
    · skip
      exact s_rbS e0 o6 (j := 0) rfl (eb_imp (ed_lst (T := tX) (l := ([] : List Str)) (Own.uh o6) ebs_nil (Nat.le_of_ble_eq_true rfl)) fun N v h => (by rw [(vc__law_heard_now_ret1 verses t hp1 hl_verses c1)]; exact h)) (resB_ok (e := none) rfl k)
    · skip
      exact s_rbS e0 o6 (j := 0) rfl (eb_imp (ed_slF (B := (uni B0 emp)) (ed_ixG (ed_of (T := (tL K (tL K tX))) (up (Own.ug o0) f3) rfl) (ev_i (ed_2a (ed_get (vc__law_heard_now_some1 verses t hp1 hl_verses c1) (ed_dgetR (ed_of (T := (tRec K)) (up (Own.ug o0) f4) rfl) ev_c (Own.uh o6) rec_spoken)) (Own.uh o6))) (vc__law_heard_now_ix1 verses t hp1 hl_verses c1) (Own.uh o6)) eo_none (eo_some (ev_i (ed_2b (ed_get (vc__law_heard_now_some2 verses t hp1 hl_verses c1) (ed_dgetR (ed_of (T := (tRec K)) (up (Own.ug o0) f4) rfl) ev_c (Own.uh o6) rec_spoken)) (Own.uh o6)))) (Own.uh o6)) fun N v h => (by rw [(vc__law_heard_now_ret2 verses t hp1 hl_verses c1)]; exact h)) (resB_ok (e := none) rfl k)
abbrev s__law_cards : Stmt := topS 59
theorem sc__law_cards : FnScope ["_law_rows", "_law_field", "_law_found", "_law_row"] ["_law_rows", "_law_field"] (defScope s__law_cards) := ⟨rfl, rfl, rfl, by decide +kernel, rfl, by decide +kernel, by decide +kernel⟩
theorem vc__law_cards_ix1 (rows : (List (List (List Int)))) (field : Int) (hp1 : (0 ≤ field ∧ field < (rows.length : Int))) (hp2 : ((getI rows field).flatten).length ≤ 40000) (hl_rows : rows.length ≤ 40000) : -((rows).length : Int) ≤ field ∧ field < (rows).length := by
  omega
theorem vc__law_cards_inv1i1 (rows : (List (List (List Int)))) (field : Int) (hp1 : (0 ≤ field ∧ field < (rows.length : Int))) (hp2 : ((getI rows field).flatten).length ≤ 40000) (hl_rows : rows.length ≤ 40000) : (([] : List Int)) = ((getI rows field).take 0).flatten := by
  rfl
theorem vc__law_cards_cat1 (rows : (List (List (List Int)))) (field : Int) (found_1 : (List Int)) (ix1 : Nat) (y1 : (List Int)) (hp1 : (0 ≤ field ∧ field < (rows.length : Int))) (hp2 : ((getI rows field).flatten).length ≤ 40000) (hl_rows : rows.length ≤ 40000) (hj1_1 : found_1 = ((getI rows field).take ix1).flatten) (hi1 : (getI rows field)[ix1]? = some y1) : (found_1).length + (y1).length ≤ 40000 := by
  rw [hj1_1]
  exact flat_le hi1 hp2
theorem vc__law_cards_inv1s1 (rows : (List (List (List Int)))) (field : Int) (found_1 : (List Int)) (ix1 : Nat) (y1 : (List Int)) (hp1 : (0 ≤ field ∧ field < (rows.length : Int))) (hp2 : ((getI rows field).flatten).length ≤ 40000) (hl_rows : rows.length ≤ 40000) (hj1_1 : found_1 = ((getI rows field).take ix1).flatten) (hi1 : (getI rows field)[ix1]? = some y1) : (found_1 ++ y1) = ((getI rows field).take (ix1 + 1)).flatten := by
  rw [hj1_1, take_succ_of hi1, List.flatten_append, List.flatten_singleton]
theorem vc__law_cards_ret1 (rows : (List (List (List Int)))) (field : Int) (found_1 : (List Int)) (hp1 : (0 ≤ field ∧ field < (rows.length : Int))) (hp2 : ((getI rows field).flatten).length ≤ 40000) (hl_rows : rows.length ≤ 40000) (hj1_1 : found_1 = ((getI rows field).take ((getI rows field).length)).flatten) : ((getI rows field).flatten) = (found_1) := by
  rw [hj1_1, List.take_length]
def R__law_cards (K : PySem.W.Frag) : Rl := ⟨fun vs H r => ∃ (rows : (List (List (List Int)))) (field : Int), ArgsR H vs [⟨(tW (tW (tW tI))), rows⟩, ⟨tI, field⟩] ∧ ((0 ≤ field ∧ field < (rows.length : Int))) ∧ (((getI rows field).flatten).length ≤ 40000) ∧ r = .ok (fun N v => (tW tI).R N v ((getI rows field).flatten)), fun e ⟨rows, field, h, h2⟩ => ⟨rows, field, h.up e, h2⟩⟩
theorem ok__law_cards (B : Bt mg)  (D : Df K mg "_law_cards" s__law_cards ["_law_rows", "_law_field"]) : Ok P w K mg base 1 "_law_cards" ["_law_rows", "_law_field"] ((R__law_cards K).sp mg) := by
  refine D.ok sc__law_cards (fun vs H Q E h => ?_) (fun f cdv A outer s H vs Q E hr h => ?_)
  · obtain ⟨r, ⟨rows, field, ha, _⟩, _⟩ := h
    exact ha.len
  · obtain ⟨r, ⟨rows, field, ha, hp1, hp2, rfl⟩, k⟩ := h
    obtain ⟨v1, v2, rfl, f3, f4⟩ := args2 ha
    have o0 := Own.init H
    have hl_rows : rows.length ≤ 40000 := len_ofW f3
    obtain rfl : v2 = (.int (field)) := f4
    refine ⟨_, (pss_cons (ps_set (i := 2) sc__law_cards.nd rfl (.inl rfl) (pe_lst pa_nil))
      (pss_cons (ps_for (passes_of rfl) rfl (pi_listK K (pe_ix (ix_seqK K) (pv 0) (pv 1) (fun _ _ => rfl))) (pg_name (i := 3) sc__law_cards.nd rfl (.inl rfl))
        (pss_one (ps_set (i := 2) sc__law_cards.nd rfl (.inl rfl) (pe_op (op_addK K) (pv 2) (pv 3)))))
      (pss_one (ps_ret (pv 2))))), ?_⟩
    refine q_b (i := 2) o0 (ed_lst (T := tI) (l := ([] : List Int)) (Own.e0 o0) ebs_nil (Nat.le_of_ble_eq_true rfl)) fun v5 M6 H7 eM8 o9 f10 => ?_
    refine q_fu (Z := fun B y σ σ2 => ∃ z11, σ2 = (σ.set 3 (some z11)) ∧ (tW tI).R B z11 y) o9 (dr_list (T := (tW tI)) (ed_to (T := (tW (tW tI))) (S := (tL K (tW tI))) (ed_ixG (ed_to (T := (tW (tW (tW tI)))) (S := (tL K (tW (tW tI)))) (ed_of (T := (tW (tW (tW tI)))) (up (Own.uu o9 eM8) (up (Own.ug o0) f3)) rfl)) (ev_var rfl) (vc__law_cards_ix1 rows field hp1 hp2 hl_rows) (Own.uh o9))) (Own.uh o9) (fun G x y H' e hx σ' Q q => by exact q _ ⟨x, rfl, hx⟩)) (fun Mx ix σ' H' => ∃ (M12 : Hp) (g15 : Option V) (v16 : V) (found_1 : (List Int)), (σ' = [some v1, some (.int (field)), some v16, g15]) ∧ (Ex Mx M12) ∧ (Own (M12 :: H :: []) H') ∧ ((tW tI).R M12 v16 found_1) ∧ (found_1 = ((getI rows field).take ix).flatten)) (fun M1_1 H1 eM1_1 o1 => ?_) (fun M1_1 ix σ' H' eM1_1 ⟨M12, g15, v16, found_1, _, eM14, o13, _, _⟩ => ?_) ?_ ?_
    · exact ⟨M1_1, _, _, (([] : List Int)), rfl, Ex.refl _, o1, (up eM1_1 f10), (vc__law_cards_inv1i1 rows field hp1 hp2 hl_rows)⟩
    · exact ((Own.uu o13 eM14).trans (Own.uh o13))
    · rintro M1_1 ix1 y1 σ' H' H'' σ2 eM1_1 hi1 ⟨M12, g15, v16, found_1, rfl, eM14, o13, f17, hj1_1⟩ eH18 ⟨z20, rfl, f21⟩
      have o19 := Own.mono eH18 o13
      refine s_b (i := 2) o19 (ed_catF (B := (uni H M12)) (ed_of (T := (tW tI)) (up uni_r f17) rfl) (ed_of (T := (tW tI)) (up (Own.uu o19 eM14) f21) rfl) (Own.uh o19) (vc__law_cards_cat1 rows field found_1 ix1 y1 hp1 hp2 hl_rows hj1_1 hi1)) fun v22 M23 H24 eM25 o26 f27 => ?_
      exact ⟨M23, _, _, (found_1 ++ y1), rfl, (Ex.trans eM14 eM25), o26, f27, (vc__law_cards_inv1s1 rows field found_1 ix1 y1 hp1 hp2 hl_rows hj1_1 hi1)⟩
    · rintro M1_1 σ' H' eM1_1 ⟨M12, g15, v16, found_1, rfl, eM14, o13, f17, hj1_1⟩
      exact s_rb o13 (eb_imp (ed_of (T := (tW tI)) f17 rfl) fun N v h => (by rw [(vc__law_cards_ret1 rows field found_1 hp1 hp2 hl_rows hj1_1)]; exact h)) k
abbrev s__law_winner : Stmt := topS 63
theorem sc__law_winner : FnScope ["_law_t", "_law_side"] ["_law_t"] (defScope s__law_winner) := ⟨rfl, rfl, rfl, by decide +kernel, rfl, by decide +kernel, by decide +kernel⟩
theorem vc__law_winner_rng1 (t : TRec) (hp1 : RwsR t) : -1000000 ≤ (2 : Int) ∧ (2 : Int) ≤ 40000 := by
  decide
theorem vc__law_winner_inv1i1 (t : TRec) (hp1 : RwsR t) : ∀ i ∈ (rngI (2 : Int)).take 0, ¬(t.owed.isNone = true ∧ (getI t.rows i).flatten = []) := by
  exact fun _ h => nomatch h
theorem vc__law_winner_pre_cards1 (t : TRec) (ix1 : Nat) (y1 : Int) (hp1 : RwsR t) (hj1_1 : ∀ i ∈ (rngI (2 : Int)).take ix1, ¬(t.owed.isNone = true ∧ (getI t.rows i).flatten = [])) (hi1 : (rngI (2 : Int))[ix1]? = some y1) (hc11 : t.owed.isNone = true) : (0 ≤ (y1) ∧ (y1) < ((t.rows).length : Int)) := by
  have hw := hp1
  unfold RwsR at hw
  have hy := rngI_get.mp hi1
  rw [hw.1]
  omega
theorem vc__law_winner_pre_cards2 (t : TRec) (ix1 : Nat) (y1 : Int) (hp1 : RwsR t) (hj1_1 : ∀ i ∈ (rngI (2 : Int)).take ix1, ¬(t.owed.isNone = true ∧ (getI t.rows i).flatten = [])) (hi1 : (rngI (2 : Int))[ix1]? = some y1) (hc11 : t.owed.isNone = true) : ((getI (t.rows) (y1)).flatten).length ≤ 40000 := by
  have hw := hp1
  unfold RwsR at hw
  have hy := rngI_get.mp hi1
  exact hw.2 _ (getI_mem (by rw [hw.1]; omega))
theorem vc__law_winner_ret1 (t : TRec) (ix1 : Nat) (y1 : Int) (hp1 : RwsR t) (hj1_1 : ∀ i ∈ (rngI (2 : Int)).take ix1, ¬(t.owed.isNone = true ∧ (getI t.rows i).flatten = [])) (hi1 : (rngI (2 : Int))[ix1]? = some y1) (c1 : ((t.owed.isNone && (decide (((getI (t.rows) (y1)).flatten) = (([] : List Int)))))) = true) : (winR t) = (some (y1)) := by
  have hy := rngI_get.mp hi1
  simp only [Bool.and_eq_true, decide_eq_true_eq] at c1
  unfold winR
  rcases (show ix1 = 0 ∨ ix1 = 1 by omega) with e | e <;> subst e
  · have ey : y1 = 0 := by omega
    rw [ey] at c1 ⊢
    rw [if_pos c1]
  · have ey : y1 = 1 := by omega
    rw [ey] at c1 ⊢
    rw [if_neg (hj1_1 0 (by decide)), if_pos c1]
theorem vc__law_winner_inv1s1 (t : TRec) (ix1 : Nat) (y1 : Int) (hp1 : RwsR t) (hj1_1 : ∀ i ∈ (rngI (2 : Int)).take ix1, ¬(t.owed.isNone = true ∧ (getI t.rows i).flatten = [])) (hi1 : (rngI (2 : Int))[ix1]? = some y1) (c1 : ((t.owed.isNone && (decide (((getI (t.rows) (y1)).flatten) = (([] : List Int)))))) = false) : ∀ i ∈ (rngI (2 : Int)).take (ix1 + 1), ¬(t.owed.isNone = true ∧ (getI t.rows i).flatten = []) := by
  rw [take_succ_of hi1]
  intro i hi
  rcases List.mem_append.mp hi with z | z
  · exact hj1_1 i z
  · rw [List.mem_singleton.mp z]
    intro q
    simp only [Bool.and_eq_false_iff, decide_eq_false_iff_not] at c1
    rcases c1 with c | c
    · rw [q.1] at c; cases c
    · exact c q.2
theorem vc__law_winner_ret2 (t : TRec) (hp1 : RwsR t) (hj1_1 : ∀ i ∈ (rngI (2 : Int)).take ((rngI (2 : Int)).length), ¬(t.owed.isNone = true ∧ (getI t.rows i).flatten = [])) : (winR t) = (none) := by
  unfold winR
  rw [if_neg (hj1_1 0 (by decide)), if_neg (hj1_1 1 (by decide))]
def R__law_winner (K : PySem.W.Frag) : Rl := ⟨fun vs H r => ∃ (t : TRec), ArgsR H vs [⟨(tRec K), t⟩] ∧ (RwsR t) ∧ r = .ok (fun N v => (tO tI).R N v (winR t)), fun e ⟨t, h, h2⟩ => ⟨t, h.up e, h2⟩⟩
theorem ok__law_winner (B : Bt mg) (O__law_cards : Ok P w K mg base 1 "_law_cards" ["_law_rows", "_law_field"] ((R__law_cards K).sp mg)) (D : Df K mg "_law_winner" s__law_winner ["_law_t"]) : Ok P w K mg base 2 "_law_winner" ["_law_t"] ((R__law_winner K).sp mg) := by
  refine D.ok sc__law_winner (fun vs H Q E h => ?_) (fun f cdv A outer s H vs Q E hr h => ?_)
  · obtain ⟨r, ⟨t, ha, _⟩, _⟩ := h
    exact ha.len
  · obtain ⟨r, ⟨t, ha, hp1, rfl⟩, k⟩ := h
    obtain ⟨v1, rfl, f2⟩ := args1 ha
    have o0 := Own.init H
    refine ⟨_, (pss_cons (ps_for (passes_of rfl) rfl (pi_range1 (by rfl) B.range (pa_cons pe_int pa_nil)) (pg_name (i := 1) sc__law_winner.nd rfl (.inl rfl))
        (pss_one (ps_if (PW.pt (pw_and (pt_cmpR op_isN (pe_dget (hu_of hr) (pv 0) pe_str (fun _ _ => rfl)) pe_non (nomark _)) (pw_and1 (pt_cmpR (op_eqK K (hu65 hr)) (pe_callO O__law_cards (hr.mono (by omega)) (by rfl) (takes_of rfl rfl rfl rfl) (pa_cons (pe_dget (hu_of hr) (pv 0) pe_str (fun _ _ => rfl)) (pa_cons (pv 1) pa_nil))) (pe_lst pa_nil) (nomark _)))))
          (pss_one (ps_ret (pv 1)))
          pss_nil)))
      (pss_one (ps_ret pe_non))), ?_⟩
    refine q_fo (Z := fun B y σ σ2 => ∃ v, σ2 = σ.set 1 (some v) ∧ tI.R B v y) o0 (dr_rng (n := (2 : Int)) ev_c (vc__law_winner_rng1 t hp1) fun _ y _ _ _ q => q _ ⟨_, rfl, rfl⟩) (fun Mx ix σ' H' => ∃ (M3 : Hp) (g6 : Option V), (σ' = [some v1, g6]) ∧ (Ex Mx M3) ∧ (Own (M3 :: H :: []) H') ∧ (∀ i ∈ (rngI (2 : Int)).take ix, ¬(t.owed.isNone = true ∧ (getI t.rows i).flatten = []))) (fun M1_1 H1 eM1_1 o1 => ?_) (fun M1_1 ix σ' H' eM1_1 ⟨M3, g6, _, eM5, o4, _⟩ => ?_) ?_ ?_
    · exact ⟨M1_1, _, rfl, Ex.refl _, o1, (vc__law_winner_inv1i1 t hp1)⟩
    · exact (eM5.trans (Own.e0 o4))
    · rintro M1_1 ix1 y1 σ' H' H'' σ2 eM1_1 hi1 ⟨M3, g6, rfl, eM5, o4, hj1_1⟩ eH7 ⟨z9, rfl, f10⟩
      have o8 := Own.mono eH7 o4
      obtain rfl : z9 = (.int (y1)) := f10
      refine s_wh o8 (et_and (et_test (ev_isnB (B := (uni H M3)) (ed_dgetR (ed_of (T := (tRec K)) (up (Own.uu o8 (Ex.trans eM1_1 eM5)) (up (Own.ug o0) f2)) rfl) ev_c (Own.uh o8) rec_owed))) fun hc11 => (et_test (ev_eqB (T := (tW tI)) (ed_p (T := (tW tI)) (ep_callB (S := (R__law_cards K)) (Ex.refl _) (ebs_cons (T := (tW (tW (tW tI)))) (Ex.refl _) (ed_dgetR (ed_of (T := (tRec K)) (up (Own.uh o8) (up (Own.uu o8 (Ex.trans eM1_1 eM5)) (up (Own.ug o0) f2))) rfl) ev_c (Ex.refl _) rec_rows) (ebs_cons (T := tI) (Ex.refl _) (ed_i (ev_var rfl)) ebs_nil)) (fun vs G ha => ⟨(t.rows), (y1), ha, (vc__law_winner_pre_cards1 t ix1 y1 hp1 hj1_1 hi1 hc11), (vc__law_winner_pre_cards2 t ix1 y1 hp1 hj1_1 hi1 hc11), rfl⟩)) (Own.e0 o8) (fun _ _ h => h)) (ed_lst (T := tI) (l := ([] : List Int)) (Own.e0 o8) ebs_nil (Nat.le_of_ble_eq_true rfl)) (Own.e0 o8)))) (fun c1 H12 o13 => ?_) (fun c1 H12 o13 => ?_)
      · skip
        exact s_rv' o13 (ev_var rfl) k (by rw [(vc__law_winner_ret1 t ix1 y1 hp1 hj1_1 hi1 c1)]; exact ⟨rfl, NN.nn (T := tI) (H := emp) rfl⟩)
      · skip
        exact ⟨M3, _, rfl, eM5, o13, (vc__law_winner_inv1s1 t ix1 y1 hp1 hj1_1 hi1 c1)⟩
    · rintro M1_1 σ' H' eM1_1 ⟨M3, g6, rfl, eM5, o4, hj1_1⟩
      exact s_rb o4 (eb_imp (ed_n (T := tI) ev_c) fun N v h => (by rw [(vc__law_winner_ret2 t hp1 hj1_1)]; exact h)) k
theorem row_getT {ls : List (List Str)} {i : Int} (h : 0 ≤ i ∧ i < (ls.length : Int)) : row1 ls i.toNat = getI ls i := by
  have e2 := row1_get (ls := ls) (i := i.toNat) (by omega)
  rw [getI_nat h.1, List.getD_eq_getElem?_getD, e2]
  rfl
theorem TRel.win {t : TabM} {vs : List (List Str)} {r : TRec} (h : TRel t vs r) : winM t = winR r := by
  obtain ⟨h1, h2, _, _, _, _, _, h8⟩ := h
  unfold winM winR
  rw [h2, h8]
  show _ = if t.owed.isNone = true ∧ t.lying.F0.flatten = [] then some 0 else if t.owed.isNone = true ∧ t.lying.F1.flatten = [] then some 1 else none
  have e0 : cardsI t.lying 0 = t.lying.F0.flatten := rfl
  have e1 : cardsI t.lying 1 = t.lying.F1.flatten := rfl
  rw [e0, e1]
  by_cases q : t.owed.isNone = true
  · rw [if_pos q]
    by_cases a : t.lying.F0.flatten = [] <;> by_cases b : t.lying.F1.flatten = [] <;> simp [a, b, q]
  · rw [if_neg q, if_neg (fun z => q z.1), if_neg (fun z => q z.1)]
theorem TRel.hrd {t : TabM} {vs : List (List Str)} {r : TRec} (h : TRel t vs r) (hs : TabS t) : hrdM t = hrdR vs r := by
  obtain ⟨h1, h2, _, h4, _⟩ := h
  unfold hrdM hrdR
  rw [h4, ← h1]
  cases q : t.spoken with
  | none => rfl
  | some p =>
    have := hs p q
    show cutI (row1 t.lying.ls p.1.toNat) none (some p.2) = cutI (getI t.lying.ls p.1) none (some p.2)
    rw [row_getT this.1]
theorem TRel.unr {t : TabM} {vs : List (List Str)} {r : TRec} (h : TRel t vs r) : unrM t = opnR vs r := by
  obtain ⟨h1, h2, h3, _⟩ := h
  unfold unrM opnR
  rw [h1, h3]
theorem TRel.rws {t : TabM} {vs : List (List Str)} {r : TRec} (h : TRel t vs r) (hd : dealM t.lying.ls.length t.lying.F0 t.lying.F1 = true) : RwsR r := by
  obtain ⟨h1, h2, _⟩ := h
  unfold RwsR
  rw [h2]
  refine ⟨rfl, fun F hF => ?_⟩
  rcases List.mem_cons.mp hF with z | z
  · rw [z]; exact cards40 hd 0
  · rw [List.mem_singleton.mp z]; exact cards40 hd 1
theorem TRel.spk {t : TabM} {vs : List (List Str)} {r : TRec} (h : TRel t vs r) (hs : TabS t) : SpkR vs r := by
  obtain ⟨h1, _, _, h4, _⟩ := h
  intro p hp
  rw [h4] at hp
  rw [← h1]
  exact (hs p hp).1
abbrev s__law_t_told : Stmt := topS 64
theorem sc__law_t_told : FnScope ["_law_table", "_law_verses", "_law_t", "_law_deal", "_law_under"] ["_law_table", "_law_verses", "_law_t"] (defScope s__law_t_told) := ⟨rfl, rfl, rfl, by decide +kernel, rfl, by decide +kernel, by decide +kernel⟩
theorem vc__law_t_told_pre_Deal_rows1 (tb : TabM) (verses : (List (List Str))) (t : TRec) (hp1 : TRel tb verses t) (hp2 : TabS tb) (ho_t : TabD tb ∧ tb.past.length ≤ 40000 ∧ tb.hands.length ≤ 40000) (hl_verses : verses.length ≤ 40000) : (fieldM ((tb).lying).F0 ((tb).lying).F1 (0 : Int)).length ≤ 1000 ∧ ∀ l ∈ fieldM ((tb).lying).F0 ((tb).lying).F1 (0 : Int), l.length ≤ 1000 := by
  have hd := ho_t.1.2.1
  exact fieldM_le hd _
theorem vc__law_t_told_safe1 (tb : TabM) (verses : (List (List Str))) (t : TRec) (hp1 : TRel tb verses t) (hp2 : TabS tb) (ho_t : TabD tb ∧ tb.past.length ≤ 40000 ∧ tb.hands.length ≤ 40000) (hl_verses : verses.length ≤ 40000) : fldErr (0 : Int) = none := by
  rfl
theorem vc__law_t_told_ix1 (tb : TabM) (verses : (List (List Str))) (t : TRec) (hp1 : TRel tb verses t) (hp2 : TabS tb) (ho_t : TabD tb ∧ tb.past.length ≤ 40000 ∧ tb.hands.length ≤ 40000) (hl_verses : verses.length ≤ 40000) : -((t.rows).length : Int) ≤ (0 : Int) ∧ (0 : Int) < (t.rows).length := by
  obtain ⟨g1, g2, g3, g4, g5, g6, g7, g8⟩ := hp1
  rw [g2]
  simp only [List.length_cons, List.length_nil]
  omega
theorem vc__law_t_told_pre_same1 (tb : TabM) (verses : (List (List Str))) (t : TRec) (hp1 : TRel tb verses t) (hp2 : TabS tb) (ho_t : TabD tb ∧ tb.past.length ≤ 40000 ∧ tb.hands.length ≤ 40000) (hl_verses : verses.length ≤ 40000) : (fieldM ((tb).lying).F0 ((tb).lying).F1 (0 : Int)) = (getI t.rows (0 : Int)) := by
  obtain ⟨g1, g2, g3, g4, g5, g6, g7, g8⟩ := hp1
  rw [g2]
  rfl
theorem vc__law_t_told_pre_Deal_rows2 (tb : TabM) (verses : (List (List Str))) (t : TRec) (hp1 : TRel tb verses t) (hp2 : TabS tb) (ho_t : TabD tb ∧ tb.past.length ≤ 40000 ∧ tb.hands.length ≤ 40000) (hl_verses : verses.length ≤ 40000) (hc11 : (!true) = false) : (fieldM ((tb).lying).F0 ((tb).lying).F1 (1 : Int)).length ≤ 1000 ∧ ∀ l ∈ fieldM ((tb).lying).F0 ((tb).lying).F1 (1 : Int), l.length ≤ 1000 := by
  have hd := ho_t.1.2.1
  exact fieldM_le hd _
theorem vc__law_t_told_safe2 (tb : TabM) (verses : (List (List Str))) (t : TRec) (hp1 : TRel tb verses t) (hp2 : TabS tb) (ho_t : TabD tb ∧ tb.past.length ≤ 40000 ∧ tb.hands.length ≤ 40000) (hl_verses : verses.length ≤ 40000) (hc11 : (!true) = false) : fldErr (1 : Int) = none := by
  rfl
theorem vc__law_t_told_ix2 (tb : TabM) (verses : (List (List Str))) (t : TRec) (hp1 : TRel tb verses t) (hp2 : TabS tb) (ho_t : TabD tb ∧ tb.past.length ≤ 40000 ∧ tb.hands.length ≤ 40000) (hl_verses : verses.length ≤ 40000) (hc11 : (!true) = false) : -((t.rows).length : Int) ≤ (1 : Int) ∧ (1 : Int) < (t.rows).length := by
  obtain ⟨g1, g2, g3, g4, g5, g6, g7, g8⟩ := hp1
  rw [g2]
  simp only [List.length_cons, List.length_nil]
  omega
theorem vc__law_t_told_pre_same2 (tb : TabM) (verses : (List (List Str))) (t : TRec) (hp1 : TRel tb verses t) (hp2 : TabS tb) (ho_t : TabD tb ∧ tb.past.length ≤ 40000 ∧ tb.hands.length ≤ 40000) (hl_verses : verses.length ≤ 40000) (hc11 : (!true) = false) : (fieldM ((tb).lying).F0 ((tb).lying).F1 (1 : Int)) = (getI t.rows (1 : Int)) := by
  obtain ⟨g1, g2, g3, g4, g5, g6, g7, g8⟩ := hp1
  rw [g2]
  rfl
theorem vc__law_t_told_never1 (tb : TabM) (verses : (List (List Str))) (t : TRec) (hp1 : TRel tb verses t) (hp2 : TabS tb) (ho_t : TabD tb ∧ tb.past.length ≤ 40000 ∧ tb.hands.length ≤ 40000) (hl_verses : verses.length ≤ 40000) (c1 : (((!true) || (!true))) = true) : False := by
  first
  | simp_all
  | omega
theorem vc__law_t_told_some1 (tb : TabM) (verses : (List (List Str))) (t : TRec) (hp1 : TRel tb verses t) (hp2 : TabS tb) (ho_t : TabD tb ∧ tb.past.length ≤ 40000 ∧ tb.hands.length ≤ 40000) (hl_verses : verses.length ≤ 40000) (c1 : (((!true) || (!true))) = false) (hc14 : t.spoken.isNone = false) : (t.spoken).isSome = true := by
  exact nn_some (by assumption)
theorem vc__law_t_told_pre_same3 (tb : TabM) (verses : (List (List Str))) (t : TRec) (under_a1 : (Option Int)) (hp1 : TRel tb verses t) (hp2 : TabS tb) (ho_t : TabD tb ∧ tb.past.length ≤ 40000 ∧ tb.hands.length ≤ 40000) (hl_verses : verses.length ≤ 40000) (c1 : (((!true) || (!true))) = false) (ha1 : under_a1 = if t.spoken.isNone = true then none else some (((t.spoken).getD default).1)) : (undM (tb)) = under_a1 := by
  obtain ⟨g1, g2, g3, g4, g5, g6, g7, g8⟩ := hp1
  rw [ha1, g4]
  unfold undM
  cases tb.spoken <;> rfl
theorem vc__law_t_told_pre_Table_heard1 (tb : TabM) (verses : (List (List Str))) (t : TRec) (under_a1 : (Option Int)) (hp1 : TRel tb verses t) (hp2 : TabS tb) (ho_t : TabD tb ∧ tb.past.length ≤ 40000 ∧ tb.hands.length ≤ 40000) (hl_verses : verses.length ≤ 40000) (c1 : (((!true) || (!true))) = false) (ha1 : under_a1 = if t.spoken.isNone = true then none else some (((t.spoken).getD default).1)) (hc21 : (!true) = false) : TabS (tb) := by
  exact hp2
theorem vc__law_t_told_pre_heard_now1 (tb : TabM) (verses : (List (List Str))) (t : TRec) (under_a1 : (Option Int)) (hp1 : TRel tb verses t) (hp2 : TabS tb) (ho_t : TabD tb ∧ tb.past.length ≤ 40000 ∧ tb.hands.length ≤ 40000) (hl_verses : verses.length ≤ 40000) (c1 : (((!true) || (!true))) = false) (ha1 : under_a1 = if t.spoken.isNone = true then none else some (((t.spoken).getD default).1)) (hc21 : (!true) = false) : SpkR (verses) (t) := by
  exact hp1.spk hp2
theorem vc__law_t_told_pre_same4 (tb : TabM) (verses : (List (List Str))) (t : TRec) (under_a1 : (Option Int)) (hp1 : TRel tb verses t) (hp2 : TabS tb) (ho_t : TabD tb ∧ tb.past.length ≤ 40000 ∧ tb.hands.length ≤ 40000) (hl_verses : verses.length ≤ 40000) (c1 : (((!true) || (!true))) = false) (ha1 : under_a1 = if t.spoken.isNone = true then none else some (((t.spoken).getD default).1)) (hc21 : (!true) = false) : (hrdM (tb)) = (hrdR (verses) (t)) := by
  exact hp1.hrd hp2
theorem vc__law_t_told_never2 (tb : TabM) (verses : (List (List Str))) (t : TRec) (under_a1 : (Option Int)) (hp1 : TRel tb verses t) (hp2 : TabS tb) (ho_t : TabD tb ∧ tb.past.length ≤ 40000 ∧ tb.hands.length ≤ 40000) (hl_verses : verses.length ≤ 40000) (c1 : (((!true) || (!true))) = false) (ha1 : under_a1 = if t.spoken.isNone = true then none else some (((t.spoken).getD default).1)) (c2 : (((!true) || (!true))) = true) : False := by
  first
  | simp_all
  | omega
theorem vc__law_t_told_pre_same5 (tb : TabM) (verses : (List (List Str))) (t : TRec) (under_a1 : (Option Int)) (hp1 : TRel tb verses t) (hp2 : TabS tb) (ho_t : TabD tb ∧ tb.past.length ≤ 40000 ∧ tb.hands.length ≤ 40000) (hl_verses : verses.length ≤ 40000) (c1 : (((!true) || (!true))) = false) (ha1 : under_a1 = if t.spoken.isNone = true then none else some (((t.spoken).getD default).1)) (c2 : (((!true) || (!true))) = false) : ((tb).hands) = t.hands := by
  obtain ⟨g1, g2, g3, g4, g5, g6, g7, g8⟩ := hp1
  exact g5.symm
theorem vc__law_t_told_pre_same6 (tb : TabM) (verses : (List (List Str))) (t : TRec) (under_a1 : (Option Int)) (hp1 : TRel tb verses t) (hp2 : TabS tb) (ho_t : TabD tb ∧ tb.past.length ≤ 40000 ∧ tb.hands.length ≤ 40000) (hl_verses : verses.length ≤ 40000) (c1 : (((!true) || (!true))) = false) (ha1 : under_a1 = if t.spoken.isNone = true then none else some (((t.spoken).getD default).1)) (c2 : (((!true) || (!true))) = false) (hc24 : (!true) = false) : ((tb).past) = t.past := by
  obtain ⟨g1, g2, g3, g4, g5, g6, g7, g8⟩ := hp1
  exact g3.symm
theorem vc__law_t_told_never3 (tb : TabM) (verses : (List (List Str))) (t : TRec) (under_a1 : (Option Int)) (hp1 : TRel tb verses t) (hp2 : TabS tb) (ho_t : TabD tb ∧ tb.past.length ≤ 40000 ∧ tb.hands.length ≤ 40000) (hl_verses : verses.length ≤ 40000) (c1 : (((!true) || (!true))) = false) (ha1 : under_a1 = if t.spoken.isNone = true then none else some (((t.spoken).getD default).1)) (c2 : (((!true) || (!true))) = false) (c3 : (((!true) || (!true))) = true) : False := by
  first
  | simp_all
  | omega
theorem vc__law_t_told_pre_same7 (tb : TabM) (verses : (List (List Str))) (t : TRec) (under_a1 : (Option Int)) (hp1 : TRel tb verses t) (hp2 : TabS tb) (ho_t : TabD tb ∧ tb.past.length ≤ 40000 ∧ tb.hands.length ≤ 40000) (hl_verses : verses.length ≤ 40000) (c1 : (((!true) || (!true))) = false) (ha1 : under_a1 = if t.spoken.isNone = true then none else some (((t.spoken).getD default).1)) (c2 : (((!true) || (!true))) = false) (c3 : (((!true) || (!true))) = false) : ((tb).won) = t.won := by
  obtain ⟨g1, g2, g3, g4, g5, g6, g7, g8⟩ := hp1
  exact g6.symm
theorem vc__law_t_told_pre_same8 (tb : TabM) (verses : (List (List Str))) (t : TRec) (under_a1 : (Option Int)) (hp1 : TRel tb verses t) (hp2 : TabS tb) (ho_t : TabD tb ∧ tb.past.length ≤ 40000 ∧ tb.hands.length ≤ 40000) (hl_verses : verses.length ≤ 40000) (c1 : (((!true) || (!true))) = false) (ha1 : under_a1 = if t.spoken.isNone = true then none else some (((t.spoken).getD default).1)) (c2 : (((!true) || (!true))) = false) (c3 : (((!true) || (!true))) = false) (hc27 : (!true) = false) : ((tb).missed) = t.missed := by
  obtain ⟨g1, g2, g3, g4, g5, g6, g7, g8⟩ := hp1
  exact g7.symm
theorem vc__law_t_told_never4 (tb : TabM) (verses : (List (List Str))) (t : TRec) (under_a1 : (Option Int)) (hp1 : TRel tb verses t) (hp2 : TabS tb) (ho_t : TabD tb ∧ tb.past.length ≤ 40000 ∧ tb.hands.length ≤ 40000) (hl_verses : verses.length ≤ 40000) (c1 : (((!true) || (!true))) = false) (ha1 : under_a1 = if t.spoken.isNone = true then none else some (((t.spoken).getD default).1)) (c2 : (((!true) || (!true))) = false) (c3 : (((!true) || (!true))) = false) (c4 : (((!true) || (!true))) = true) : False := by
  first
  | simp_all
  | omega
theorem vc__law_t_told_pre_same9 (tb : TabM) (verses : (List (List Str))) (t : TRec) (under_a1 : (Option Int)) (hp1 : TRel tb verses t) (hp2 : TabS tb) (ho_t : TabD tb ∧ tb.past.length ≤ 40000 ∧ tb.hands.length ≤ 40000) (hl_verses : verses.length ≤ 40000) (c1 : (((!true) || (!true))) = false) (ha1 : under_a1 = if t.spoken.isNone = true then none else some (((t.spoken).getD default).1)) (c2 : (((!true) || (!true))) = false) (c3 : (((!true) || (!true))) = false) (c4 : (((!true) || (!true))) = false) : (unrM (tb)) = (opnR (verses) (t)) := by
  exact hp1.unr
theorem vc__law_t_told_never5 (tb : TabM) (verses : (List (List Str))) (t : TRec) (under_a1 : (Option Int)) (hp1 : TRel tb verses t) (hp2 : TabS tb) (ho_t : TabD tb ∧ tb.past.length ≤ 40000 ∧ tb.hands.length ≤ 40000) (hl_verses : verses.length ≤ 40000) (c1 : (((!true) || (!true))) = false) (ha1 : under_a1 = if t.spoken.isNone = true then none else some (((t.spoken).getD default).1)) (c2 : (((!true) || (!true))) = false) (c3 : (((!true) || (!true))) = false) (c4 : (((!true) || (!true))) = false) (c5 : (!true) = true) : False := by
  first
  | simp_all
  | omega
theorem vc__law_t_told_pre_same10 (tb : TabM) (verses : (List (List Str))) (t : TRec) (under_a1 : (Option Int)) (hp1 : TRel tb verses t) (hp2 : TabS tb) (ho_t : TabD tb ∧ tb.past.length ≤ 40000 ∧ tb.hands.length ≤ 40000) (hl_verses : verses.length ≤ 40000) (c1 : (((!true) || (!true))) = false) (ha1 : under_a1 = if t.spoken.isNone = true then none else some (((t.spoken).getD default).1)) (c2 : (((!true) || (!true))) = false) (c3 : (((!true) || (!true))) = false) (c4 : (((!true) || (!true))) = false) (c5 : (!true) = false) : ((tb).owed) = t.owed := by
  obtain ⟨g1, g2, g3, g4, g5, g6, g7, g8⟩ := hp1
  exact g8.symm
theorem vc__law_t_told_pre_winner1 (tb : TabM) (verses : (List (List Str))) (t : TRec) (under_a1 : (Option Int)) (hp1 : TRel tb verses t) (hp2 : TabS tb) (ho_t : TabD tb ∧ tb.past.length ≤ 40000 ∧ tb.hands.length ≤ 40000) (hl_verses : verses.length ≤ 40000) (c1 : (((!true) || (!true))) = false) (ha1 : under_a1 = if t.spoken.isNone = true then none else some (((t.spoken).getD default).1)) (c2 : (((!true) || (!true))) = false) (c3 : (((!true) || (!true))) = false) (c4 : (((!true) || (!true))) = false) (c5 : (!true) = false) (hc32 : true = true) : RwsR (t) := by
  have hd := ho_t.1.2.1
  exact hp1.rws hd
theorem vc__law_t_told_pre_same11 (tb : TabM) (verses : (List (List Str))) (t : TRec) (under_a1 : (Option Int)) (hp1 : TRel tb verses t) (hp2 : TabS tb) (ho_t : TabD tb ∧ tb.past.length ≤ 40000 ∧ tb.hands.length ≤ 40000) (hl_verses : verses.length ≤ 40000) (c1 : (((!true) || (!true))) = false) (ha1 : under_a1 = if t.spoken.isNone = true then none else some (((t.spoken).getD default).1)) (c2 : (((!true) || (!true))) = false) (c3 : (((!true) || (!true))) = false) (c4 : (((!true) || (!true))) = false) (c5 : (!true) = false) (hc32 : true = true) : (winM (tb)) = (winR (t)) := by
  exact hp1.win
theorem vc__law_t_told_ret1 (tb : TabM) (verses : (List (List Str))) (t : TRec) (under_a1 : (Option Int)) (hp1 : TRel tb verses t) (hp2 : TabS tb) (ho_t : TabD tb ∧ tb.past.length ≤ 40000 ∧ tb.hands.length ≤ 40000) (hl_verses : verses.length ≤ 40000) (c1 : (((!true) || (!true))) = false) (ha1 : under_a1 = if t.spoken.isNone = true then none else some (((t.spoken).getD default).1)) (c2 : (((!true) || (!true))) = false) (c3 : (((!true) || (!true))) = false) (c4 : (((!true) || (!true))) = false) (c5 : (!true) = false) : (true) = ((true && true)) := by
  rfl
def R__law_t_told (K : PySem.W.Frag) (C_Book C_Deal C_Table : Addr) : RlX := ⟨fun vs B Ps r => ∃ (tb : TabM) (N : Hp) (v : V) (verses : (List (List Str))) (t : TRec), ArgsR B vs [⟨tIs v, ()⟩, ⟨(tL K (tL K tX)), verses⟩, ⟨(tRec K), t⟩] ∧ Ps = [N] ∧ (stTab K C_Book C_Deal C_Table).R B N v tb ∧ (TRel tb verses t) ∧ (TabS tb) ∧ r = resX (none) (fun G Ps' w => Ps' = [N] ∧ tB.R G w (true)) (fun _ Ps' => Ps' = [N])⟩
theorem ok__law_t_told (B : Bt mg) {C_Book C_Deal C_Table : Addr} (O_Deal_rows : OkM P w K mg base 2 C_Deal "rows" ["self", "field"] ((R_Deal_rows K C_Deal).sp mg)) (O_Table_deal : OkM P w K mg base 1 C_Table "deal" ["self"] ((R_Table_deal K C_Book C_Deal C_Table).sp mg)) (O_Table_due : OkM P w K mg base 1 C_Table "due" ["self"] ((R_Table_due K C_Book C_Deal C_Table).sp mg)) (O_Table_faults : OkM P w K mg base 1 C_Table "faults" ["self"] ((R_Table_faults K C_Book C_Deal C_Table).sp mg)) (O_Table_heard : OkM P w K mg base 2 C_Table "heard" ["self"] ((R_Table_heard K C_Book C_Deal C_Table).sp mg)) (O_Table_readings : OkM P w K mg base 1 C_Table "readings" ["self"] ((R_Table_readings K C_Book C_Deal C_Table).sp mg)) (O_Table_score : OkM P w K mg base 1 C_Table "score" ["self"] ((R_Table_score K C_Book C_Deal C_Table).sp mg)) (O_Table_touches : OkM P w K mg base 1 C_Table "touches" ["self"] ((R_Table_touches K C_Book C_Deal C_Table).sp mg)) (O_Table_under : OkM P w K mg base 1 C_Table "under" ["self"] ((R_Table_under K C_Book C_Deal C_Table).sp mg)) (O_Table_unread : OkM P w K mg base 2 C_Table "unread" ["self"] ((R_Table_unread K C_Book C_Deal C_Table).sp mg)) (O_Table_winner : OkM P w K mg base 4 C_Table "winner" ["self"] ((R_Table_winner K C_Book C_Deal C_Table).sp mg)) (O__law_heard_now : Ok P w K mg base 1 "_law_heard_now" ["_law_verses", "_law_t"] ((R__law_heard_now K).spB mg)) (O__law_open : Ok P w K mg base 1 "_law_open" ["_law_verses", "_law_t"] ((R__law_open K).sp mg)) (O__law_same : ∀ n, Ok P w K mg base n "_law_same" ["_law_found", "_law_due"] ((R__law_same K n).sp mg)) (O__law_winner : Ok P w K mg base 2 "_law_winner" ["_law_t"] ((R__law_winner K).sp mg)) (D : Df K mg "_law_t_told" s__law_t_told ["_law_table", "_law_verses", "_law_t"]) : Ok P w K mg base 5 "_law_t_told" ["_law_table", "_law_verses", "_law_t"] ((R__law_t_told K C_Book C_Deal C_Table).sp mg) := by
  refine D.ok sc__law_t_told (fun vs H Q E h => ?_) (fun f cdv A outer s H vs Q E hr h => ?_)
  · obtain ⟨B0, Ps, r, _, ⟨tb, N0, v0, verses, t, ha, _⟩, _⟩ := h
    exact ha.len
  · obtain ⟨B0, Ps, r, o00, ⟨tb, N0, v0, verses, t, ha, rfl, hS, hp1, hp2, rfl⟩, k⟩ := h
    obtain ⟨v0', v1, v2, rfl, f0, f3, f4⟩ := args3 ha
    obtain rfl : v0' = v0 := f0
    have ho_t := tab_ok hS
    have o0 : Own (emp :: B0 :: (N0) :: (rest2 [B0, N0] H) :: []) H := own_start o00
    have hl_verses : verses.length ≤ 40000 := len_ofL f3
    have O__law_same := O__law_same 4
    refine ⟨_, (pss_cons (ps_set (i := 3) sc__law_t_told.nd rfl (.inl rfl) (pe_methO0 O_Table_deal (pv 0) (hr.mono (by omega)) (takes_of rfl rfl rfl rfl)))
      (pss_cons (ps_if (PW.pt (pw_or (pt_not (pt_val (pe_callO O__law_same (hr.mono (by omega)) (by rfl) (takes_of rfl rfl rfl rfl) (pa_cons (pe_methO O_Deal_rows (pv 3) (hr.mono (by omega)) (takes_of rfl rfl rfl rfl) (pa_cons pe_int pa_nil)) (pa_cons (pe_ix (ix_seqK K) (pe_dget (hu_of hr) (pv 2) pe_str (fun _ _ => rfl)) pe_int (fun _ _ => rfl)) pa_nil))))) (pw_or1 (pt_not (pt_val (pe_callO O__law_same (hr.mono (by omega)) (by rfl) (takes_of rfl rfl rfl rfl) (pa_cons (pe_methO O_Deal_rows (pv 3) (hr.mono (by omega)) (takes_of rfl rfl rfl rfl) (pa_cons pe_int pa_nil)) (pa_cons (pe_ix (ix_seqK K) (pe_dget (hu_of hr) (pv 2) pe_str (fun _ _ => rfl)) pe_int (fun _ _ => rfl)) pa_nil))))))))
        (pss_one (ps_ret pe_bl))
        pss_nil)
      (pss_cons (ps_set (i := 4) sc__law_t_told.nd rfl (.inl rfl) (pe_ifExp (pt_cmpR op_isN (pe_dget (hu_of hr) (pv 2) pe_str (fun _ _ => rfl)) pe_non (nomark _)) pe_non (pe_ix (ix_seqK K) (pe_dget (hu_of hr) (pv 2) pe_str (fun _ _ => rfl)) pe_int (fun _ _ => rfl))))
      (pss_cons (ps_if (PW.pt (pw_or (pt_not (pt_val (pe_callO O__law_same (hr.mono (by omega)) (by rfl) (takes_of rfl rfl rfl rfl) (pa_cons (pe_methO0 O_Table_under (pv 0) (hr.mono (by omega)) (takes_of rfl rfl rfl rfl)) (pa_cons (pv 4) pa_nil))))) (pw_or1 (pt_not (pt_val (pe_callO O__law_same (hr.mono (by omega)) (by rfl) (takes_of rfl rfl rfl rfl) (pa_cons (pe_methO0 O_Table_heard (pv 0) (hr.mono (by omega)) (takes_of rfl rfl rfl rfl)) (pa_cons (pe_callO O__law_heard_now (hr.mono (by omega)) (by rfl) (takes_of rfl rfl rfl rfl) (pa_cons (pv 1) (pa_cons (pv 2) pa_nil))) pa_nil))))))))
        (pss_one (ps_ret pe_bl))
        pss_nil)
      (pss_cons (ps_if (PW.pt (pw_or (pt_not (pt_val (pe_callO O__law_same (hr.mono (by omega)) (by rfl) (takes_of rfl rfl rfl rfl) (pa_cons (pe_methO0 O_Table_touches (pv 0) (hr.mono (by omega)) (takes_of rfl rfl rfl rfl)) (pa_cons (pe_dget (hu_of hr) (pv 2) pe_str (fun _ _ => rfl)) pa_nil))))) (pw_or1 (pt_not (pt_val (pe_callO O__law_same (hr.mono (by omega)) (by rfl) (takes_of rfl rfl rfl rfl) (pa_cons (pe_methO0 O_Table_readings (pv 0) (hr.mono (by omega)) (takes_of rfl rfl rfl rfl)) (pa_cons (pe_dget (hu_of hr) (pv 2) pe_str (fun _ _ => rfl)) pa_nil))))))))
        (pss_one (ps_ret pe_bl))
        pss_nil)
      (pss_cons (ps_if (PW.pt (pw_or (pt_not (pt_val (pe_callO O__law_same (hr.mono (by omega)) (by rfl) (takes_of rfl rfl rfl rfl) (pa_cons (pe_methO0 O_Table_score (pv 0) (hr.mono (by omega)) (takes_of rfl rfl rfl rfl)) (pa_cons (pe_dget (hu_of hr) (pv 2) pe_str (fun _ _ => rfl)) pa_nil))))) (pw_or1 (pt_not (pt_val (pe_callO O__law_same (hr.mono (by omega)) (by rfl) (takes_of rfl rfl rfl rfl) (pa_cons (pe_methO0 O_Table_faults (pv 0) (hr.mono (by omega)) (takes_of rfl rfl rfl rfl)) (pa_cons (pe_dget (hu_of hr) (pv 2) pe_str (fun _ _ => rfl)) pa_nil))))))))
        (pss_one (ps_ret pe_bl))
        pss_nil)
      (pss_cons (ps_if (pt_not (pt_val (pe_callO O__law_same (hr.mono (by omega)) (by rfl) (takes_of rfl rfl rfl rfl) (pa_cons (pe_methO0 O_Table_unread (pv 0) (hr.mono (by omega)) (takes_of rfl rfl rfl rfl)) (pa_cons (pe_callO O__law_open (hr.mono (by omega)) (by rfl) (takes_of rfl rfl rfl rfl) (pa_cons (pv 1) (pa_cons (pv 2) pa_nil))) pa_nil)))))
        (pss_one (ps_ret pe_bl))
        pss_nil)
      (pss_one (ps_ret (pe_and (pe_callO O__law_same (hr.mono (by omega)) (by rfl) (takes_of rfl rfl rfl rfl) (pa_cons (pe_methO0 O_Table_due (pv 0) (hr.mono (by omega)) (takes_of rfl rfl rfl rfl)) (pa_cons (pe_dget (hu_of hr) (pv 2) pe_str (fun _ _ => rfl)) pa_nil))) (pe_one (pe_callO O__law_same (hr.mono (by omega)) (by rfl) (takes_of rfl rfl rfl rfl) (pa_cons (pe_methO0 O_Table_winner (pv 0) (hr.mono (by omega)) (takes_of rfl rfl rfl rfl)) (pa_cons (pe_callO O__law_winner (hr.mono (by omega)) (by rfl) (takes_of rfl rfl rfl rfl) (pa_cons (pv 2) pa_nil)) pa_nil)))))))))))))), ?_⟩
    refine q_bu (i := 3) o0 (ed_methP (S := (R_Table_deal K C_Book C_Deal C_Table)) (T := (tDeal K C_Book C_Deal)) (Own.front o0 (j := 0) rfl) (ev_var rfl) (tab_ins (fun _ _ _ _ _ _ _ _ => rfl) (show (stTab K C_Book C_Deal C_Table).R (uni B0 _) _ _ tb from (St.up _ (Own.ug o0) hS)) (Own.exO o0 (j := 0) rfl)) ebs_nil (fun vs B eB ha => ⟨_, ⟨(tb), _, _, ⟨rfl, ha⟩, rfl, (St.up _ eB (St.up _ (Own.ug o0) hS)), (resX_none rfl).symm⟩, fun _ _ _ h => h⟩)) fun v5 M6 H7 eM8 o9 f10 => ?_
    refine q_wh o9 (et_or (et_not (et_B (ev_p (v := (.bl (true))) (ep_imp (ep_callB (S := (R__law_same K 4)) (Ex.refl _) (ebs_cons (T := (tW (tW tI))) (Ex.refl _) (ed_p (T := (tW (tW tI))) (ep_methB (S := (R_Deal_rows K C_Deal)) (Ex.refl _) (ed_of (T := (tDeal K C_Book C_Deal)) (up (Own.uh o9) f10) rfl) (fun h => deal_ins ⟨by decide, by decide, by decide⟩ h) (ebs_cons (T := tI) (Ex.refl _) (ed_i ev_c) ebs_nil) (fun vs G ha => ad_Deal_rows ha (res_ok (vc__law_t_told_safe1 tb verses t hp1 hp2 ho_t hl_verses)).symm)) (Ex.refl _) (cv_rws (And.left (vc__law_t_told_pre_Deal_rows1 tb verses t hp1 hp2 ho_t hl_verses)) (And.right (vc__law_t_told_pre_Deal_rows1 tb verses t hp1 hp2 ho_t hl_verses)))) (ebs_cons (T := (tW (tW tI))) (Ex.refl _) (ed_ixG (ed_to (T := (tW (tW (tW tI)))) (S := (tL K (tW (tW tI)))) (ed_dgetR (ed_of (T := (tRec K)) (up (Own.uh o9) (up (Own.uu o9 eM8) (up (Own.ug o0) f4))) rfl) ev_c (Ex.refl _) rec_rows)) ev_c (vc__law_t_told_ix1 tb verses t hp1 hp2 ho_t hl_verses) (Ex.refl _)) ebs_nil)) (fun vs G ha => ad__law_same rfl (Nat.le_of_ble_eq_true rfl) ha (vc__law_t_told_pre_same1 tb verses t hp1 hp2 ho_t hl_verses))) (fun _ _ h => h))))) fun hc11 => (et_not (et_B (ev_p (v := (.bl (true))) (ep_imp (ep_callB (S := (R__law_same K 4)) (Ex.refl _) (ebs_cons (T := (tW (tW tI))) (Ex.refl _) (ed_p (T := (tW (tW tI))) (ep_methB (S := (R_Deal_rows K C_Deal)) (Ex.refl _) (ed_of (T := (tDeal K C_Book C_Deal)) (up (Own.uh o9) f10) rfl) (fun h => deal_ins ⟨by decide, by decide, by decide⟩ h) (ebs_cons (T := tI) (Ex.refl _) (ed_i ev_c) ebs_nil) (fun vs G ha => ad_Deal_rows ha (res_ok (vc__law_t_told_safe2 tb verses t hp1 hp2 ho_t hl_verses hc11)).symm)) (Ex.refl _) (cv_rws (And.left (vc__law_t_told_pre_Deal_rows2 tb verses t hp1 hp2 ho_t hl_verses hc11)) (And.right (vc__law_t_told_pre_Deal_rows2 tb verses t hp1 hp2 ho_t hl_verses hc11)))) (ebs_cons (T := (tW (tW tI))) (Ex.refl _) (ed_ixG (ed_to (T := (tW (tW (tW tI)))) (S := (tL K (tW (tW tI)))) (ed_dgetR (ed_of (T := (tRec K)) (up (Own.uh o9) (up (Own.uu o9 eM8) (up (Own.ug o0) f4))) rfl) ev_c (Ex.refl _) rec_rows)) ev_c (vc__law_t_told_ix2 tb verses t hp1 hp2 ho_t hl_verses hc11) (Ex.refl _)) ebs_nil)) (fun vs G ha => ad__law_same rfl (Nat.le_of_ble_eq_true rfl) ha (vc__law_t_told_pre_same2 tb verses t hp1 hp2 ho_t hl_verses hc11))) (fun _ _ h => h)))))) (fun c1 H12 o13 => ?_) (fun c1 H12 o13 => ?_)
    · skip
      exact ((vc__law_t_told_never1 tb verses t hp1 hp2 ho_t hl_verses c1) : False).elim
    · skip
      refine q_b (i := 4) o13 (ed_if (et_test (ev_isnB (B := (uni B0 M6)) (ed_dgetR (ed_of (T := (tRec K)) (up (Own.uu o13 eM8) (up (Own.ug o0) f4)) rfl) ev_c (Own.uh o13) rec_spoken))) (fun hc14 => (ed_n (T := tI) ev_c)) (fun hc14 => (ed_some (T := tI) (ed_i (ev_i (ed_2a (ed_get (vc__law_t_told_some1 tb verses t hp1 hp2 ho_t hl_verses c1 hc14) (ed_dgetR (ed_of (T := (tRec K)) (up (Own.uu o13 eM8) (up (Own.ug o0) f4)) rfl) ev_c (Own.uh o13) rec_spoken)) (Own.uh o13))))))) fun v15 M16 H17 eM18 o19 f20 => ?_
      obtain ⟨under_a1, ha1, f20⟩ : ∃ z : (Option Int), z = (if t.spoken.isNone = true then none else some (((t.spoken).getD default).1)) ∧ (tO tI).R M16 v15 z := ⟨_, rfl, f20⟩
      refine q_wh o19 (et_or (et_not (et_B (ev_p (v := (.bl (true))) (ep_imp (ep_callB (S := (R__law_same K 4)) (Ex.refl _) (ebs_cons (T := (tO tI)) (Ex.refl _) (ed_flt (ed_methP (S := (R_Table_under K C_Book C_Deal C_Table)) (T := (tO tI)) (Own.front o19 (j := 0) rfl) (ev_var rfl) (tab_ins (fun _ _ _ _ _ _ _ _ => rfl) (show (stTab K C_Book C_Deal C_Table).R (uni B0 _) _ _ tb from (St.up _ (Own.uu o19 (Ex.trans eM8 eM18)) (St.up _ (Own.ug o0) hS))) (Own.exO o19 (j := 0) rfl)) ebs_nil (fun vs B eB ha => ⟨_, ⟨(tb), _, _, ⟨rfl, ha⟩, rfl, (St.up _ eB (St.up _ (Own.uu o19 (Ex.trans eM8 eM18)) (St.up _ (Own.ug o0) hS))), (resX_none rfl).symm⟩, fun _ _ _ h => h⟩))) (ebs_cons (T := (tO tI)) (Ex.refl _) (ed_of (T := (tO tI)) (up (Own.e0 o19) f20) rfl) ebs_nil)) (fun vs G ha => ad__law_same rfl (Nat.le_of_ble_eq_true rfl) ha (vc__law_t_told_pre_same3 tb verses t under_a1 hp1 hp2 ho_t hl_verses c1 ha1))) (fun _ _ h => h))))) fun hc21 => (et_not (et_B (ev_p (v := (.bl (true))) (ep_imp (ep_callB (S := (R__law_same K 4)) (Ex.refl _) (ebs_cons (T := (tW tX)) (Ex.refl _) (ed_toB (Own.uh o19) (ed_methP (S := (R_Table_heard K C_Book C_Deal C_Table)) (T := (tW tX)) (Own.front o19 (j := 0) rfl) (ev_var rfl) (tab_ins (fun _ _ _ _ _ _ _ _ => rfl) (show (stTab K C_Book C_Deal C_Table).R (uni B0 _) _ _ tb from (St.up _ (Own.uu o19 (Ex.trans eM8 eM18)) (St.up _ (Own.ug o0) hS))) (Own.exO o19 (j := 0) rfl)) ebs_nil (fun vs B eB ha => ⟨_, ⟨(tb), _, _, ⟨rfl, ha⟩, rfl, (St.up _ eB (St.up _ (Own.uu o19 (Ex.trans eM8 eM18)) (St.up _ (Own.ug o0) hS))), (vc__law_t_told_pre_Table_heard1 tb verses t under_a1 hp1 hp2 ho_t hl_verses c1 ha1 hc21), (resX_none rfl).symm⟩, fun _ _ _ h => h⟩))) (ebs_cons (T := (tW tX)) (Ex.refl _) (ed_callS (S := (R__law_heard_now K)) (Ex.refl _) (ebs_cons (T := (tL K (tL K tX))) (Ex.refl _) (ed_of (T := (tL K (tL K tX))) (up (Own.uh o19) (up (Own.uu o19 (Ex.trans eM8 eM18)) (up (Own.ug o0) f3))) rfl) (ebs_cons (T := (tRec K)) (Ex.refl _) (ed_of (T := (tRec K)) (up (Own.uh o19) (up (Own.uu o19 (Ex.trans eM8 eM18)) (up (Own.ug o0) f4))) rfl) ebs_nil)) (fun vs G ha => ⟨(verses), (t), ha, (vc__law_t_told_pre_heard_now1 tb verses t under_a1 hp1 hp2 ho_t hl_verses c1 ha1 hc21), rfl⟩)) ebs_nil)) (fun vs G ha => ad__law_same rfl (Nat.le_of_ble_eq_true rfl) ha (vc__law_t_told_pre_same4 tb verses t under_a1 hp1 hp2 ho_t hl_verses c1 ha1 hc21))) (fun _ _ h => h)))))) (fun c2 H22 o23 => ?_) (fun c2 H22 o23 => ?_)
      · skip
        exact ((vc__law_t_told_never2 tb verses t under_a1 hp1 hp2 ho_t hl_verses c1 ha1 c2) : False).elim
      · skip
        refine q_wh o23 (et_or (et_not (et_B (ev_p (v := (.bl (true))) (ep_imp (ep_callB (S := (R__law_same K 4)) (Ex.refl _) (ebs_cons (T := (tW (tT3 K tI tI (tT4 K tI tI tI tI)))) (Ex.refl _) (ed_toB (Own.uh o23) (ed_methP (S := (R_Table_touches K C_Book C_Deal C_Table)) (T := (tW (tT3 K tI tI (tT4 K tI tI tI tI)))) (Own.front o23 (j := 0) rfl) (ev_var rfl) (tab_ins (fun _ _ _ _ _ _ _ _ => rfl) (show (stTab K C_Book C_Deal C_Table).R (uni B0 _) _ _ tb from (St.up _ (Own.uu o23 (Ex.trans eM8 eM18)) (St.up _ (Own.ug o0) hS))) (Own.exO o23 (j := 0) rfl)) ebs_nil (fun vs B eB ha => ⟨_, ⟨(tb), _, _, ⟨rfl, ha⟩, rfl, (St.up _ eB (St.up _ (Own.uu o23 (Ex.trans eM8 eM18)) (St.up _ (Own.ug o0) hS))), (resX_none rfl).symm⟩, fun _ _ _ h => h⟩))) (ebs_cons (T := (tW (tT3 K tI tI (tT4 K tI tI tI tI)))) (Ex.refl _) (ed_dgetR (ed_of (T := (tRec K)) (up (Own.uh o23) (up (Own.uu o23 (Ex.trans eM8 eM18)) (up (Own.ug o0) f4))) rfl) ev_c (Ex.refl _) rec_hands) ebs_nil)) (fun vs G ha => ad__law_same rfl (Nat.le_of_ble_eq_true rfl) ha (vc__law_t_told_pre_same5 tb verses t under_a1 hp1 hp2 ho_t hl_verses c1 ha1 c2))) (fun _ _ h => h))))) fun hc24 => (et_not (et_B (ev_p (v := (.bl (true))) (ep_imp (ep_callB (S := (R__law_same K 4)) (Ex.refl _) (ebs_cons (T := (tW (tT4 K tI (tO tI) tB tB))) (Ex.refl _) (ed_toB (Own.uh o23) (ed_methP (S := (R_Table_readings K C_Book C_Deal C_Table)) (T := (tW (tT4 K tI (tO tI) tB tB))) (Own.front o23 (j := 0) rfl) (ev_var rfl) (tab_ins (fun _ _ _ _ _ _ _ _ => rfl) (show (stTab K C_Book C_Deal C_Table).R (uni B0 _) _ _ tb from (St.up _ (Own.uu o23 (Ex.trans eM8 eM18)) (St.up _ (Own.ug o0) hS))) (Own.exO o23 (j := 0) rfl)) ebs_nil (fun vs B eB ha => ⟨_, ⟨(tb), _, _, ⟨rfl, ha⟩, rfl, (St.up _ eB (St.up _ (Own.uu o23 (Ex.trans eM8 eM18)) (St.up _ (Own.ug o0) hS))), (resX_none rfl).symm⟩, fun _ _ _ h => h⟩))) (ebs_cons (T := (tW (tT4 K tI (tO tI) tB tB))) (Ex.refl _) (ed_dgetR (ed_of (T := (tRec K)) (up (Own.uh o23) (up (Own.uu o23 (Ex.trans eM8 eM18)) (up (Own.ug o0) f4))) rfl) ev_c (Ex.refl _) rec_past) ebs_nil)) (fun vs G ha => ad__law_same rfl (Nat.le_of_ble_eq_true rfl) ha (vc__law_t_told_pre_same6 tb verses t under_a1 hp1 hp2 ho_t hl_verses c1 ha1 c2 hc24))) (fun _ _ h => h)))))) (fun c3 H25 o26 => ?_) (fun c3 H25 o26 => ?_)
        · skip
          exact ((vc__law_t_told_never3 tb verses t under_a1 hp1 hp2 ho_t hl_verses c1 ha1 c2 c3) : False).elim
        · skip
          refine q_wh o26 (et_or (et_not (et_B (ev_p (v := (.bl (true))) (ep_imp (ep_callB (S := (R__law_same K 4)) (Ex.refl _) (ebs_cons (T := (tP K tI tI)) (Ex.refl _) (ed_toB (Own.uh o26) (ed_methP (S := (R_Table_score K C_Book C_Deal C_Table)) (T := (tP K tI tI)) (Own.front o26 (j := 0) rfl) (ev_var rfl) (tab_ins (fun _ _ _ _ _ _ _ _ => rfl) (show (stTab K C_Book C_Deal C_Table).R (uni B0 _) _ _ tb from (St.up _ (Own.uu o26 (Ex.trans eM8 eM18)) (St.up _ (Own.ug o0) hS))) (Own.exO o26 (j := 0) rfl)) ebs_nil (fun vs B eB ha => ⟨_, ⟨(tb), _, _, ⟨rfl, ha⟩, rfl, (St.up _ eB (St.up _ (Own.uu o26 (Ex.trans eM8 eM18)) (St.up _ (Own.ug o0) hS))), (resX_none rfl).symm⟩, fun _ _ _ h => h⟩))) (ebs_cons (T := (tP K tI tI)) (Ex.refl _) (ed_dgetR (ed_of (T := (tRec K)) (up (Own.uh o26) (up (Own.uu o26 (Ex.trans eM8 eM18)) (up (Own.ug o0) f4))) rfl) ev_c (Ex.refl _) rec_won) ebs_nil)) (fun vs G ha => ad__law_same rfl (Nat.le_of_ble_eq_true rfl) ha (vc__law_t_told_pre_same7 tb verses t under_a1 hp1 hp2 ho_t hl_verses c1 ha1 c2 c3))) (fun _ _ h => h))))) fun hc27 => (et_not (et_B (ev_p (v := (.bl (true))) (ep_imp (ep_callB (S := (R__law_same K 4)) (Ex.refl _) (ebs_cons (T := (tP K tI tI)) (Ex.refl _) (ed_toB (Own.uh o26) (ed_methP (S := (R_Table_faults K C_Book C_Deal C_Table)) (T := (tP K tI tI)) (Own.front o26 (j := 0) rfl) (ev_var rfl) (tab_ins (fun _ _ _ _ _ _ _ _ => rfl) (show (stTab K C_Book C_Deal C_Table).R (uni B0 _) _ _ tb from (St.up _ (Own.uu o26 (Ex.trans eM8 eM18)) (St.up _ (Own.ug o0) hS))) (Own.exO o26 (j := 0) rfl)) ebs_nil (fun vs B eB ha => ⟨_, ⟨(tb), _, _, ⟨rfl, ha⟩, rfl, (St.up _ eB (St.up _ (Own.uu o26 (Ex.trans eM8 eM18)) (St.up _ (Own.ug o0) hS))), (resX_none rfl).symm⟩, fun _ _ _ h => h⟩))) (ebs_cons (T := (tP K tI tI)) (Ex.refl _) (ed_dgetR (ed_of (T := (tRec K)) (up (Own.uh o26) (up (Own.uu o26 (Ex.trans eM8 eM18)) (up (Own.ug o0) f4))) rfl) ev_c (Ex.refl _) rec_missed) ebs_nil)) (fun vs G ha => ad__law_same rfl (Nat.le_of_ble_eq_true rfl) ha (vc__law_t_told_pre_same8 tb verses t under_a1 hp1 hp2 ho_t hl_verses c1 ha1 c2 c3 hc27))) (fun _ _ h => h)))))) (fun c4 H28 o29 => ?_) (fun c4 H28 o29 => ?_)
          · skip
            exact ((vc__law_t_told_never4 tb verses t under_a1 hp1 hp2 ho_t hl_verses c1 ha1 c2 c3 c4) : False).elim
          · skip
            refine q_wh o29 (et_not (et_B (ev_p (v := (.bl (true))) (ep_imp (ep_callB (S := (R__law_same K 4)) (Ex.refl _) (ebs_cons (T := (tW tI)) (Ex.refl _) (ed_toB (Own.uh o29) (ed_methP (S := (R_Table_unread K C_Book C_Deal C_Table)) (T := (tW tI)) (Own.front o29 (j := 0) rfl) (ev_var rfl) (tab_ins (fun _ _ _ _ _ _ _ _ => rfl) (show (stTab K C_Book C_Deal C_Table).R (uni B0 _) _ _ tb from (St.up _ (Own.uu o29 (Ex.trans eM8 eM18)) (St.up _ (Own.ug o0) hS))) (Own.exO o29 (j := 0) rfl)) ebs_nil (fun vs B eB ha => ⟨_, ⟨(tb), _, _, ⟨rfl, ha⟩, rfl, (St.up _ eB (St.up _ (Own.uu o29 (Ex.trans eM8 eM18)) (St.up _ (Own.ug o0) hS))), (resX_none rfl).symm⟩, fun _ _ _ h => h⟩))) (ebs_cons (T := (tW tI)) (Ex.refl _) (ed_p (T := (tW tI)) (ep_callB (S := (R__law_open K)) (Ex.refl _) (ebs_cons (T := (tL K (tL K tX))) (Ex.refl _) (ed_of (T := (tL K (tL K tX))) (up (Own.uh o29) (up (Own.uu o29 (Ex.trans eM8 eM18)) (up (Own.ug o0) f3))) rfl) (ebs_cons (T := (tRec K)) (Ex.refl _) (ed_of (T := (tRec K)) (up (Own.uh o29) (up (Own.uu o29 (Ex.trans eM8 eM18)) (up (Own.ug o0) f4))) rfl) ebs_nil)) (fun vs G ha => ⟨(verses), (t), ha, rfl⟩)) (Ex.refl _) (fun _ _ h => h)) ebs_nil)) (fun vs G ha => ad__law_same rfl (Nat.le_of_ble_eq_true rfl) ha (vc__law_t_told_pre_same9 tb verses t under_a1 hp1 hp2 ho_t hl_verses c1 ha1 c2 c3 c4))) (fun _ _ h => h))))) (fun c5 H30 o31 => ?_) (fun c5 H30 o31 => ?_)
            · skip
              exact ((vc__law_t_told_never5 tb verses t under_a1 hp1 hp2 ho_t hl_verses c1 ha1 c2 c3 c4 c5) : False).elim
            · skip
              first | show tRet _ _ _ _ | (dsimp only; show tRet _ _ _ _)
              exact s_rvX o00 (Own.front o31 (j := 0) rfl) (List.mem_of_getElem? (i := 0) rfl) (ev_andV (ev_p (v := (.bl (true))) (ep_imp (ep_callB (S := (R__law_same K 4)) (Ex.refl _) (ebs_cons (T := (tO (tP K tI tI))) (Ex.refl _) (ed_toB (Own.uh o31) (ed_methP (S := (R_Table_due K C_Book C_Deal C_Table)) (T := (tO (tP K tI tI))) (Own.front o31 (j := 0) rfl) (ev_var rfl) (tab_ins (fun _ _ _ _ _ _ _ _ => rfl) (show (stTab K C_Book C_Deal C_Table).R (uni B0 _) _ _ tb from (St.up _ (Own.uu o31 (Ex.trans eM8 eM18)) (St.up _ (Own.ug o0) hS))) (Own.exO o31 (j := 0) rfl)) ebs_nil (fun vs B eB ha => ⟨_, ⟨(tb), _, _, ⟨rfl, ha⟩, rfl, (St.up _ eB (St.up _ (Own.uu o31 (Ex.trans eM8 eM18)) (St.up _ (Own.ug o0) hS))), (resX_none rfl).symm⟩, fun _ _ _ h => h⟩))) (ebs_cons (T := (tO (tP K tI tI))) (Ex.refl _) (ed_dgetR (ed_of (T := (tRec K)) (up (Own.uh o31) (up (Own.uu o31 (Ex.trans eM8 eM18)) (up (Own.ug o0) f4))) rfl) ev_c (Ex.refl _) rec_owed) ebs_nil)) (fun vs G ha => ad__law_same rfl (Nat.le_of_ble_eq_true rfl) ha (vc__law_t_told_pre_same10 tb verses t under_a1 hp1 hp2 ho_t hl_verses c1 ha1 c2 c3 c4 c5))) (fun _ _ h => h))) fun hc32 => (ev_p (v := (.bl (true))) (ep_imp (ep_callB (S := (R__law_same K 4)) (Ex.refl _) (ebs_cons (T := (tO tI)) (Ex.refl _) (ed_flt (ed_methP (S := (R_Table_winner K C_Book C_Deal C_Table)) (T := (tO tI)) (Own.front o31 (j := 0) rfl) (ev_var rfl) (tab_ins (fun _ _ _ _ _ _ _ _ => rfl) (show (stTab K C_Book C_Deal C_Table).R (uni B0 _) _ _ tb from (St.up _ (Own.uu o31 (Ex.trans eM8 eM18)) (St.up _ (Own.ug o0) hS))) (Own.exO o31 (j := 0) rfl)) ebs_nil (fun vs B eB ha => ⟨_, ⟨(tb), _, _, ⟨rfl, ha⟩, rfl, (St.up _ eB (St.up _ (Own.uu o31 (Ex.trans eM8 eM18)) (St.up _ (Own.ug o0) hS))), (resX_none rfl).symm⟩, fun _ _ _ h => h⟩))) (ebs_cons (T := (tO tI)) (Ex.refl _) (ed_p (T := (tO tI)) (ep_callB (S := (R__law_winner K)) (Ex.refl _) (ebs_cons (T := (tRec K)) (Ex.refl _) (ed_of (T := (tRec K)) (up (Own.uh o31) (up (Own.uu o31 (Ex.trans eM8 eM18)) (up (Own.ug o0) f4))) rfl) ebs_nil) (fun vs G ha => ⟨(t), ha, (vc__law_t_told_pre_winner1 tb verses t under_a1 hp1 hp2 ho_t hl_verses c1 ha1 c2 c3 c4 c5 hc32), rfl⟩)) (Ex.refl _) (fun _ _ h => h)) ebs_nil)) (fun vs G ha => ad__law_same rfl (Nat.le_of_ble_eq_true rfl) ha (vc__law_t_told_pre_same11 tb verses t under_a1 hp1 hp2 ho_t hl_verses c1 ha1 c2 c3 c4 c5 hc32))) (fun _ _ h => h)))) (resX_ok rfl k) ⟨rfl, (by first | (rw [(vc__law_t_told_ret1 tb verses t under_a1 hp1 hp2 ho_t hl_verses c1 ha1 c2 c3 c4 c5)]; exact rfl) | (rw [← (vc__law_t_told_ret1 tb verses t under_a1 hp1 hp2 ho_t hl_verses c1 ha1 c2 c3 c4 c5)]; exact rfl))⟩
end
section
variable {P : Program} {w : World} {K : PySem.W.Frag} {mg : Str → Option Value} {base : Heap}
theorem cv_fldsO {n : Nat} : ∀ N v, pFds n N v → ∃ p xs y N', v = .ref p ∧ N p = some (.lst xs) ∧ Ex N' N ∧ N' p = none ∧ Paired ((tW (tW tI)).R N') xs y ∧ y.length ≤ 40000 ∧ FldsOk n y := fun N v ⟨p, n0, C, h1, ⟨a, b, L, g1, g2, g3, g4, g5⟩, h3⟩ => by
  subst h1
  have eN : ∀ x, x ≠ p → (fun a => if a = p then none else N a : Hp) x = N x := fun x hx => if_neg hx
  have na : a ≠ p := fun z => by subst z; exact (List.nodup_cons.mp g5).1 List.mem_cons_self
  have nb : b ≠ p := fun z => by subst z; exact (List.nodup_cons.mp g5).1 (List.mem_cons_of_mem _ List.mem_cons_self)
  have nL : ∀ t ∈ L, t ≠ p := fun t ht z => by subst z; exact (List.nodup_cons.mp g5).1 (List.mem_cons_of_mem _ (List.mem_cons_of_mem _ ht))
  have g4' : CA (fun a => if a = p then none else N a) L (C.map fun l => l.map V.int) := by
    have hh : ∀ {L : List Addr} {Cs : List (List V)}, (∀ t ∈ L, t ≠ p) → CA N L Cs → CA (fun a => if a = p then none else N a) L Cs := by
      intro L Cs hn hc
      unfold CA at hc ⊢
      induction hc with
      | nil => exact .nil
      | @cons t l ts Cs z w ih => exact .cons (by rw [eN t (hn t List.mem_cons_self)]; exact z) (ih fun t ht => hn t (List.mem_cons_of_mem _ ht))
    exact hh nL g4
  have hp := CA.wts g4' h3.len
  have hi := h3.hi
  have lo := h3.lo
  have e1 : (L.take n0).map V.ref = (L.map V.ref).take n0 := by rw [List.map_take]
  have e2 : (L.drop n0).map V.ref = (L.map V.ref).drop n0 := by rw [List.map_drop]
  rw [e1] at g2
  rw [e2] at g3
  refine ⟨p, _, [C.take n0, C.drop n0], fun a => if a = p then none else N a, rfl, g1, fun x u hx => ?_, if_pos rfl, .cons ⟨a, _, rfl, by rw [eN a na]; exact g2, paired_take' n0 hp, by rw [List.length_take]; omega⟩ (.cons ⟨b, _, rfl, by rw [eN b nb]; exact g3, paired_drop' n0 hp, by rw [List.length_drop]; omega⟩ .nil), Nat.le_of_ble_eq_true rfl, n0, C, h3, rfl⟩
  by_cases z : x = p
  · have hx : (if x = p then none else N x) = some u := hx
    rw [if_pos z] at hx; cases hx
  · have hx : (if x = p then none else N x) = some u := hx
    rw [if_neg z] at hx; exact hx
theorem addO_ok {m : Nat} {vs vs' : List (List Str)} (h : GB m vs ∧ ∀ l ∈ vs, l.length ≤ 1000) (hm : m ≤ 40) (e : vs' = vs ++ (repI (([([("o" : Str)] : List Str)] : List (List Str))) ((if (((decide ((((vs).length : Int)) = (1 : Int))) && (!decide ((getI (getI vs (0 : Int)) (0 : Int)) = (("o" : Str)))))) = true then (1 : Int) else 0)))) : GB 40 vs' ∧ ∀ l ∈ vs', l.length ≤ 1000 := by
  have hl := h.1.len
  split at e
  · rename_i q
    simp only [Bool.and_eq_true, decide_eq_true_eq, Bool.not_eq_true', decide_eq_false_iff_not] at q
    obtain ⟨q1, q2⟩ := q
    match vs, h, q1, q2, e with
    | [v], h, _, q2, e =>
      have e : vs' = [v, ["o"]] := e
      subst e
      have hv := h.1.ver v List.mem_cons_self
      have hvl : 1 ≤ v.length := by
        unfold isVer at hv
        simp only [Bool.and_eq_true, decide_eq_true_eq] at hv
        omega
      have q3 : ¬ v.head? = some ("o" : Str) := fun z => q2 (by
        match v, hvl, z with
        | a :: r, _, z =>
          have z : a = ("o" : Str) := by simpa using z
          subst z
          rw [getI_head, getI_head])
      refine ⟨⟨Nat.le_of_ble_eq_true rfl, Nat.le_of_ble_eq_true rfl, fun l hl => ?_, ?_⟩, fun l hl => ?_⟩
      · rcases List.mem_cons.mp hl with z | z
        · rw [z]; exact hv
        · rw [List.mem_singleton.mp z]; decide +kernel
      · refine .cons (fun b hb => ?_) (List.pairwise_singleton _ _)
        rw [List.mem_singleton.mp hb]
        match v, hvl, q3 with
        | a :: r, _, q3 =>
          have q3 : ¬ a = ("o" : Str) := by simpa using q3
          unfold alikeM begM
          simp only [List.length_cons, List.length_nil, List.take_succ_cons, List.take_zero, List.cons.injEq, Bool.or_eq_false_iff, decide_eq_false_iff_not]
          exact ⟨fun z => q3 z.1.symm, fun z => q3 z.1⟩
      · rcases List.mem_cons.mp hl with z | z
        · rw [z]; exact h.2 v List.mem_cons_self
        · rw [List.mem_singleton.mp z]; decide
  · have e : vs' = vs := by rw [e]; exact List.append_nil _
    subst e
    exact ⟨⟨h.1.pos, by omega, h.1.ver, h.1.apart⟩, h.2⟩
theorem flat_nils {α β : Type} (l : List α) : (l.map fun _ => ([] : List β)).flatten = [] := by
  induction l with
  | nil => rfl
  | cons a r ih => rw [List.map_cons, List.flatten_cons, ih]; rfl
theorem nil_fb {n : Nat} {F : List (List Int)} (h : FB n F) : FB n (F.map fun _ => []) := by
  refine ⟨by rw [List.length_map]; exact h.1, fun l hl => ?_⟩
  obtain ⟨m, _, rfl⟩ := List.mem_map.mp hl
  exact ⟨Nat.zero_le _, fun _ h => nomatch h⟩
theorem empty_deal {n : Nat} {rows : List (List (List Int))} {f : Int} (h : FldsOk n rows) (hf : 0 ≤ f ∧ f < 2) : (rows.set f.toNat ((getI rows f).map fun _ => ([] : List Int))).length = 2 ∧ dealM n (getI (rows.set f.toNat ((getI rows f).map fun _ => ([] : List Int))) 0) (getI (rows.set f.toNat ((getI rows f).map fun _ => ([] : List Int))) 1) = true := by
  obtain ⟨h1, h2⟩ := h.deal
  match rows, h1, h2 with
  | [A, C], _, h2 =>
    obtain ⟨g0, g1, g2⟩ := deal_iff.mp h2
    have g0 : FB n A := g0
    have g1 : FB n C := g1
    have g2 : (A.flatten ++ C.flatten).Nodup := g2
    rcases (show f = 0 ∨ f = 1 by omega) with z | z <;> subst z
    · refine ⟨rfl, ?_⟩
      show dealM n (A.map fun _ => []) C = true
      refine deal_iff.mpr ⟨nil_fb g0, g1, ?_⟩
      rw [flat_nils]
      exact (List.nodup_append.mp g2).2.1
    · refine ⟨rfl, ?_⟩
      show dealM n A (C.map fun _ => []) = true
      refine deal_iff.mpr ⟨g0, nil_fb g1, ?_⟩
      rw [flat_nils, List.append_nil]
      exact (List.nodup_append.mp g2).1
theorem rows2 {α : Type} [Inhabited α] {r : List α} (h : r.length = 2) : r = [getI r 0, getI r 1] := by
  match r, h with
  | [a, b], _ => rfl
theorem start_rel {vs : List (List Str)} {rows : List (List (List Int))} (h : rows.length = 2) : TRel (tab0 ⟨vs, getI rows 0, getI rows 1⟩) vs ⟨rows, [], none, [], (0, 0), (0, 0), none⟩ := ⟨rfl, rows2 h, rfl, rfl, rfl, rfl, rfl, rfl⟩
theorem start_S {d : DealM} : TabS (tab0 d) := fun _ h => nomatch h
theorem tab0_read {d : DealM} {v : Int} (h : tabErr d = none) (hv : 0 ≤ v ∧ v < (d.ls.length : Int)) : readErr (tab0 d) v = none := by
  unfold tabErr at h
  split at h
  · cases h
  · rename_i q
    have hw : winM (tab0 d) = none := by
      unfold winM
      show (if (none : Option (Int × Int)).isNone = true then (if cardsI d 0 = [] then some 0 else if cardsI d 1 = [] then some 1 else none) else none) = none
      rw [if_pos (show (none : Option (Int × Int)).isNone = true from rfl), if_neg (fun z => q (.inl z)), if_neg (fun z => q (.inr z))]
    unfold readErr goErr
    rw [hw]
    simp only [Option.isSome_none, Bool.false_eq_true, if_false]
    rw [if_neg (by show ¬ (none : Option (Int × Int)).isSome = true; decide)]
    have hq : qtErr (tab0 d) = none := rfl
    rw [hq]
    simp only []
    rw [show numErr (tab0 d).lying.ls.length [v] = none from okN_err (okN_mem.mpr fun x hx => by rw [List.mem_singleton.mp hx]; exact hv)]
    simp only []
    rw [if_pos]
    unfold unrM
    rw [List.mem_filter]
    exact ⟨rngI_mem.mpr hv, rfl⟩
theorem tab_not {d : DealM} : tabErr d ≠ none ↔ (decide (cardsI d 0 = []) || decide (cardsI d 1 = [])) = true := by
  unfold tabErr
  split
  · rename_i q
    simp only [Bool.or_eq_true, decide_eq_true_eq]
    exact ⟨fun _ => q, fun _ z => nomatch z⟩
  · rename_i q
    simp only [Bool.or_eq_true, decide_eq_true_eq]
    exact ⟨fun z => absurd rfl z, fun z => absurd z q⟩
abbrev s__law_opened : Stmt := topS 65
theorem sc__law_opened : FnScope ["_law_deal", "_law_table", "_law_why"] ["_law_deal"] (defScope s__law_opened) := ⟨rfl, rfl, rfl, by decide +kernel, rfl, by decide +kernel, by decide +kernel⟩
theorem vc__law_opened_which1 (deal : DealM) (xn1 : Str) (ho_deal : dealM deal.ls.length deal.F0 deal.F1 = true ∧ needM deal.ls = none) (hE1 : (tabErr (deal)) = some xn1) : xn1 = "BadDeal" := by
  unfold tabErr at hE1
  split at hE1
  · cases hE1; rfl
  · cases hE1
def R__law_opened (K : PySem.W.Frag) (C_Book C_Deal C_Table : Addr) : RlX := ⟨fun vs B Ps r => ∃ (deal : DealM), ArgsR B vs [⟨(tDeal K C_Book C_Deal), deal⟩] ∧ Ps = [] ∧ r = .ok (fun G Ps' w => ∃ q a b, w = .ref q ∧ SqT K G q [a, b] ∧ ((tabErr deal = none ∧ a = .str ("" : Str) ∧ ∃ N', Ps' = N' :: [] ∧ (stTab K C_Book C_Deal C_Table).R G N' b (tab0 deal)) ∨ (tabErr deal ≠ none ∧ a = .str ("BadDeal" : Str) ∧ b = .non ∧ Ps' = [])))⟩
theorem ok__law_opened (B : Bt mg) {C_BadDeal C_Book C_Deal C_SnatchError C_Table : Addr} (X_BadDeal : Xc K mg "BadDeal" C_BadDeal) (X_SnatchError : Xc K mg "SnatchError" C_SnatchError) (E_BadDeal_BadDeal : PySem.W.exmOne K (.ref C_BadDeal) (.ref C_BadDeal) = some true) (O_Table : OkC P w K mg base 4 C_Table "Table" ["self", "deal"] ((R_Table K C_Book C_Deal C_Table).spI mg C_Table)) (D : Df K mg "_law_opened" s__law_opened ["_law_deal"]) : Ok P w K mg base 6 "_law_opened" ["_law_deal"] ((R__law_opened K C_Book C_Deal C_Table).sp mg) := by
  refine D.ok sc__law_opened (fun vs H Q E h => ?_) (fun f cdv A outer s H vs Q E hr h => ?_)
  · obtain ⟨B0, Ps, r, _, ⟨deal, ha, _⟩, _⟩ := h
    exact ha.len
  · obtain ⟨B0, Ps, r, o00, ⟨deal, ha, rfl, rfl⟩, k⟩ := h
    obtain ⟨v1, rfl, f2⟩ := args1 ha
    have k := outX_ok k
    have o0 : Own (emp :: B0 :: (rest2 [B0] H) :: []) H := own_start o00
    have ho_deal : dealM deal.ls.length deal.F0 deal.F1 = true ∧ needM deal.ls = none := deal_ok f2
    refine ⟨_, (pss_cons (ps_set (i := 1) sc__law_opened.nd rfl (.inl rfl) pe_non)
      (pss_cons (ps_set (i := 2) sc__law_opened.nd rfl (.inl rfl) pe_str)
      (Evl.pss_cut (ps_try_many rfl rfl (takes_of rfl rfl rfl rfl)
        (fun W1 pn1 xe1 tk1 po1 => (pss_one (ps_set (i := 1) sc__law_opened.nd rfl (.inl rfl) (pe_makeO O_Table (hr.mono (by omega)) (by rfl) tk1 (pa_cons (pv 0) pa_nil)))))
        (.cons ⟨rfl, by decide, .inl X_BadDeal.g⟩ (fun a oe cls d pn hz hf => (pss_one (ps_set (i := 2) sc__law_opened.nd rfl (.inl rfl) pe_str)))
        (.cons ⟨rfl, by decide, .inl X_SnatchError.g⟩ (fun a oe cls d pn hz hf => (pss_one (ps_set (i := 2) sc__law_opened.nd rfl (.inl rfl) pe_str)))
        .nil)))
      (pss_one (ps_ret (pe_tup (pa_cons (pv 2) (pa_cons (pv 1) pa_nil)))))))), ?_⟩
    refine q_v (i := 1) o0 ev_c fun H3 o4 => ?_
    refine q_v (i := 2) o4 ev_c fun H5 o6 => ?_
    refine ⟨_, ?_, fun _ _ h => h⟩
    cases hE1 : tabErr (deal) with
    | some xn1 =>
      rcases (vc__law_opened_which1 deal xn1 ho_deal hE1) with rfl
      · refine s_er (xn := "BadDeal") (fs := []) (er_makeX (S := (R_Table K C_Book C_Deal C_Table)) o6 (ebs_cons (T := (tDeal K C_Book C_Deal)) (Own.uh o6) (ed_of (T := (tDeal K C_Book C_Deal)) (up (Own.ug o0) f2) rfl) ebs_nil) (fun vs B eB ha => ⟨_, ⟨(deal), ha, rfl, (resX_some hE1).symm⟩⟩)) (raise_hit X_BadDeal.g E_BadDeal_BadDeal fun H7 d10 a11 e8 _ _ => ?_)
        have o9 := Own.mono e8 o6
        refine s_v (i := 2) o9 ev_c fun H12 o13 => ?_
        first | show tRet _ _ _ _ | (dsimp only; show tRet _ _ _ _)
        exact s_rbX (P := fun G w => ∃ q, w = .ref q ∧ SqT K G q [.str ("BadDeal" : Str), .non]) (Ps' := []) o00 o13 (List.mem_of_getElem? (i := 0) rfl) (eb_tup (Own.uh o13) (ebs_cons (T := tIs (.str ("BadDeal" : Str))) (Own.uh o13) (ed_isv (ev_var rfl)) (ebs_cons (T := tIs (.non)) (Own.uh o13) (ed_isv (ev_var rfl)) ebs_nil)) (Nat.le_of_ble_eq_true rfl) (fun G p vs hp ha => by obtain ⟨v1, v2, rfl, h1, h2⟩ := args2 ha; cases h1; cases h2; exact ⟨p, rfl, st_of hp⟩)) k (fun G w eG ⟨q, h1, h2⟩ => ⟨q, _, _, h1, h2, .inr ⟨(fun z => by rw [hE1] at z; cases z), rfl, rfl, rfl⟩⟩)
    | none =>
      refine s_c (i := 1) (ec_make (S := (R_Table K C_Book C_Deal C_Table)) (W := (fun G Ns w => ∃ N', Ns = N' :: [rest2 [B0] H] ∧ (stTab K C_Book C_Deal C_Table).R G N' w (tab0 (deal)))) o6 (ebs_cons (T := (tDeal K C_Book C_Deal)) (Own.uh o6) (ed_of (T := (tDeal K C_Book C_Deal)) (up (Own.ug o0) f2) rfl) ebs_nil) (fun vs B eB ha => ⟨_, ⟨(deal), ha, rfl, (resX_none hE1).symm⟩, fun _ _ _ ⟨N', h1, h2⟩ => ⟨N', by rw [h1]; rfl, h2⟩⟩)) fun v14 M15 Ns16 H17 eM18 o19 ⟨N20, hNs, fS21⟩ => ?_
      subst hNs
      obtain ⟨table_a1, ha1, fS21⟩ : ∃ z : TabM, z = (tab0 (deal)) ∧ (stTab K C_Book C_Deal C_Table).R _ N20 v14 z := ⟨_, rfl, fS21⟩
      have o23 : Own (M15 :: B0 :: (N20) :: (rest2 [B0] H) :: []) H17 := o19
      first | show tRet _ _ _ _ | (dsimp only; show tRet _ _ _ _)
      exact s_rbX (P := fun G w => ∃ q, w = .ref q ∧ SqT K G q [.str ("" : Str), v14]) o00 (Own.front o23 (j := 0) rfl) (List.mem_of_getElem? (i := 0) rfl) (eb_tup (Own.uh o23) (ebs_cons (T := tIs (.str ("" : Str))) (Own.uh o23) (ed_isv (ev_var rfl)) (ebs_cons (T := tIs (v14)) (Own.uh o23) (ed_isv (ev_var rfl)) ebs_nil)) (Nat.le_of_ble_eq_true rfl) (fun G p vs hp ha => by obtain ⟨v1, v2, rfl, h1, h2⟩ := args2 ha; cases h1; cases h2; exact ⟨p, rfl, st_of hp⟩)) k (fun G w eG ⟨q, h1, h2⟩ => ⟨q, _, _, h1, h2, .inl ⟨hE1, rfl, _, rfl, (St.up _ eG (by rw [← ha1]; exact fS21))⟩⟩)
abbrev s_law : Stmt := topS 66
theorem sc_law : FnScope ["_law_script", "_law_numbers_here", "_law_verses", "_law_rows", "_law_field", "_law_deal", "_law_empty", "_law_why", "_law_table", "_law_other", "_law_told", "_law_row"] ["_law_script"] (defScope s_law) := ⟨rfl, rfl, rfl, by decide +kernel, rfl, by decide +kernel, by decide +kernel⟩
theorem vc_law_pre_numbers1 (script : (List Int)) (hn0 : script.length ≤ 63) : 0 ≤ (360 : Int) ∧ (360 : Int) ≤ 5000 := by
  decide
theorem vc_law_ix1 (script : (List Int)) (numbers_here_r1 : (List Int)) (hn0 : script.length ≤ 63) (hr1 : Nums ((360 : Int)).toNat numbers_here_r1) : -((numbers_here_r1).length : Int) ≤ (0 : Int) ∧ (0 : Int) < (numbers_here_r1).length := by
  have hN : numbers_here_r1.length = 360 := hr1.1
  omega
theorem vc_law_ix2 (script : (List Int)) (numbers_here_r1 : (List Int)) (hn0 : script.length ≤ 63) (hr1 : Nums ((360 : Int)).toNat numbers_here_r1) : -((([(3 : Int), (14 : Int), (40 : Int)] : List Int)).length : Int) ≤ (getI numbers_here_r1 (0 : Int)) % (3 : Int) ∧ (getI numbers_here_r1 (0 : Int)) % (3 : Int) < (([(3 : Int), (14 : Int), (40 : Int)] : List Int)).length := by
  simp only [List.length_cons, List.length_nil]
  omega
theorem vc_law_pre_book1 (script : (List Int)) (numbers_here_r1 : (List Int)) (hn0 : script.length ≤ 63) (hr1 : Nums ((360 : Int)).toNat numbers_here_r1) : (∀ x ∈ cutI numbers_here_r1 (some (60 : Int)) none, (0 : Int) ≤ x ∧ x < 9967) ∧ 9 + 6 * (getI (([(3 : Int), (14 : Int), (40 : Int)] : List Int)) ((getI numbers_here_r1 (0 : Int)) % (3 : Int))) ≤ (cutI numbers_here_r1 (some (60 : Int)) none).length ∧ 1 ≤ getI (([(3 : Int), (14 : Int), (40 : Int)] : List Int)) ((getI numbers_here_r1 (0 : Int)) % (3 : Int)) ∧ getI (([(3 : Int), (14 : Int), (40 : Int)] : List Int)) ((getI numbers_here_r1 (0 : Int)) % (3 : Int)) ≤ 40 := by
  first
  | exact book_pre 40 (by wtm_at "asm") (get3_rng (by decide) (by decide) (by decide)) (by decide) (by decide) (by decide)
  | exact book_pre 30 (by wtm_at "asm") (get3_rng (by decide) (by decide) (by decide)) (by decide) (by decide) (by decide)
  | exact book_pre 20 (by wtm_at "asm") (get3_rng (by decide) (by decide) (by decide)) (by decide) (by decide) (by decide)
  | exact book_pre 14 (by wtm_at "asm") (get3_rng (by decide) (by decide) (by decide)) (by decide) (by decide) (by decide)
  | exact book_pre 14 (by wtm_at "asm") (by decide) (by decide) (by decide) (by decide)
theorem vc_law_ix3 (script : (List Int)) (numbers_here_r1 : (List Int)) (verses_r2 : (List (List Str))) (hn0 : script.length ≤ 63) (hr1 : Nums ((360 : Int)).toNat numbers_here_r1) (hr2 : (GB (getI (([(3 : Int), (14 : Int), (40 : Int)] : List Int)) ((getI numbers_here_r1 (0 : Int)) % (3 : Int))).toNat verses_r2 ∧ ∀ l ∈ verses_r2, l.length ≤ 1000)) (hc15 : (decide ((((verses_r2).length : Int)) = (1 : Int))) = true) : -((verses_r2).length : Int) ≤ (0 : Int) ∧ (0 : Int) < (verses_r2).length := by
  have := hr2.1.pos
  omega
theorem vc_law_ix4 (script : (List Int)) (numbers_here_r1 : (List Int)) (verses_r2 : (List (List Str))) (hn0 : script.length ≤ 63) (hr1 : Nums ((360 : Int)).toNat numbers_here_r1) (hr2 : (GB (getI (([(3 : Int), (14 : Int), (40 : Int)] : List Int)) ((getI numbers_here_r1 (0 : Int)) % (3 : Int))).toNat verses_r2 ∧ ∀ l ∈ verses_r2, l.length ≤ 1000)) (hc15 : (decide ((((verses_r2).length : Int)) = (1 : Int))) = true) : -((getI verses_r2 (0 : Int)).length : Int) ≤ (0 : Int) ∧ (0 : Int) < (getI verses_r2 (0 : Int)).length := by
  have h0 := hr2.1.pos
  have hv := hr2.1.ver _ (getI_mem (l := verses_r2) (i := 0) (by omega))
  unfold isVer at hv
  simp only [Bool.and_eq_true, decide_eq_true_eq] at hv
  omega
theorem vc_law_rep1 (script : (List Int)) (numbers_here_r1 : (List Int)) (verses_r2 : (List (List Str))) (hn0 : script.length ≤ 63) (hr1 : Nums ((360 : Int)).toNat numbers_here_r1) (hr2 : (GB (getI (([(3 : Int), (14 : Int), (40 : Int)] : List Int)) ((getI numbers_here_r1 (0 : Int)) % (3 : Int))).toNat verses_r2 ∧ ∀ l ∈ verses_r2, l.length ≤ 1000)) : -1000 ≤ (if (((decide ((((verses_r2).length : Int)) = (1 : Int))) && (!decide ((getI (getI verses_r2 (0 : Int)) (0 : Int)) = (("o" : Str)))))) = true then (1 : Int) else 0) ∧ (if (((decide ((((verses_r2).length : Int)) = (1 : Int))) && (!decide ((getI (getI verses_r2 (0 : Int)) (0 : Int)) = (("o" : Str)))))) = true then (1 : Int) else 0) ≤ 1000 ∧ (([([("o" : Str)] : List Str)] : List (List Str))).length ≤ 40 := by
  refine ⟨?_, ?_, by decide⟩ <;> split <;> omega
theorem vc_law_cat1 (script : (List Int)) (numbers_here_r1 : (List Int)) (verses_r2 : (List (List Str))) (hn0 : script.length ≤ 63) (hr1 : Nums ((360 : Int)).toNat numbers_here_r1) (hr2 : (GB (getI (([(3 : Int), (14 : Int), (40 : Int)] : List Int)) ((getI numbers_here_r1 (0 : Int)) % (3 : Int))).toNat verses_r2 ∧ ∀ l ∈ verses_r2, l.length ≤ 1000)) : (verses_r2).length + (repI (([([("o" : Str)] : List Str)] : List (List Str))) ((if (((decide ((((verses_r2).length : Int)) = (1 : Int))) && (!decide ((getI (getI verses_r2 (0 : Int)) (0 : Int)) = (("o" : Str)))))) = true then (1 : Int) else 0))).length ≤ 40000 := by
  have := hr2.1.len
  have h3 := get3_le (a := 3) (b := 14) (c := 40) (x := getI numbers_here_r1 0) (M := 40) (by decide) (by decide) (by decide)
  rw [repI_len]
  split <;> simp only [List.length_singleton] <;> omega
theorem vc_law_pre_fields1 (script : (List Int)) (numbers_here_r1 : (List Int)) (verses_r2 : (List (List Str))) (verses_a1 : (List (List Str))) (hn0 : script.length ≤ 63) (hr1 : Nums ((360 : Int)).toNat numbers_here_r1) (hr2 : (GB (getI (([(3 : Int), (14 : Int), (40 : Int)] : List Int)) ((getI numbers_here_r1 (0 : Int)) % (3 : Int))).toNat verses_r2 ∧ ∀ l ∈ verses_r2, l.length ≤ 1000)) (ha1 : verses_a1 = verses_r2 ++ (repI (([([("o" : Str)] : List Str)] : List (List Str))) ((if (((decide ((((verses_r2).length : Int)) = (1 : Int))) && (!decide ((getI (getI verses_r2 (0 : Int)) (0 : Int)) = (("o" : Str)))))) = true then (1 : Int) else 0)))) : (∀ x ∈ cutI numbers_here_r1 (some (5 : Int)) none, (0 : Int) ≤ x ∧ x < 9967) ∧ 0 ≤ ((verses_a1).length : Int) ∧ 3 + ((verses_a1).length : Int) ≤ (cutI numbers_here_r1 (some (5 : Int)) none).length ∧ ((verses_a1).length : Int) ≤ 1000 := by
  have hv := addO_ok hr2 (get3_le (by decide) (by decide) (by decide)) ha1
  have hb := book_lens hv (by decide)
  have hl40 := hv.1.len
  have hN : numbers_here_r1.length = 360 := hr1.1
  have h1p := hv.1.pos
  exact flds_pre 40 hr1 hv (by decide) (by decide) (by decide) (by decide)
theorem vc_law_ix5 (script : (List Int)) (numbers_here_r1 : (List Int)) (verses_r2 : (List (List Str))) (verses_a1 : (List (List Str))) (rows_r3 : (List (List (List Int)))) (hn0 : script.length ≤ 63) (hr1 : Nums ((360 : Int)).toNat numbers_here_r1) (hr2 : (GB (getI (([(3 : Int), (14 : Int), (40 : Int)] : List Int)) ((getI numbers_here_r1 (0 : Int)) % (3 : Int))).toNat verses_r2 ∧ ∀ l ∈ verses_r2, l.length ≤ 1000)) (ha1 : verses_a1 = verses_r2 ++ (repI (([([("o" : Str)] : List Str)] : List (List Str))) ((if (((decide ((((verses_r2).length : Int)) = (1 : Int))) && (!decide ((getI (getI verses_r2 (0 : Int)) (0 : Int)) = (("o" : Str)))))) = true then (1 : Int) else 0)))) (hr3 : FldsOk (((verses_a1).length : Int)).toNat rows_r3) (hb29 : (rows_r3).length ≤ 40000) : -((numbers_here_r1).length : Int) ≤ (1 : Int) ∧ (1 : Int) < (numbers_here_r1).length := by
  have hN : numbers_here_r1.length = 360 := hr1.1
  omega
theorem vc_law_ix6 (script : (List Int)) (numbers_here_r1 : (List Int)) (verses_r2 : (List (List Str))) (verses_a1 : (List (List Str))) (rows_r3 : (List (List (List Int)))) (hn0 : script.length ≤ 63) (hr1 : Nums ((360 : Int)).toNat numbers_here_r1) (hr2 : (GB (getI (([(3 : Int), (14 : Int), (40 : Int)] : List Int)) ((getI numbers_here_r1 (0 : Int)) % (3 : Int))).toNat verses_r2 ∧ ∀ l ∈ verses_r2, l.length ≤ 1000)) (ha1 : verses_a1 = verses_r2 ++ (repI (([([("o" : Str)] : List Str)] : List (List Str))) ((if (((decide ((((verses_r2).length : Int)) = (1 : Int))) && (!decide ((getI (getI verses_r2 (0 : Int)) (0 : Int)) = (("o" : Str)))))) = true then (1 : Int) else 0)))) (hr3 : FldsOk (((verses_a1).length : Int)).toNat rows_r3) (hb29 : (rows_r3).length ≤ 40000) (c1 : (decide (((getI numbers_here_r1 (1 : Int)) % (3 : Int)) = (2 : Int))) = true) : -((numbers_here_r1).length : Int) ≤ (2 : Int) ∧ (2 : Int) < (numbers_here_r1).length := by
  have hN : numbers_here_r1.length = 360 := hr1.1
  omega
theorem vc_law_ix7 (script : (List Int)) (numbers_here_r1 : (List Int)) (verses_r2 : (List (List Str))) (verses_a1 : (List (List Str))) (rows_r3 : (List (List (List Int)))) (hn0 : script.length ≤ 63) (hr1 : Nums ((360 : Int)).toNat numbers_here_r1) (hr2 : (GB (getI (([(3 : Int), (14 : Int), (40 : Int)] : List Int)) ((getI numbers_here_r1 (0 : Int)) % (3 : Int))).toNat verses_r2 ∧ ∀ l ∈ verses_r2, l.length ≤ 1000)) (ha1 : verses_a1 = verses_r2 ++ (repI (([([("o" : Str)] : List Str)] : List (List Str))) ((if (((decide ((((verses_r2).length : Int)) = (1 : Int))) && (!decide ((getI (getI verses_r2 (0 : Int)) (0 : Int)) = (("o" : Str)))))) = true then (1 : Int) else 0)))) (hr3 : FldsOk (((verses_a1).length : Int)).toNat rows_r3) (hb29 : (rows_r3).length ≤ 40000) (c1 : (decide (((getI numbers_here_r1 (1 : Int)) % (3 : Int)) = (2 : Int))) = true) : -((rows_r3).length : Int) ≤ (getI numbers_here_r1 (2 : Int)) % (2 : Int) ∧ (getI numbers_here_r1 (2 : Int)) % (2 : Int) < (rows_r3).length := by
  have hf : (0 : Int) ≤ getI numbers_here_r1 2 % 2 ∧ getI numbers_here_r1 2 % 2 < 2 := by omega
  have he := FldsOk.deal hr3
  rw [he.1]
  omega
theorem vc_law_set1 (script : (List Int)) (numbers_here_r1 : (List Int)) (verses_r2 : (List (List Str))) (verses_a1 : (List (List Str))) (rows_r3 : (List (List (List Int)))) (hn0 : script.length ≤ 63) (hr1 : Nums ((360 : Int)).toNat numbers_here_r1) (hr2 : (GB (getI (([(3 : Int), (14 : Int), (40 : Int)] : List Int)) ((getI numbers_here_r1 (0 : Int)) % (3 : Int))).toNat verses_r2 ∧ ∀ l ∈ verses_r2, l.length ≤ 1000)) (ha1 : verses_a1 = verses_r2 ++ (repI (([([("o" : Str)] : List Str)] : List (List Str))) ((if (((decide ((((verses_r2).length : Int)) = (1 : Int))) && (!decide ((getI (getI verses_r2 (0 : Int)) (0 : Int)) = (("o" : Str)))))) = true then (1 : Int) else 0)))) (hr3 : FldsOk (((verses_a1).length : Int)).toNat rows_r3) (hb29 : (rows_r3).length ≤ 40000) (c1 : (decide (((getI numbers_here_r1 (1 : Int)) % (3 : Int)) = (2 : Int))) = true) : 0 ≤ (getI numbers_here_r1 (2 : Int)) % (2 : Int) ∧ (getI numbers_here_r1 (2 : Int)) % (2 : Int) < (rows_r3).length := by
  have hf : (0 : Int) ≤ getI numbers_here_r1 2 % 2 ∧ getI numbers_here_r1 2 % 2 < 2 := by omega
  have he := FldsOk.deal hr3
  rw [he.1]
  omega
theorem vc_law_pre_copy1 (script : (List Int)) (numbers_here_r1 : (List Int)) (verses_r2 : (List (List Str))) (verses_a1 : (List (List Str))) (rows_r3 : (List (List (List Int)))) (hn0 : script.length ≤ 63) (hr1 : Nums ((360 : Int)).toNat numbers_here_r1) (hr2 : (GB (getI (([(3 : Int), (14 : Int), (40 : Int)] : List Int)) ((getI numbers_here_r1 (0 : Int)) % (3 : Int))).toNat verses_r2 ∧ ∀ l ∈ verses_r2, l.length ≤ 1000)) (ha1 : verses_a1 = verses_r2 ++ (repI (([([("o" : Str)] : List Str)] : List (List Str))) ((if (((decide ((((verses_r2).length : Int)) = (1 : Int))) && (!decide ((getI (getI verses_r2 (0 : Int)) (0 : Int)) = (("o" : Str)))))) = true then (1 : Int) else 0)))) (hr3 : FldsOk (((verses_a1).length : Int)).toNat rows_r3) (hb29 : (rows_r3).length ≤ 40000) (c1 : (decide (((getI numbers_here_r1 (1 : Int)) % (3 : Int)) = (2 : Int))) = true) (hb43 : ((rows_r3).set ((getI numbers_here_r1 (2 : Int)) % (2 : Int)).toNat ((getI rows_r3 ((getI numbers_here_r1 (2 : Int)) % (2 : Int))).map fun e1 => ([] : List Int))).length ≤ 40000) : (verses_a1).length ≤ 1000 ∧ ∀ l ∈ verses_a1, l.length ≤ 1000 := by
  have hv := addO_ok hr2 (get3_le (by decide) (by decide) (by decide)) ha1
  have hb := book_lens hv (by decide)
  have hl40 := hv.1.len
  have hN : numbers_here_r1.length = 360 := hr1.1
  have h1p := hv.1.pos
  exact hb.2
theorem vc_law_pre_Book1 (script : (List Int)) (numbers_here_r1 : (List Int)) (verses_r2 : (List (List Str))) (verses_a1 : (List (List Str))) (rows_r3 : (List (List (List Int)))) (hn0 : script.length ≤ 63) (hr1 : Nums ((360 : Int)).toNat numbers_here_r1) (hr2 : (GB (getI (([(3 : Int), (14 : Int), (40 : Int)] : List Int)) ((getI numbers_here_r1 (0 : Int)) % (3 : Int))).toNat verses_r2 ∧ ∀ l ∈ verses_r2, l.length ≤ 1000)) (ha1 : verses_a1 = verses_r2 ++ (repI (([([("o" : Str)] : List Str)] : List (List Str))) ((if (((decide ((((verses_r2).length : Int)) = (1 : Int))) && (!decide ((getI (getI verses_r2 (0 : Int)) (0 : Int)) = (("o" : Str)))))) = true then (1 : Int) else 0)))) (hr3 : FldsOk (((verses_a1).length : Int)).toNat rows_r3) (hb29 : (rows_r3).length ≤ 40000) (c1 : (decide (((getI numbers_here_r1 (1 : Int)) % (3 : Int)) = (2 : Int))) = true) (hb43 : ((rows_r3).set ((getI numbers_here_r1 (2 : Int)) % (2 : Int)).toNat ((getI rows_r3 ((getI numbers_here_r1 (2 : Int)) % (2 : Int))).map fun e1 => ([] : List Int))).length ≤ 40000) : needM (verses_a1) = none ∧ (verses_a1).length ≤ 1000 ∧ ∀ l ∈ verses_a1, l.length ≤ 1000 := by
  have hv := addO_ok hr2 (get3_le (by decide) (by decide) (by decide)) ha1
  have hb := book_lens hv (by decide)
  have hl40 := hv.1.len
  have hN : numbers_here_r1.length = 360 := hr1.1
  have h1p := hv.1.pos
  exact hb
theorem vc_law_pre_made1 (script : (List Int)) (numbers_here_r1 : (List Int)) (verses_r2 : (List (List Str))) (verses_a1 : (List (List Str))) (rows_r3 : (List (List (List Int)))) (hn0 : script.length ≤ 63) (hr1 : Nums ((360 : Int)).toNat numbers_here_r1) (hr2 : (GB (getI (([(3 : Int), (14 : Int), (40 : Int)] : List Int)) ((getI numbers_here_r1 (0 : Int)) % (3 : Int))).toNat verses_r2 ∧ ∀ l ∈ verses_r2, l.length ≤ 1000)) (ha1 : verses_a1 = verses_r2 ++ (repI (([([("o" : Str)] : List Str)] : List (List Str))) ((if (((decide ((((verses_r2).length : Int)) = (1 : Int))) && (!decide ((getI (getI verses_r2 (0 : Int)) (0 : Int)) = (("o" : Str)))))) = true then (1 : Int) else 0)))) (hr3 : FldsOk (((verses_a1).length : Int)).toNat rows_r3) (hb29 : (rows_r3).length ≤ 40000) (c1 : (decide (((getI numbers_here_r1 (1 : Int)) % (3 : Int)) = (2 : Int))) = true) (hb43 : ((rows_r3).set ((getI numbers_here_r1 (2 : Int)) % (2 : Int)).toNat ((getI rows_r3 ((getI numbers_here_r1 (2 : Int)) % (2 : Int))).map fun e1 => ([] : List Int))).length ≤ 40000) : ((rows_r3).set ((getI numbers_here_r1 (2 : Int)) % (2 : Int)).toNat ((getI rows_r3 ((getI numbers_here_r1 (2 : Int)) % (2 : Int))).map fun e1 => ([] : List Int))).length = 2 ∧ dealM (verses_a1).length (getI ((rows_r3).set ((getI numbers_here_r1 (2 : Int)) % (2 : Int)).toNat ((getI rows_r3 ((getI numbers_here_r1 (2 : Int)) % (2 : Int))).map fun e1 => ([] : List Int))) 0) (getI ((rows_r3).set ((getI numbers_here_r1 (2 : Int)) % (2 : Int)).toNat ((getI rows_r3 ((getI numbers_here_r1 (2 : Int)) % (2 : Int))).map fun e1 => ([] : List Int))) 1) = true := by
  have hv := addO_ok hr2 (get3_le (by decide) (by decide) (by decide)) ha1
  have hb := book_lens hv (by decide)
  have hl40 := hv.1.len
  have hN : numbers_here_r1.length = 360 := hr1.1
  have h1p := hv.1.pos
  have hf : (0 : Int) ≤ getI numbers_here_r1 2 % 2 ∧ getI numbers_here_r1 2 % 2 < 2 := by omega
  have he := empty_deal (n := verses_a1.length) hr3 hf
  exact he
theorem vc_law_pre_cards1 (script : (List Int)) (numbers_here_r1 : (List Int)) (verses_r2 : (List (List Str))) (verses_a1 : (List (List Str))) (rows_r3 : (List (List (List Int)))) (deal_a2 : DealM) (hn0 : script.length ≤ 63) (hr1 : Nums ((360 : Int)).toNat numbers_here_r1) (hr2 : (GB (getI (([(3 : Int), (14 : Int), (40 : Int)] : List Int)) ((getI numbers_here_r1 (0 : Int)) % (3 : Int))).toNat verses_r2 ∧ ∀ l ∈ verses_r2, l.length ≤ 1000)) (ha1 : verses_a1 = verses_r2 ++ (repI (([([("o" : Str)] : List Str)] : List (List Str))) ((if (((decide ((((verses_r2).length : Int)) = (1 : Int))) && (!decide ((getI (getI verses_r2 (0 : Int)) (0 : Int)) = (("o" : Str)))))) = true then (1 : Int) else 0)))) (hr3 : FldsOk (((verses_a1).length : Int)).toNat rows_r3) (hb29 : (rows_r3).length ≤ 40000) (c1 : (decide (((getI numbers_here_r1 (1 : Int)) % (3 : Int)) = (2 : Int))) = true) (hb43 : ((rows_r3).set ((getI numbers_here_r1 (2 : Int)) % (2 : Int)).toNat ((getI rows_r3 ((getI numbers_here_r1 (2 : Int)) % (2 : Int))).map fun e1 => ([] : List Int))).length ≤ 40000) (ha2 : deal_a2 = (⟨verses_a1, getI ((rows_r3).set ((getI numbers_here_r1 (2 : Int)) % (2 : Int)).toNat ((getI rows_r3 ((getI numbers_here_r1 (2 : Int)) % (2 : Int))).map fun e1 => ([] : List Int))) 0, getI ((rows_r3).set ((getI numbers_here_r1 (2 : Int)) % (2 : Int)).toNat ((getI rows_r3 ((getI numbers_here_r1 (2 : Int)) % (2 : Int))).map fun e1 => ([] : List Int))) 1⟩ : DealM)) : (0 ≤ ((0 : Int)) ∧ ((0 : Int)) < (((rows_r3).set ((getI numbers_here_r1 (2 : Int)) % (2 : Int)).toNat ((getI rows_r3 ((getI numbers_here_r1 (2 : Int)) % (2 : Int))).map fun e1 => ([] : List Int))).length : Int)) := by
  have hv := addO_ok hr2 (get3_le (by decide) (by decide) (by decide)) ha1
  have hb := book_lens hv (by decide)
  have hl40 := hv.1.len
  have hN : numbers_here_r1.length = 360 := hr1.1
  have h1p := hv.1.pos
  have hf : (0 : Int) ≤ getI numbers_here_r1 2 % 2 ∧ getI numbers_here_r1 2 % 2 < 2 := by omega
  have he := empty_deal (n := verses_a1.length) hr3 hf
  rw [he.1]
  decide
theorem vc_law_pre_cards2 (script : (List Int)) (numbers_here_r1 : (List Int)) (verses_r2 : (List (List Str))) (verses_a1 : (List (List Str))) (rows_r3 : (List (List (List Int)))) (deal_a2 : DealM) (hn0 : script.length ≤ 63) (hr1 : Nums ((360 : Int)).toNat numbers_here_r1) (hr2 : (GB (getI (([(3 : Int), (14 : Int), (40 : Int)] : List Int)) ((getI numbers_here_r1 (0 : Int)) % (3 : Int))).toNat verses_r2 ∧ ∀ l ∈ verses_r2, l.length ≤ 1000)) (ha1 : verses_a1 = verses_r2 ++ (repI (([([("o" : Str)] : List Str)] : List (List Str))) ((if (((decide ((((verses_r2).length : Int)) = (1 : Int))) && (!decide ((getI (getI verses_r2 (0 : Int)) (0 : Int)) = (("o" : Str)))))) = true then (1 : Int) else 0)))) (hr3 : FldsOk (((verses_a1).length : Int)).toNat rows_r3) (hb29 : (rows_r3).length ≤ 40000) (c1 : (decide (((getI numbers_here_r1 (1 : Int)) % (3 : Int)) = (2 : Int))) = true) (hb43 : ((rows_r3).set ((getI numbers_here_r1 (2 : Int)) % (2 : Int)).toNat ((getI rows_r3 ((getI numbers_here_r1 (2 : Int)) % (2 : Int))).map fun e1 => ([] : List Int))).length ≤ 40000) (ha2 : deal_a2 = (⟨verses_a1, getI ((rows_r3).set ((getI numbers_here_r1 (2 : Int)) % (2 : Int)).toNat ((getI rows_r3 ((getI numbers_here_r1 (2 : Int)) % (2 : Int))).map fun e1 => ([] : List Int))) 0, getI ((rows_r3).set ((getI numbers_here_r1 (2 : Int)) % (2 : Int)).toNat ((getI rows_r3 ((getI numbers_here_r1 (2 : Int)) % (2 : Int))).map fun e1 => ([] : List Int))) 1⟩ : DealM)) : ((getI ((rows_r3).set ((getI numbers_here_r1 (2 : Int)) % (2 : Int)).toNat ((getI rows_r3 ((getI numbers_here_r1 (2 : Int)) % (2 : Int))).map fun e1 => ([] : List Int))) ((0 : Int))).flatten).length ≤ 40000 := by
  have hv := addO_ok hr2 (get3_le (by decide) (by decide) (by decide)) ha1
  have hb := book_lens hv (by decide)
  have hl40 := hv.1.len
  have hN : numbers_here_r1.length = 360 := hr1.1
  have h1p := hv.1.pos
  have hf : (0 : Int) ≤ getI numbers_here_r1 2 % 2 ∧ getI numbers_here_r1 2 % 2 < 2 := by omega
  have he := empty_deal (n := verses_a1.length) hr3 hf
  exact cards40 (d := ⟨verses_a1, _, _⟩) he.2 0
theorem vc_law_pre_cards3 (script : (List Int)) (numbers_here_r1 : (List Int)) (verses_r2 : (List (List Str))) (verses_a1 : (List (List Str))) (rows_r3 : (List (List (List Int)))) (deal_a2 : DealM) (hn0 : script.length ≤ 63) (hr1 : Nums ((360 : Int)).toNat numbers_here_r1) (hr2 : (GB (getI (([(3 : Int), (14 : Int), (40 : Int)] : List Int)) ((getI numbers_here_r1 (0 : Int)) % (3 : Int))).toNat verses_r2 ∧ ∀ l ∈ verses_r2, l.length ≤ 1000)) (ha1 : verses_a1 = verses_r2 ++ (repI (([([("o" : Str)] : List Str)] : List (List Str))) ((if (((decide ((((verses_r2).length : Int)) = (1 : Int))) && (!decide ((getI (getI verses_r2 (0 : Int)) (0 : Int)) = (("o" : Str)))))) = true then (1 : Int) else 0)))) (hr3 : FldsOk (((verses_a1).length : Int)).toNat rows_r3) (hb29 : (rows_r3).length ≤ 40000) (c1 : (decide (((getI numbers_here_r1 (1 : Int)) % (3 : Int)) = (2 : Int))) = true) (hb43 : ((rows_r3).set ((getI numbers_here_r1 (2 : Int)) % (2 : Int)).toNat ((getI rows_r3 ((getI numbers_here_r1 (2 : Int)) % (2 : Int))).map fun e1 => ([] : List Int))).length ≤ 40000) (ha2 : deal_a2 = (⟨verses_a1, getI ((rows_r3).set ((getI numbers_here_r1 (2 : Int)) % (2 : Int)).toNat ((getI rows_r3 ((getI numbers_here_r1 (2 : Int)) % (2 : Int))).map fun e1 => ([] : List Int))) 0, getI ((rows_r3).set ((getI numbers_here_r1 (2 : Int)) % (2 : Int)).toNat ((getI rows_r3 ((getI numbers_here_r1 (2 : Int)) % (2 : Int))).map fun e1 => ([] : List Int))) 1⟩ : DealM)) (hc54 : (decide (((getI ((rows_r3).set ((getI numbers_here_r1 (2 : Int)) % (2 : Int)).toNat ((getI rows_r3 ((getI numbers_here_r1 (2 : Int)) % (2 : Int))).map fun e1 => ([] : List Int))) ((0 : Int))).flatten) = (([] : List Int)))) = false) : (0 ≤ ((1 : Int)) ∧ ((1 : Int)) < (((rows_r3).set ((getI numbers_here_r1 (2 : Int)) % (2 : Int)).toNat ((getI rows_r3 ((getI numbers_here_r1 (2 : Int)) % (2 : Int))).map fun e1 => ([] : List Int))).length : Int)) := by
  have hv := addO_ok hr2 (get3_le (by decide) (by decide) (by decide)) ha1
  have hb := book_lens hv (by decide)
  have hl40 := hv.1.len
  have hN : numbers_here_r1.length = 360 := hr1.1
  have h1p := hv.1.pos
  have hf : (0 : Int) ≤ getI numbers_here_r1 2 % 2 ∧ getI numbers_here_r1 2 % 2 < 2 := by omega
  have he := empty_deal (n := verses_a1.length) hr3 hf
  rw [he.1]
  decide
theorem vc_law_pre_cards4 (script : (List Int)) (numbers_here_r1 : (List Int)) (verses_r2 : (List (List Str))) (verses_a1 : (List (List Str))) (rows_r3 : (List (List (List Int)))) (deal_a2 : DealM) (hn0 : script.length ≤ 63) (hr1 : Nums ((360 : Int)).toNat numbers_here_r1) (hr2 : (GB (getI (([(3 : Int), (14 : Int), (40 : Int)] : List Int)) ((getI numbers_here_r1 (0 : Int)) % (3 : Int))).toNat verses_r2 ∧ ∀ l ∈ verses_r2, l.length ≤ 1000)) (ha1 : verses_a1 = verses_r2 ++ (repI (([([("o" : Str)] : List Str)] : List (List Str))) ((if (((decide ((((verses_r2).length : Int)) = (1 : Int))) && (!decide ((getI (getI verses_r2 (0 : Int)) (0 : Int)) = (("o" : Str)))))) = true then (1 : Int) else 0)))) (hr3 : FldsOk (((verses_a1).length : Int)).toNat rows_r3) (hb29 : (rows_r3).length ≤ 40000) (c1 : (decide (((getI numbers_here_r1 (1 : Int)) % (3 : Int)) = (2 : Int))) = true) (hb43 : ((rows_r3).set ((getI numbers_here_r1 (2 : Int)) % (2 : Int)).toNat ((getI rows_r3 ((getI numbers_here_r1 (2 : Int)) % (2 : Int))).map fun e1 => ([] : List Int))).length ≤ 40000) (ha2 : deal_a2 = (⟨verses_a1, getI ((rows_r3).set ((getI numbers_here_r1 (2 : Int)) % (2 : Int)).toNat ((getI rows_r3 ((getI numbers_here_r1 (2 : Int)) % (2 : Int))).map fun e1 => ([] : List Int))) 0, getI ((rows_r3).set ((getI numbers_here_r1 (2 : Int)) % (2 : Int)).toNat ((getI rows_r3 ((getI numbers_here_r1 (2 : Int)) % (2 : Int))).map fun e1 => ([] : List Int))) 1⟩ : DealM)) (hc54 : (decide (((getI ((rows_r3).set ((getI numbers_here_r1 (2 : Int)) % (2 : Int)).toNat ((getI rows_r3 ((getI numbers_here_r1 (2 : Int)) % (2 : Int))).map fun e1 => ([] : List Int))) ((0 : Int))).flatten) = (([] : List Int)))) = false) : ((getI ((rows_r3).set ((getI numbers_here_r1 (2 : Int)) % (2 : Int)).toNat ((getI rows_r3 ((getI numbers_here_r1 (2 : Int)) % (2 : Int))).map fun e1 => ([] : List Int))) ((1 : Int))).flatten).length ≤ 40000 := by
  have hv := addO_ok hr2 (get3_le (by decide) (by decide) (by decide)) ha1
  have hb := book_lens hv (by decide)
  have hl40 := hv.1.len
  have hN : numbers_here_r1.length = 360 := hr1.1
  have h1p := hv.1.pos
  have hf : (0 : Int) ≤ getI numbers_here_r1 2 % 2 ∧ getI numbers_here_r1 2 % 2 < 2 := by omega
  have he := empty_deal (n := verses_a1.length) hr3 hf
  exact cards40 (d := ⟨verses_a1, _, _⟩) he.2 1
theorem vc_law_ret1 (script : (List Int)) (numbers_here_r1 : (List Int)) (verses_r2 : (List (List Str))) (verses_a1 : (List (List Str))) (rows_r3 : (List (List (List Int)))) (deal_a2 : DealM) (empty_a3 : Bool) (hn0 : script.length ≤ 63) (hr1 : Nums ((360 : Int)).toNat numbers_here_r1) (hr2 : (GB (getI (([(3 : Int), (14 : Int), (40 : Int)] : List Int)) ((getI numbers_here_r1 (0 : Int)) % (3 : Int))).toNat verses_r2 ∧ ∀ l ∈ verses_r2, l.length ≤ 1000)) (ha1 : verses_a1 = verses_r2 ++ (repI (([([("o" : Str)] : List Str)] : List (List Str))) ((if (((decide ((((verses_r2).length : Int)) = (1 : Int))) && (!decide ((getI (getI verses_r2 (0 : Int)) (0 : Int)) = (("o" : Str)))))) = true then (1 : Int) else 0)))) (hr3 : FldsOk (((verses_a1).length : Int)).toNat rows_r3) (hb29 : (rows_r3).length ≤ 40000) (c1 : (decide (((getI numbers_here_r1 (1 : Int)) % (3 : Int)) = (2 : Int))) = true) (hb43 : ((rows_r3).set ((getI numbers_here_r1 (2 : Int)) % (2 : Int)).toNat ((getI rows_r3 ((getI numbers_here_r1 (2 : Int)) % (2 : Int))).map fun e1 => ([] : List Int))).length ≤ 40000) (ha2 : deal_a2 = (⟨verses_a1, getI ((rows_r3).set ((getI numbers_here_r1 (2 : Int)) % (2 : Int)).toNat ((getI rows_r3 ((getI numbers_here_r1 (2 : Int)) % (2 : Int))).map fun e1 => ([] : List Int))) 0, getI ((rows_r3).set ((getI numbers_here_r1 (2 : Int)) % (2 : Int)).toNat ((getI rows_r3 ((getI numbers_here_r1 (2 : Int)) % (2 : Int))).map fun e1 => ([] : List Int))) 1⟩ : DealM)) (ha3 : empty_a3 = ((decide (((getI ((rows_r3).set ((getI numbers_here_r1 (2 : Int)) % (2 : Int)).toNat ((getI rows_r3 ((getI numbers_here_r1 (2 : Int)) % (2 : Int))).map fun e1 => ([] : List Int))) ((0 : Int))).flatten) = (([] : List Int)))) || (decide (((getI ((rows_r3).set ((getI numbers_here_r1 (2 : Int)) % (2 : Int)).toNat ((getI rows_r3 ((getI numbers_here_r1 (2 : Int)) % (2 : Int))).map fun e1 => ([] : List Int))) ((1 : Int))).flatten) = (([] : List Int)))))) (hT : tabErr deal_a2 = none) (c2 : empty_a3 = true) : (true) = (decide ((("" : Str)) = (("BadDeal" : Str)))) := by
  rw [ha3] at c2
  rw [ha2] at hT
  exact absurd hT (tab_not.mpr c2)
theorem vc_law_safe1 (script : (List Int)) (numbers_here_r1 : (List Int)) (verses_r2 : (List (List Str))) (verses_a1 : (List (List Str))) (rows_r3 : (List (List (List Int)))) (deal_a2 : DealM) (empty_a3 : Bool) (hn0 : script.length ≤ 63) (hr1 : Nums ((360 : Int)).toNat numbers_here_r1) (hr2 : (GB (getI (([(3 : Int), (14 : Int), (40 : Int)] : List Int)) ((getI numbers_here_r1 (0 : Int)) % (3 : Int))).toNat verses_r2 ∧ ∀ l ∈ verses_r2, l.length ≤ 1000)) (ha1 : verses_a1 = verses_r2 ++ (repI (([([("o" : Str)] : List Str)] : List (List Str))) ((if (((decide ((((verses_r2).length : Int)) = (1 : Int))) && (!decide ((getI (getI verses_r2 (0 : Int)) (0 : Int)) = (("o" : Str)))))) = true then (1 : Int) else 0)))) (hr3 : FldsOk (((verses_a1).length : Int)).toNat rows_r3) (hb29 : (rows_r3).length ≤ 40000) (c1 : (decide (((getI numbers_here_r1 (1 : Int)) % (3 : Int)) = (2 : Int))) = true) (hb43 : ((rows_r3).set ((getI numbers_here_r1 (2 : Int)) % (2 : Int)).toNat ((getI rows_r3 ((getI numbers_here_r1 (2 : Int)) % (2 : Int))).map fun e1 => ([] : List Int))).length ≤ 40000) (ha2 : deal_a2 = (⟨verses_a1, getI ((rows_r3).set ((getI numbers_here_r1 (2 : Int)) % (2 : Int)).toNat ((getI rows_r3 ((getI numbers_here_r1 (2 : Int)) % (2 : Int))).map fun e1 => ([] : List Int))) 0, getI ((rows_r3).set ((getI numbers_here_r1 (2 : Int)) % (2 : Int)).toNat ((getI rows_r3 ((getI numbers_here_r1 (2 : Int)) % (2 : Int))).map fun e1 => ([] : List Int))) 1⟩ : DealM)) (ha3 : empty_a3 = ((decide (((getI ((rows_r3).set ((getI numbers_here_r1 (2 : Int)) % (2 : Int)).toNat ((getI rows_r3 ((getI numbers_here_r1 (2 : Int)) % (2 : Int))).map fun e1 => ([] : List Int))) ((0 : Int))).flatten) = (([] : List Int)))) || (decide (((getI ((rows_r3).set ((getI numbers_here_r1 (2 : Int)) % (2 : Int)).toNat ((getI rows_r3 ((getI numbers_here_r1 (2 : Int)) % (2 : Int))).map fun e1 => ([] : List Int))) ((1 : Int))).flatten) = (([] : List Int)))))) (hT : tabErr deal_a2 = none) (c2 : empty_a3 = false) : tabErr (deal_a2) = none := by
  exact hT
theorem vc_law_pre_t_told1 (script : (List Int)) (numbers_here_r1 : (List Int)) (verses_r2 : (List (List Str))) (verses_a1 : (List (List Str))) (rows_r3 : (List (List (List Int)))) (deal_a2 : DealM) (empty_a3 : Bool) (other_a4 : TabM) (hn0 : script.length ≤ 63) (hr1 : Nums ((360 : Int)).toNat numbers_here_r1) (hr2 : (GB (getI (([(3 : Int), (14 : Int), (40 : Int)] : List Int)) ((getI numbers_here_r1 (0 : Int)) % (3 : Int))).toNat verses_r2 ∧ ∀ l ∈ verses_r2, l.length ≤ 1000)) (ha1 : verses_a1 = verses_r2 ++ (repI (([([("o" : Str)] : List Str)] : List (List Str))) ((if (((decide ((((verses_r2).length : Int)) = (1 : Int))) && (!decide ((getI (getI verses_r2 (0 : Int)) (0 : Int)) = (("o" : Str)))))) = true then (1 : Int) else 0)))) (hr3 : FldsOk (((verses_a1).length : Int)).toNat rows_r3) (hb29 : (rows_r3).length ≤ 40000) (c1 : (decide (((getI numbers_here_r1 (1 : Int)) % (3 : Int)) = (2 : Int))) = true) (hb43 : ((rows_r3).set ((getI numbers_here_r1 (2 : Int)) % (2 : Int)).toNat ((getI rows_r3 ((getI numbers_here_r1 (2 : Int)) % (2 : Int))).map fun e1 => ([] : List Int))).length ≤ 40000) (ha2 : deal_a2 = (⟨verses_a1, getI ((rows_r3).set ((getI numbers_here_r1 (2 : Int)) % (2 : Int)).toNat ((getI rows_r3 ((getI numbers_here_r1 (2 : Int)) % (2 : Int))).map fun e1 => ([] : List Int))) 0, getI ((rows_r3).set ((getI numbers_here_r1 (2 : Int)) % (2 : Int)).toNat ((getI rows_r3 ((getI numbers_here_r1 (2 : Int)) % (2 : Int))).map fun e1 => ([] : List Int))) 1⟩ : DealM)) (ha3 : empty_a3 = ((decide (((getI ((rows_r3).set ((getI numbers_here_r1 (2 : Int)) % (2 : Int)).toNat ((getI rows_r3 ((getI numbers_here_r1 (2 : Int)) % (2 : Int))).map fun e1 => ([] : List Int))) ((0 : Int))).flatten) = (([] : List Int)))) || (decide (((getI ((rows_r3).set ((getI numbers_here_r1 (2 : Int)) % (2 : Int)).toNat ((getI rows_r3 ((getI numbers_here_r1 (2 : Int)) % (2 : Int))).map fun e1 => ([] : List Int))) ((1 : Int))).flatten) = (([] : List Int)))))) (hT : tabErr deal_a2 = none) (c2 : empty_a3 = false) (ha4 : other_a4 = tab0 (deal_a2)) (hc76 : (!decide ((("" : Str)) = (("" : Str)))) = false) : TRel ((tab0 deal_a2)) (verses_a1) ((⟨((rows_r3).set ((getI numbers_here_r1 (2 : Int)) % (2 : Int)).toNat ((getI rows_r3 ((getI numbers_here_r1 (2 : Int)) % (2 : Int))).map fun e1 => ([] : List Int))), [], none, [], (0, 0), (0, 0), none⟩ : TRec)) := by
  have hv := addO_ok hr2 (get3_le (by decide) (by decide) (by decide)) ha1
  have hb := book_lens hv (by decide)
  have hl40 := hv.1.len
  have hN : numbers_here_r1.length = 360 := hr1.1
  have h1p := hv.1.pos
  have hf : (0 : Int) ≤ getI numbers_here_r1 2 % 2 ∧ getI numbers_here_r1 2 % 2 < 2 := by omega
  have he := empty_deal (n := verses_a1.length) hr3 hf
  rw [ha2]
  exact start_rel he.1
theorem vc_law_pre_t_told2 (script : (List Int)) (numbers_here_r1 : (List Int)) (verses_r2 : (List (List Str))) (verses_a1 : (List (List Str))) (rows_r3 : (List (List (List Int)))) (deal_a2 : DealM) (empty_a3 : Bool) (other_a4 : TabM) (hn0 : script.length ≤ 63) (hr1 : Nums ((360 : Int)).toNat numbers_here_r1) (hr2 : (GB (getI (([(3 : Int), (14 : Int), (40 : Int)] : List Int)) ((getI numbers_here_r1 (0 : Int)) % (3 : Int))).toNat verses_r2 ∧ ∀ l ∈ verses_r2, l.length ≤ 1000)) (ha1 : verses_a1 = verses_r2 ++ (repI (([([("o" : Str)] : List Str)] : List (List Str))) ((if (((decide ((((verses_r2).length : Int)) = (1 : Int))) && (!decide ((getI (getI verses_r2 (0 : Int)) (0 : Int)) = (("o" : Str)))))) = true then (1 : Int) else 0)))) (hr3 : FldsOk (((verses_a1).length : Int)).toNat rows_r3) (hb29 : (rows_r3).length ≤ 40000) (c1 : (decide (((getI numbers_here_r1 (1 : Int)) % (3 : Int)) = (2 : Int))) = true) (hb43 : ((rows_r3).set ((getI numbers_here_r1 (2 : Int)) % (2 : Int)).toNat ((getI rows_r3 ((getI numbers_here_r1 (2 : Int)) % (2 : Int))).map fun e1 => ([] : List Int))).length ≤ 40000) (ha2 : deal_a2 = (⟨verses_a1, getI ((rows_r3).set ((getI numbers_here_r1 (2 : Int)) % (2 : Int)).toNat ((getI rows_r3 ((getI numbers_here_r1 (2 : Int)) % (2 : Int))).map fun e1 => ([] : List Int))) 0, getI ((rows_r3).set ((getI numbers_here_r1 (2 : Int)) % (2 : Int)).toNat ((getI rows_r3 ((getI numbers_here_r1 (2 : Int)) % (2 : Int))).map fun e1 => ([] : List Int))) 1⟩ : DealM)) (ha3 : empty_a3 = ((decide (((getI ((rows_r3).set ((getI numbers_here_r1 (2 : Int)) % (2 : Int)).toNat ((getI rows_r3 ((getI numbers_here_r1 (2 : Int)) % (2 : Int))).map fun e1 => ([] : List Int))) ((0 : Int))).flatten) = (([] : List Int)))) || (decide (((getI ((rows_r3).set ((getI numbers_here_r1 (2 : Int)) % (2 : Int)).toNat ((getI rows_r3 ((getI numbers_here_r1 (2 : Int)) % (2 : Int))).map fun e1 => ([] : List Int))) ((1 : Int))).flatten) = (([] : List Int)))))) (hT : tabErr deal_a2 = none) (c2 : empty_a3 = false) (ha4 : other_a4 = tab0 (deal_a2)) (hc76 : (!decide ((("" : Str)) = (("" : Str)))) = false) : TabS ((tab0 deal_a2)) := by
  exact start_S
theorem vc_law_never1 (script : (List Int)) (numbers_here_r1 : (List Int)) (verses_r2 : (List (List Str))) (verses_a1 : (List (List Str))) (rows_r3 : (List (List (List Int)))) (deal_a2 : DealM) (empty_a3 : Bool) (other_a4 : TabM) (hn0 : script.length ≤ 63) (hr1 : Nums ((360 : Int)).toNat numbers_here_r1) (hr2 : (GB (getI (([(3 : Int), (14 : Int), (40 : Int)] : List Int)) ((getI numbers_here_r1 (0 : Int)) % (3 : Int))).toNat verses_r2 ∧ ∀ l ∈ verses_r2, l.length ≤ 1000)) (ha1 : verses_a1 = verses_r2 ++ (repI (([([("o" : Str)] : List Str)] : List (List Str))) ((if (((decide ((((verses_r2).length : Int)) = (1 : Int))) && (!decide ((getI (getI verses_r2 (0 : Int)) (0 : Int)) = (("o" : Str)))))) = true then (1 : Int) else 0)))) (hr3 : FldsOk (((verses_a1).length : Int)).toNat rows_r3) (hb29 : (rows_r3).length ≤ 40000) (c1 : (decide (((getI numbers_here_r1 (1 : Int)) % (3 : Int)) = (2 : Int))) = true) (hb43 : ((rows_r3).set ((getI numbers_here_r1 (2 : Int)) % (2 : Int)).toNat ((getI rows_r3 ((getI numbers_here_r1 (2 : Int)) % (2 : Int))).map fun e1 => ([] : List Int))).length ≤ 40000) (ha2 : deal_a2 = (⟨verses_a1, getI ((rows_r3).set ((getI numbers_here_r1 (2 : Int)) % (2 : Int)).toNat ((getI rows_r3 ((getI numbers_here_r1 (2 : Int)) % (2 : Int))).map fun e1 => ([] : List Int))) 0, getI ((rows_r3).set ((getI numbers_here_r1 (2 : Int)) % (2 : Int)).toNat ((getI rows_r3 ((getI numbers_here_r1 (2 : Int)) % (2 : Int))).map fun e1 => ([] : List Int))) 1⟩ : DealM)) (ha3 : empty_a3 = ((decide (((getI ((rows_r3).set ((getI numbers_here_r1 (2 : Int)) % (2 : Int)).toNat ((getI rows_r3 ((getI numbers_here_r1 (2 : Int)) % (2 : Int))).map fun e1 => ([] : List Int))) ((0 : Int))).flatten) = (([] : List Int)))) || (decide (((getI ((rows_r3).set ((getI numbers_here_r1 (2 : Int)) % (2 : Int)).toNat ((getI rows_r3 ((getI numbers_here_r1 (2 : Int)) % (2 : Int))).map fun e1 => ([] : List Int))) ((1 : Int))).flatten) = (([] : List Int)))))) (hT : tabErr deal_a2 = none) (c2 : empty_a3 = false) (ha4 : other_a4 = tab0 (deal_a2)) (c3 : (((!decide ((("" : Str)) = (("" : Str)))) || (!true))) = true) : False := by
  cases c3
theorem vc_law_ix8 (script : (List Int)) (numbers_here_r1 : (List Int)) (verses_r2 : (List (List Str))) (verses_a1 : (List (List Str))) (rows_r3 : (List (List (List Int)))) (deal_a2 : DealM) (empty_a3 : Bool) (other_a4 : TabM) (hn0 : script.length ≤ 63) (hr1 : Nums ((360 : Int)).toNat numbers_here_r1) (hr2 : (GB (getI (([(3 : Int), (14 : Int), (40 : Int)] : List Int)) ((getI numbers_here_r1 (0 : Int)) % (3 : Int))).toNat verses_r2 ∧ ∀ l ∈ verses_r2, l.length ≤ 1000)) (ha1 : verses_a1 = verses_r2 ++ (repI (([([("o" : Str)] : List Str)] : List (List Str))) ((if (((decide ((((verses_r2).length : Int)) = (1 : Int))) && (!decide ((getI (getI verses_r2 (0 : Int)) (0 : Int)) = (("o" : Str)))))) = true then (1 : Int) else 0)))) (hr3 : FldsOk (((verses_a1).length : Int)).toNat rows_r3) (hb29 : (rows_r3).length ≤ 40000) (c1 : (decide (((getI numbers_here_r1 (1 : Int)) % (3 : Int)) = (2 : Int))) = true) (hb43 : ((rows_r3).set ((getI numbers_here_r1 (2 : Int)) % (2 : Int)).toNat ((getI rows_r3 ((getI numbers_here_r1 (2 : Int)) % (2 : Int))).map fun e1 => ([] : List Int))).length ≤ 40000) (ha2 : deal_a2 = (⟨verses_a1, getI ((rows_r3).set ((getI numbers_here_r1 (2 : Int)) % (2 : Int)).toNat ((getI rows_r3 ((getI numbers_here_r1 (2 : Int)) % (2 : Int))).map fun e1 => ([] : List Int))) 0, getI ((rows_r3).set ((getI numbers_here_r1 (2 : Int)) % (2 : Int)).toNat ((getI rows_r3 ((getI numbers_here_r1 (2 : Int)) % (2 : Int))).map fun e1 => ([] : List Int))) 1⟩ : DealM)) (ha3 : empty_a3 = ((decide (((getI ((rows_r3).set ((getI numbers_here_r1 (2 : Int)) % (2 : Int)).toNat ((getI rows_r3 ((getI numbers_here_r1 (2 : Int)) % (2 : Int))).map fun e1 => ([] : List Int))) ((0 : Int))).flatten) = (([] : List Int)))) || (decide (((getI ((rows_r3).set ((getI numbers_here_r1 (2 : Int)) % (2 : Int)).toNat ((getI rows_r3 ((getI numbers_here_r1 (2 : Int)) % (2 : Int))).map fun e1 => ([] : List Int))) ((1 : Int))).flatten) = (([] : List Int)))))) (hT : tabErr deal_a2 = none) (c2 : empty_a3 = false) (ha4 : other_a4 = tab0 (deal_a2)) (c3 : (((!decide ((("" : Str)) = (("" : Str)))) || (!true))) = false) : -((numbers_here_r1).length : Int) ≤ (3 : Int) ∧ (3 : Int) < (numbers_here_r1).length := by
  have hN : numbers_here_r1.length = 360 := hr1.1
  omega
theorem vc_law_mod1 (script : (List Int)) (numbers_here_r1 : (List Int)) (verses_r2 : (List (List Str))) (verses_a1 : (List (List Str))) (rows_r3 : (List (List (List Int)))) (deal_a2 : DealM) (empty_a3 : Bool) (other_a4 : TabM) (hn0 : script.length ≤ 63) (hr1 : Nums ((360 : Int)).toNat numbers_here_r1) (hr2 : (GB (getI (([(3 : Int), (14 : Int), (40 : Int)] : List Int)) ((getI numbers_here_r1 (0 : Int)) % (3 : Int))).toNat verses_r2 ∧ ∀ l ∈ verses_r2, l.length ≤ 1000)) (ha1 : verses_a1 = verses_r2 ++ (repI (([([("o" : Str)] : List Str)] : List (List Str))) ((if (((decide ((((verses_r2).length : Int)) = (1 : Int))) && (!decide ((getI (getI verses_r2 (0 : Int)) (0 : Int)) = (("o" : Str)))))) = true then (1 : Int) else 0)))) (hr3 : FldsOk (((verses_a1).length : Int)).toNat rows_r3) (hb29 : (rows_r3).length ≤ 40000) (c1 : (decide (((getI numbers_here_r1 (1 : Int)) % (3 : Int)) = (2 : Int))) = true) (hb43 : ((rows_r3).set ((getI numbers_here_r1 (2 : Int)) % (2 : Int)).toNat ((getI rows_r3 ((getI numbers_here_r1 (2 : Int)) % (2 : Int))).map fun e1 => ([] : List Int))).length ≤ 40000) (ha2 : deal_a2 = (⟨verses_a1, getI ((rows_r3).set ((getI numbers_here_r1 (2 : Int)) % (2 : Int)).toNat ((getI rows_r3 ((getI numbers_here_r1 (2 : Int)) % (2 : Int))).map fun e1 => ([] : List Int))) 0, getI ((rows_r3).set ((getI numbers_here_r1 (2 : Int)) % (2 : Int)).toNat ((getI rows_r3 ((getI numbers_here_r1 (2 : Int)) % (2 : Int))).map fun e1 => ([] : List Int))) 1⟩ : DealM)) (ha3 : empty_a3 = ((decide (((getI ((rows_r3).set ((getI numbers_here_r1 (2 : Int)) % (2 : Int)).toNat ((getI rows_r3 ((getI numbers_here_r1 (2 : Int)) % (2 : Int))).map fun e1 => ([] : List Int))) ((0 : Int))).flatten) = (([] : List Int)))) || (decide (((getI ((rows_r3).set ((getI numbers_here_r1 (2 : Int)) % (2 : Int)).toNat ((getI rows_r3 ((getI numbers_here_r1 (2 : Int)) % (2 : Int))).map fun e1 => ([] : List Int))) ((1 : Int))).flatten) = (([] : List Int)))))) (hT : tabErr deal_a2 = none) (c2 : empty_a3 = false) (ha4 : other_a4 = tab0 (deal_a2)) (c3 : (((!decide ((("" : Str)) = (("" : Str)))) || (!true))) = false) : (0 : Int) < ((verses_a1).length : Int) := by
  have hv := addO_ok hr2 (get3_le (by decide) (by decide) (by decide)) ha1
  have hb := book_lens hv (by decide)
  have hl40 := hv.1.len
  have hN : numbers_here_r1.length = 360 := hr1.1
  have h1p := hv.1.pos
  omega
theorem vc_law_safe2 (script : (List Int)) (numbers_here_r1 : (List Int)) (verses_r2 : (List (List Str))) (verses_a1 : (List (List Str))) (rows_r3 : (List (List (List Int)))) (deal_a2 : DealM) (empty_a3 : Bool) (other_a4 : TabM) (hn0 : script.length ≤ 63) (hr1 : Nums ((360 : Int)).toNat numbers_here_r1) (hr2 : (GB (getI (([(3 : Int), (14 : Int), (40 : Int)] : List Int)) ((getI numbers_here_r1 (0 : Int)) % (3 : Int))).toNat verses_r2 ∧ ∀ l ∈ verses_r2, l.length ≤ 1000)) (ha1 : verses_a1 = verses_r2 ++ (repI (([([("o" : Str)] : List Str)] : List (List Str))) ((if (((decide ((((verses_r2).length : Int)) = (1 : Int))) && (!decide ((getI (getI verses_r2 (0 : Int)) (0 : Int)) = (("o" : Str)))))) = true then (1 : Int) else 0)))) (hr3 : FldsOk (((verses_a1).length : Int)).toNat rows_r3) (hb29 : (rows_r3).length ≤ 40000) (c1 : (decide (((getI numbers_here_r1 (1 : Int)) % (3 : Int)) = (2 : Int))) = true) (hb43 : ((rows_r3).set ((getI numbers_here_r1 (2 : Int)) % (2 : Int)).toNat ((getI rows_r3 ((getI numbers_here_r1 (2 : Int)) % (2 : Int))).map fun e1 => ([] : List Int))).length ≤ 40000) (ha2 : deal_a2 = (⟨verses_a1, getI ((rows_r3).set ((getI numbers_here_r1 (2 : Int)) % (2 : Int)).toNat ((getI rows_r3 ((getI numbers_here_r1 (2 : Int)) % (2 : Int))).map fun e1 => ([] : List Int))) 0, getI ((rows_r3).set ((getI numbers_here_r1 (2 : Int)) % (2 : Int)).toNat ((getI rows_r3 ((getI numbers_here_r1 (2 : Int)) % (2 : Int))).map fun e1 => ([] : List Int))) 1⟩ : DealM)) (ha3 : empty_a3 = ((decide (((getI ((rows_r3).set ((getI numbers_here_r1 (2 : Int)) % (2 : Int)).toNat ((getI rows_r3 ((getI numbers_here_r1 (2 : Int)) % (2 : Int))).map fun e1 => ([] : List Int))) ((0 : Int))).flatten) = (([] : List Int)))) || (decide (((getI ((rows_r3).set ((getI numbers_here_r1 (2 : Int)) % (2 : Int)).toNat ((getI rows_r3 ((getI numbers_here_r1 (2 : Int)) % (2 : Int))).map fun e1 => ([] : List Int))) ((1 : Int))).flatten) = (([] : List Int)))))) (hT : tabErr deal_a2 = none) (c2 : empty_a3 = false) (ha4 : other_a4 = tab0 (deal_a2)) (c3 : (((!decide ((("" : Str)) = (("" : Str)))) || (!true))) = false) : readErr ((tab0 deal_a2)) ((getI numbers_here_r1 (3 : Int)) % (((verses_a1).length : Int))) = none := by
  have hv := addO_ok hr2 (get3_le (by decide) (by decide) (by decide)) ha1
  have hb := book_lens hv (by decide)
  have hl40 := hv.1.len
  have hN : numbers_here_r1.length = 360 := hr1.1
  have h1p := hv.1.pos
  refine tab0_read hT ?_
  rw [ha2]
  exact ⟨Int.emod_nonneg _ (by omega), Int.emod_lt_of_pos _ (by omega)⟩
theorem vc_law_pre_t_told3 (script : (List Int)) (numbers_here_r1 : (List Int)) (verses_r2 : (List (List Str))) (verses_a1 : (List (List Str))) (rows_r3 : (List (List (List Int)))) (deal_a2 : DealM) (empty_a3 : Bool) (other_a4 : TabM) (table_a5 : TabM) (hn0 : script.length ≤ 63) (hr1 : Nums ((360 : Int)).toNat numbers_here_r1) (hr2 : (GB (getI (([(3 : Int), (14 : Int), (40 : Int)] : List Int)) ((getI numbers_here_r1 (0 : Int)) % (3 : Int))).toNat verses_r2 ∧ ∀ l ∈ verses_r2, l.length ≤ 1000)) (ha1 : verses_a1 = verses_r2 ++ (repI (([([("o" : Str)] : List Str)] : List (List Str))) ((if (((decide ((((verses_r2).length : Int)) = (1 : Int))) && (!decide ((getI (getI verses_r2 (0 : Int)) (0 : Int)) = (("o" : Str)))))) = true then (1 : Int) else 0)))) (hr3 : FldsOk (((verses_a1).length : Int)).toNat rows_r3) (hb29 : (rows_r3).length ≤ 40000) (c1 : (decide (((getI numbers_here_r1 (1 : Int)) % (3 : Int)) = (2 : Int))) = true) (hb43 : ((rows_r3).set ((getI numbers_here_r1 (2 : Int)) % (2 : Int)).toNat ((getI rows_r3 ((getI numbers_here_r1 (2 : Int)) % (2 : Int))).map fun e1 => ([] : List Int))).length ≤ 40000) (ha2 : deal_a2 = (⟨verses_a1, getI ((rows_r3).set ((getI numbers_here_r1 (2 : Int)) % (2 : Int)).toNat ((getI rows_r3 ((getI numbers_here_r1 (2 : Int)) % (2 : Int))).map fun e1 => ([] : List Int))) 0, getI ((rows_r3).set ((getI numbers_here_r1 (2 : Int)) % (2 : Int)).toNat ((getI rows_r3 ((getI numbers_here_r1 (2 : Int)) % (2 : Int))).map fun e1 => ([] : List Int))) 1⟩ : DealM)) (ha3 : empty_a3 = ((decide (((getI ((rows_r3).set ((getI numbers_here_r1 (2 : Int)) % (2 : Int)).toNat ((getI rows_r3 ((getI numbers_here_r1 (2 : Int)) % (2 : Int))).map fun e1 => ([] : List Int))) ((0 : Int))).flatten) = (([] : List Int)))) || (decide (((getI ((rows_r3).set ((getI numbers_here_r1 (2 : Int)) % (2 : Int)).toNat ((getI rows_r3 ((getI numbers_here_r1 (2 : Int)) % (2 : Int))).map fun e1 => ([] : List Int))) ((1 : Int))).flatten) = (([] : List Int)))))) (hT : tabErr deal_a2 = none) (c2 : empty_a3 = false) (ha4 : other_a4 = tab0 (deal_a2)) (c3 : (((!decide ((("" : Str)) = (("" : Str)))) || (!true))) = false) (ha5 : table_a5 = readM ((tab0 deal_a2)) ((getI numbers_here_r1 (3 : Int)) % (((verses_a1).length : Int)))) : TRel (other_a4) (verses_a1) ((⟨((rows_r3).set ((getI numbers_here_r1 (2 : Int)) % (2 : Int)).toNat ((getI rows_r3 ((getI numbers_here_r1 (2 : Int)) % (2 : Int))).map fun e1 => ([] : List Int))), [], none, [], (0, 0), (0, 0), none⟩ : TRec)) := by
  have hv := addO_ok hr2 (get3_le (by decide) (by decide) (by decide)) ha1
  have hb := book_lens hv (by decide)
  have hl40 := hv.1.len
  have hN : numbers_here_r1.length = 360 := hr1.1
  have h1p := hv.1.pos
  have hf : (0 : Int) ≤ getI numbers_here_r1 2 % 2 ∧ getI numbers_here_r1 2 % 2 < 2 := by omega
  have he := empty_deal (n := verses_a1.length) hr3 hf
  rw [ha4, ha2]
  exact start_rel he.1
theorem vc_law_pre_t_told4 (script : (List Int)) (numbers_here_r1 : (List Int)) (verses_r2 : (List (List Str))) (verses_a1 : (List (List Str))) (rows_r3 : (List (List (List Int)))) (deal_a2 : DealM) (empty_a3 : Bool) (other_a4 : TabM) (table_a5 : TabM) (hn0 : script.length ≤ 63) (hr1 : Nums ((360 : Int)).toNat numbers_here_r1) (hr2 : (GB (getI (([(3 : Int), (14 : Int), (40 : Int)] : List Int)) ((getI numbers_here_r1 (0 : Int)) % (3 : Int))).toNat verses_r2 ∧ ∀ l ∈ verses_r2, l.length ≤ 1000)) (ha1 : verses_a1 = verses_r2 ++ (repI (([([("o" : Str)] : List Str)] : List (List Str))) ((if (((decide ((((verses_r2).length : Int)) = (1 : Int))) && (!decide ((getI (getI verses_r2 (0 : Int)) (0 : Int)) = (("o" : Str)))))) = true then (1 : Int) else 0)))) (hr3 : FldsOk (((verses_a1).length : Int)).toNat rows_r3) (hb29 : (rows_r3).length ≤ 40000) (c1 : (decide (((getI numbers_here_r1 (1 : Int)) % (3 : Int)) = (2 : Int))) = true) (hb43 : ((rows_r3).set ((getI numbers_here_r1 (2 : Int)) % (2 : Int)).toNat ((getI rows_r3 ((getI numbers_here_r1 (2 : Int)) % (2 : Int))).map fun e1 => ([] : List Int))).length ≤ 40000) (ha2 : deal_a2 = (⟨verses_a1, getI ((rows_r3).set ((getI numbers_here_r1 (2 : Int)) % (2 : Int)).toNat ((getI rows_r3 ((getI numbers_here_r1 (2 : Int)) % (2 : Int))).map fun e1 => ([] : List Int))) 0, getI ((rows_r3).set ((getI numbers_here_r1 (2 : Int)) % (2 : Int)).toNat ((getI rows_r3 ((getI numbers_here_r1 (2 : Int)) % (2 : Int))).map fun e1 => ([] : List Int))) 1⟩ : DealM)) (ha3 : empty_a3 = ((decide (((getI ((rows_r3).set ((getI numbers_here_r1 (2 : Int)) % (2 : Int)).toNat ((getI rows_r3 ((getI numbers_here_r1 (2 : Int)) % (2 : Int))).map fun e1 => ([] : List Int))) ((0 : Int))).flatten) = (([] : List Int)))) || (decide (((getI ((rows_r3).set ((getI numbers_here_r1 (2 : Int)) % (2 : Int)).toNat ((getI rows_r3 ((getI numbers_here_r1 (2 : Int)) % (2 : Int))).map fun e1 => ([] : List Int))) ((1 : Int))).flatten) = (([] : List Int)))))) (hT : tabErr deal_a2 = none) (c2 : empty_a3 = false) (ha4 : other_a4 = tab0 (deal_a2)) (c3 : (((!decide ((("" : Str)) = (("" : Str)))) || (!true))) = false) (ha5 : table_a5 = readM ((tab0 deal_a2)) ((getI numbers_here_r1 (3 : Int)) % (((verses_a1).length : Int)))) : TabS (other_a4) := by
  rw [ha4]
  exact start_S
theorem vc_law_pre_deal_told1 (script : (List Int)) (numbers_here_r1 : (List Int)) (verses_r2 : (List (List Str))) (verses_a1 : (List (List Str))) (rows_r3 : (List (List (List Int)))) (deal_a2 : DealM) (empty_a3 : Bool) (other_a4 : TabM) (table_a5 : TabM) (hn0 : script.length ≤ 63) (hr1 : Nums ((360 : Int)).toNat numbers_here_r1) (hr2 : (GB (getI (([(3 : Int), (14 : Int), (40 : Int)] : List Int)) ((getI numbers_here_r1 (0 : Int)) % (3 : Int))).toNat verses_r2 ∧ ∀ l ∈ verses_r2, l.length ≤ 1000)) (ha1 : verses_a1 = verses_r2 ++ (repI (([([("o" : Str)] : List Str)] : List (List Str))) ((if (((decide ((((verses_r2).length : Int)) = (1 : Int))) && (!decide ((getI (getI verses_r2 (0 : Int)) (0 : Int)) = (("o" : Str)))))) = true then (1 : Int) else 0)))) (hr3 : FldsOk (((verses_a1).length : Int)).toNat rows_r3) (hb29 : (rows_r3).length ≤ 40000) (c1 : (decide (((getI numbers_here_r1 (1 : Int)) % (3 : Int)) = (2 : Int))) = true) (hb43 : ((rows_r3).set ((getI numbers_here_r1 (2 : Int)) % (2 : Int)).toNat ((getI rows_r3 ((getI numbers_here_r1 (2 : Int)) % (2 : Int))).map fun e1 => ([] : List Int))).length ≤ 40000) (ha2 : deal_a2 = (⟨verses_a1, getI ((rows_r3).set ((getI numbers_here_r1 (2 : Int)) % (2 : Int)).toNat ((getI rows_r3 ((getI numbers_here_r1 (2 : Int)) % (2 : Int))).map fun e1 => ([] : List Int))) 0, getI ((rows_r3).set ((getI numbers_here_r1 (2 : Int)) % (2 : Int)).toNat ((getI rows_r3 ((getI numbers_here_r1 (2 : Int)) % (2 : Int))).map fun e1 => ([] : List Int))) 1⟩ : DealM)) (ha3 : empty_a3 = ((decide (((getI ((rows_r3).set ((getI numbers_here_r1 (2 : Int)) % (2 : Int)).toNat ((getI rows_r3 ((getI numbers_here_r1 (2 : Int)) % (2 : Int))).map fun e1 => ([] : List Int))) ((0 : Int))).flatten) = (([] : List Int)))) || (decide (((getI ((rows_r3).set ((getI numbers_here_r1 (2 : Int)) % (2 : Int)).toNat ((getI rows_r3 ((getI numbers_here_r1 (2 : Int)) % (2 : Int))).map fun e1 => ([] : List Int))) ((1 : Int))).flatten) = (([] : List Int)))))) (hT : tabErr deal_a2 = none) (c2 : empty_a3 = false) (ha4 : other_a4 = tab0 (deal_a2)) (c3 : (((!decide ((("" : Str)) = (("" : Str)))) || (!true))) = false) (ha5 : table_a5 = readM ((tab0 deal_a2)) ((getI numbers_here_r1 (3 : Int)) % (((verses_a1).length : Int)))) (hc89 : true = true) : ((other_a4).lying) = (⟨verses_a1, getI ((rows_r3).set ((getI numbers_here_r1 (2 : Int)) % (2 : Int)).toNat ((getI rows_r3 ((getI numbers_here_r1 (2 : Int)) % (2 : Int))).map fun e1 => ([] : List Int))) 0, getI ((rows_r3).set ((getI numbers_here_r1 (2 : Int)) % (2 : Int)).toNat ((getI rows_r3 ((getI numbers_here_r1 (2 : Int)) % (2 : Int))).map fun e1 => ([] : List Int))) 1⟩ : DealM) ∧ ((rows_r3).set ((getI numbers_here_r1 (2 : Int)) % (2 : Int)).toNat ((getI rows_r3 ((getI numbers_here_r1 (2 : Int)) % (2 : Int))).map fun e1 => ([] : List Int))).length = 2 ∧ (verses_a1).length ≤ 1000 ∧ ∀ l ∈ verses_a1, l.length ≤ 1000 := by
  have hv := addO_ok hr2 (get3_le (by decide) (by decide) (by decide)) ha1
  have hb := book_lens hv (by decide)
  have hl40 := hv.1.len
  have hN : numbers_here_r1.length = 360 := hr1.1
  have h1p := hv.1.pos
  have hf : (0 : Int) ≤ getI numbers_here_r1 2 % 2 ∧ getI numbers_here_r1 2 % 2 < 2 := by omega
  have he := empty_deal (n := verses_a1.length) hr3 hf
  rw [ha4, ha2]
  exact ⟨rfl, he.1, hb.2⟩
theorem vc_law_pre_deal_told2 (script : (List Int)) (numbers_here_r1 : (List Int)) (verses_r2 : (List (List Str))) (verses_a1 : (List (List Str))) (rows_r3 : (List (List (List Int)))) (deal_a2 : DealM) (empty_a3 : Bool) (other_a4 : TabM) (table_a5 : TabM) (hn0 : script.length ≤ 63) (hr1 : Nums ((360 : Int)).toNat numbers_here_r1) (hr2 : (GB (getI (([(3 : Int), (14 : Int), (40 : Int)] : List Int)) ((getI numbers_here_r1 (0 : Int)) % (3 : Int))).toNat verses_r2 ∧ ∀ l ∈ verses_r2, l.length ≤ 1000)) (ha1 : verses_a1 = verses_r2 ++ (repI (([([("o" : Str)] : List Str)] : List (List Str))) ((if (((decide ((((verses_r2).length : Int)) = (1 : Int))) && (!decide ((getI (getI verses_r2 (0 : Int)) (0 : Int)) = (("o" : Str)))))) = true then (1 : Int) else 0)))) (hr3 : FldsOk (((verses_a1).length : Int)).toNat rows_r3) (hb29 : (rows_r3).length ≤ 40000) (c1 : (decide (((getI numbers_here_r1 (1 : Int)) % (3 : Int)) = (2 : Int))) = true) (hb43 : ((rows_r3).set ((getI numbers_here_r1 (2 : Int)) % (2 : Int)).toNat ((getI rows_r3 ((getI numbers_here_r1 (2 : Int)) % (2 : Int))).map fun e1 => ([] : List Int))).length ≤ 40000) (ha2 : deal_a2 = (⟨verses_a1, getI ((rows_r3).set ((getI numbers_here_r1 (2 : Int)) % (2 : Int)).toNat ((getI rows_r3 ((getI numbers_here_r1 (2 : Int)) % (2 : Int))).map fun e1 => ([] : List Int))) 0, getI ((rows_r3).set ((getI numbers_here_r1 (2 : Int)) % (2 : Int)).toNat ((getI rows_r3 ((getI numbers_here_r1 (2 : Int)) % (2 : Int))).map fun e1 => ([] : List Int))) 1⟩ : DealM)) (ha3 : empty_a3 = ((decide (((getI ((rows_r3).set ((getI numbers_here_r1 (2 : Int)) % (2 : Int)).toNat ((getI rows_r3 ((getI numbers_here_r1 (2 : Int)) % (2 : Int))).map fun e1 => ([] : List Int))) ((0 : Int))).flatten) = (([] : List Int)))) || (decide (((getI ((rows_r3).set ((getI numbers_here_r1 (2 : Int)) % (2 : Int)).toNat ((getI rows_r3 ((getI numbers_here_r1 (2 : Int)) % (2 : Int))).map fun e1 => ([] : List Int))) ((1 : Int))).flatten) = (([] : List Int)))))) (hT : tabErr deal_a2 = none) (c2 : empty_a3 = false) (ha4 : other_a4 = tab0 (deal_a2)) (c3 : (((!decide ((("" : Str)) = (("" : Str)))) || (!true))) = false) (ha5 : table_a5 = readM ((tab0 deal_a2)) ((getI numbers_here_r1 (3 : Int)) % (((verses_a1).length : Int)))) (hc92 : ((true && true)) = true) : deal_a2 = (⟨verses_a1, getI ((rows_r3).set ((getI numbers_here_r1 (2 : Int)) % (2 : Int)).toNat ((getI rows_r3 ((getI numbers_here_r1 (2 : Int)) % (2 : Int))).map fun e1 => ([] : List Int))) 0, getI ((rows_r3).set ((getI numbers_here_r1 (2 : Int)) % (2 : Int)).toNat ((getI rows_r3 ((getI numbers_here_r1 (2 : Int)) % (2 : Int))).map fun e1 => ([] : List Int))) 1⟩ : DealM) ∧ ((rows_r3).set ((getI numbers_here_r1 (2 : Int)) % (2 : Int)).toNat ((getI rows_r3 ((getI numbers_here_r1 (2 : Int)) % (2 : Int))).map fun e1 => ([] : List Int))).length = 2 ∧ (verses_a1).length ≤ 1000 ∧ ∀ l ∈ verses_a1, l.length ≤ 1000 := by
  have hv := addO_ok hr2 (get3_le (by decide) (by decide) (by decide)) ha1
  have hb := book_lens hv (by decide)
  have hl40 := hv.1.len
  have hN : numbers_here_r1.length = 360 := hr1.1
  have h1p := hv.1.pos
  have hf : (0 : Int) ≤ getI numbers_here_r1 2 % 2 ∧ getI numbers_here_r1 2 % 2 < 2 := by omega
  have he := empty_deal (n := verses_a1.length) hr3 hf
  rw [ha2]
  exact ⟨rfl, he.1, hb.2⟩
theorem vc_law_ret2 (script : (List Int)) (numbers_here_r1 : (List Int)) (verses_r2 : (List (List Str))) (verses_a1 : (List (List Str))) (rows_r3 : (List (List (List Int)))) (deal_a2 : DealM) (empty_a3 : Bool) (other_a4 : TabM) (table_a5 : TabM) (hn0 : script.length ≤ 63) (hr1 : Nums ((360 : Int)).toNat numbers_here_r1) (hr2 : (GB (getI (([(3 : Int), (14 : Int), (40 : Int)] : List Int)) ((getI numbers_here_r1 (0 : Int)) % (3 : Int))).toNat verses_r2 ∧ ∀ l ∈ verses_r2, l.length ≤ 1000)) (ha1 : verses_a1 = verses_r2 ++ (repI (([([("o" : Str)] : List Str)] : List (List Str))) ((if (((decide ((((verses_r2).length : Int)) = (1 : Int))) && (!decide ((getI (getI verses_r2 (0 : Int)) (0 : Int)) = (("o" : Str)))))) = true then (1 : Int) else 0)))) (hr3 : FldsOk (((verses_a1).length : Int)).toNat rows_r3) (hb29 : (rows_r3).length ≤ 40000) (c1 : (decide (((getI numbers_here_r1 (1 : Int)) % (3 : Int)) = (2 : Int))) = true) (hb43 : ((rows_r3).set ((getI numbers_here_r1 (2 : Int)) % (2 : Int)).toNat ((getI rows_r3 ((getI numbers_here_r1 (2 : Int)) % (2 : Int))).map fun e1 => ([] : List Int))).length ≤ 40000) (ha2 : deal_a2 = (⟨verses_a1, getI ((rows_r3).set ((getI numbers_here_r1 (2 : Int)) % (2 : Int)).toNat ((getI rows_r3 ((getI numbers_here_r1 (2 : Int)) % (2 : Int))).map fun e1 => ([] : List Int))) 0, getI ((rows_r3).set ((getI numbers_here_r1 (2 : Int)) % (2 : Int)).toNat ((getI rows_r3 ((getI numbers_here_r1 (2 : Int)) % (2 : Int))).map fun e1 => ([] : List Int))) 1⟩ : DealM)) (ha3 : empty_a3 = ((decide (((getI ((rows_r3).set ((getI numbers_here_r1 (2 : Int)) % (2 : Int)).toNat ((getI rows_r3 ((getI numbers_here_r1 (2 : Int)) % (2 : Int))).map fun e1 => ([] : List Int))) ((0 : Int))).flatten) = (([] : List Int)))) || (decide (((getI ((rows_r3).set ((getI numbers_here_r1 (2 : Int)) % (2 : Int)).toNat ((getI rows_r3 ((getI numbers_here_r1 (2 : Int)) % (2 : Int))).map fun e1 => ([] : List Int))) ((1 : Int))).flatten) = (([] : List Int)))))) (hT : tabErr deal_a2 = none) (c2 : empty_a3 = false) (ha4 : other_a4 = tab0 (deal_a2)) (c3 : (((!decide ((("" : Str)) = (("" : Str)))) || (!true))) = false) (ha5 : table_a5 = readM ((tab0 deal_a2)) ((getI numbers_here_r1 (3 : Int)) % (((verses_a1).length : Int)))) : (true) = ((((true && true)) && true)) := by
  rfl
theorem vc_law_ret3 (script : (List Int)) (numbers_here_r1 : (List Int)) (verses_r2 : (List (List Str))) (verses_a1 : (List (List Str))) (rows_r3 : (List (List (List Int)))) (deal_a2 : DealM) (empty_a3 : Bool) (hn0 : script.length ≤ 63) (hr1 : Nums ((360 : Int)).toNat numbers_here_r1) (hr2 : (GB (getI (([(3 : Int), (14 : Int), (40 : Int)] : List Int)) ((getI numbers_here_r1 (0 : Int)) % (3 : Int))).toNat verses_r2 ∧ ∀ l ∈ verses_r2, l.length ≤ 1000)) (ha1 : verses_a1 = verses_r2 ++ (repI (([([("o" : Str)] : List Str)] : List (List Str))) ((if (((decide ((((verses_r2).length : Int)) = (1 : Int))) && (!decide ((getI (getI verses_r2 (0 : Int)) (0 : Int)) = (("o" : Str)))))) = true then (1 : Int) else 0)))) (hr3 : FldsOk (((verses_a1).length : Int)).toNat rows_r3) (hb29 : (rows_r3).length ≤ 40000) (c1 : (decide (((getI numbers_here_r1 (1 : Int)) % (3 : Int)) = (2 : Int))) = true) (hb43 : ((rows_r3).set ((getI numbers_here_r1 (2 : Int)) % (2 : Int)).toNat ((getI rows_r3 ((getI numbers_here_r1 (2 : Int)) % (2 : Int))).map fun e1 => ([] : List Int))).length ≤ 40000) (ha2 : deal_a2 = (⟨verses_a1, getI ((rows_r3).set ((getI numbers_here_r1 (2 : Int)) % (2 : Int)).toNat ((getI rows_r3 ((getI numbers_here_r1 (2 : Int)) % (2 : Int))).map fun e1 => ([] : List Int))) 0, getI ((rows_r3).set ((getI numbers_here_r1 (2 : Int)) % (2 : Int)).toNat ((getI rows_r3 ((getI numbers_here_r1 (2 : Int)) % (2 : Int))).map fun e1 => ([] : List Int))) 1⟩ : DealM)) (ha3 : empty_a3 = ((decide (((getI ((rows_r3).set ((getI numbers_here_r1 (2 : Int)) % (2 : Int)).toNat ((getI rows_r3 ((getI numbers_here_r1 (2 : Int)) % (2 : Int))).map fun e1 => ([] : List Int))) ((0 : Int))).flatten) = (([] : List Int)))) || (decide (((getI ((rows_r3).set ((getI numbers_here_r1 (2 : Int)) % (2 : Int)).toNat ((getI rows_r3 ((getI numbers_here_r1 (2 : Int)) % (2 : Int))).map fun e1 => ([] : List Int))) ((1 : Int))).flatten) = (([] : List Int)))))) (hT : tabErr deal_a2 ≠ none) (c2 : empty_a3 = true) : (true) = (decide ((("BadDeal" : Str)) = (("BadDeal" : Str)))) := by
  rfl
theorem vc_law_never2 (script : (List Int)) (numbers_here_r1 : (List Int)) (verses_r2 : (List (List Str))) (verses_a1 : (List (List Str))) (rows_r3 : (List (List (List Int)))) (deal_a2 : DealM) (empty_a3 : Bool) (hn0 : script.length ≤ 63) (hr1 : Nums ((360 : Int)).toNat numbers_here_r1) (hr2 : (GB (getI (([(3 : Int), (14 : Int), (40 : Int)] : List Int)) ((getI numbers_here_r1 (0 : Int)) % (3 : Int))).toNat verses_r2 ∧ ∀ l ∈ verses_r2, l.length ≤ 1000)) (ha1 : verses_a1 = verses_r2 ++ (repI (([([("o" : Str)] : List Str)] : List (List Str))) ((if (((decide ((((verses_r2).length : Int)) = (1 : Int))) && (!decide ((getI (getI verses_r2 (0 : Int)) (0 : Int)) = (("o" : Str)))))) = true then (1 : Int) else 0)))) (hr3 : FldsOk (((verses_a1).length : Int)).toNat rows_r3) (hb29 : (rows_r3).length ≤ 40000) (c1 : (decide (((getI numbers_here_r1 (1 : Int)) % (3 : Int)) = (2 : Int))) = true) (hb43 : ((rows_r3).set ((getI numbers_here_r1 (2 : Int)) % (2 : Int)).toNat ((getI rows_r3 ((getI numbers_here_r1 (2 : Int)) % (2 : Int))).map fun e1 => ([] : List Int))).length ≤ 40000) (ha2 : deal_a2 = (⟨verses_a1, getI ((rows_r3).set ((getI numbers_here_r1 (2 : Int)) % (2 : Int)).toNat ((getI rows_r3 ((getI numbers_here_r1 (2 : Int)) % (2 : Int))).map fun e1 => ([] : List Int))) 0, getI ((rows_r3).set ((getI numbers_here_r1 (2 : Int)) % (2 : Int)).toNat ((getI rows_r3 ((getI numbers_here_r1 (2 : Int)) % (2 : Int))).map fun e1 => ([] : List Int))) 1⟩ : DealM)) (ha3 : empty_a3 = ((decide (((getI ((rows_r3).set ((getI numbers_here_r1 (2 : Int)) % (2 : Int)).toNat ((getI rows_r3 ((getI numbers_here_r1 (2 : Int)) % (2 : Int))).map fun e1 => ([] : List Int))) ((0 : Int))).flatten) = (([] : List Int)))) || (decide (((getI ((rows_r3).set ((getI numbers_here_r1 (2 : Int)) % (2 : Int)).toNat ((getI rows_r3 ((getI numbers_here_r1 (2 : Int)) % (2 : Int))).map fun e1 => ([] : List Int))) ((1 : Int))).flatten) = (([] : List Int)))))) (hT : tabErr deal_a2 ≠ none) (c2 : empty_a3 = false) : False := by
  rw [ha2] at hT
  have := tab_not.mp hT
  rw [ha3] at c2
  exact absurd this (Bool.eq_false_iff.mp c2)
theorem vc_law_pre_copy2 (script : (List Int)) (numbers_here_r1 : (List Int)) (verses_r2 : (List (List Str))) (verses_a1 : (List (List Str))) (rows_r3 : (List (List (List Int)))) (hn0 : script.length ≤ 63) (hr1 : Nums ((360 : Int)).toNat numbers_here_r1) (hr2 : (GB (getI (([(3 : Int), (14 : Int), (40 : Int)] : List Int)) ((getI numbers_here_r1 (0 : Int)) % (3 : Int))).toNat verses_r2 ∧ ∀ l ∈ verses_r2, l.length ≤ 1000)) (ha1 : verses_a1 = verses_r2 ++ (repI (([([("o" : Str)] : List Str)] : List (List Str))) ((if (((decide ((((verses_r2).length : Int)) = (1 : Int))) && (!decide ((getI (getI verses_r2 (0 : Int)) (0 : Int)) = (("o" : Str)))))) = true then (1 : Int) else 0)))) (hr3 : FldsOk (((verses_a1).length : Int)).toNat rows_r3) (hb29 : (rows_r3).length ≤ 40000) (c1 : (decide (((getI numbers_here_r1 (1 : Int)) % (3 : Int)) = (2 : Int))) = false) : (verses_a1).length ≤ 1000 ∧ ∀ l ∈ verses_a1, l.length ≤ 1000 := by
  have hv := addO_ok hr2 (get3_le (by decide) (by decide) (by decide)) ha1
  have hb := book_lens hv (by decide)
  have hl40 := hv.1.len
  have hN : numbers_here_r1.length = 360 := hr1.1
  have h1p := hv.1.pos
  exact hb.2
theorem vc_law_pre_Book2 (script : (List Int)) (numbers_here_r1 : (List Int)) (verses_r2 : (List (List Str))) (verses_a1 : (List (List Str))) (rows_r3 : (List (List (List Int)))) (hn0 : script.length ≤ 63) (hr1 : Nums ((360 : Int)).toNat numbers_here_r1) (hr2 : (GB (getI (([(3 : Int), (14 : Int), (40 : Int)] : List Int)) ((getI numbers_here_r1 (0 : Int)) % (3 : Int))).toNat verses_r2 ∧ ∀ l ∈ verses_r2, l.length ≤ 1000)) (ha1 : verses_a1 = verses_r2 ++ (repI (([([("o" : Str)] : List Str)] : List (List Str))) ((if (((decide ((((verses_r2).length : Int)) = (1 : Int))) && (!decide ((getI (getI verses_r2 (0 : Int)) (0 : Int)) = (("o" : Str)))))) = true then (1 : Int) else 0)))) (hr3 : FldsOk (((verses_a1).length : Int)).toNat rows_r3) (hb29 : (rows_r3).length ≤ 40000) (c1 : (decide (((getI numbers_here_r1 (1 : Int)) % (3 : Int)) = (2 : Int))) = false) : needM (verses_a1) = none ∧ (verses_a1).length ≤ 1000 ∧ ∀ l ∈ verses_a1, l.length ≤ 1000 := by
  have hv := addO_ok hr2 (get3_le (by decide) (by decide) (by decide)) ha1
  have hb := book_lens hv (by decide)
  have hl40 := hv.1.len
  have hN : numbers_here_r1.length = 360 := hr1.1
  have h1p := hv.1.pos
  exact hb
theorem vc_law_pre_made2 (script : (List Int)) (numbers_here_r1 : (List Int)) (verses_r2 : (List (List Str))) (verses_a1 : (List (List Str))) (rows_r3 : (List (List (List Int)))) (hn0 : script.length ≤ 63) (hr1 : Nums ((360 : Int)).toNat numbers_here_r1) (hr2 : (GB (getI (([(3 : Int), (14 : Int), (40 : Int)] : List Int)) ((getI numbers_here_r1 (0 : Int)) % (3 : Int))).toNat verses_r2 ∧ ∀ l ∈ verses_r2, l.length ≤ 1000)) (ha1 : verses_a1 = verses_r2 ++ (repI (([([("o" : Str)] : List Str)] : List (List Str))) ((if (((decide ((((verses_r2).length : Int)) = (1 : Int))) && (!decide ((getI (getI verses_r2 (0 : Int)) (0 : Int)) = (("o" : Str)))))) = true then (1 : Int) else 0)))) (hr3 : FldsOk (((verses_a1).length : Int)).toNat rows_r3) (hb29 : (rows_r3).length ≤ 40000) (c1 : (decide (((getI numbers_here_r1 (1 : Int)) % (3 : Int)) = (2 : Int))) = false) : (rows_r3).length = 2 ∧ dealM (verses_a1).length (getI rows_r3 0) (getI rows_r3 1) = true := by
  have hv := addO_ok hr2 (get3_le (by decide) (by decide) (by decide)) ha1
  have hb := book_lens hv (by decide)
  have hl40 := hv.1.len
  have hN : numbers_here_r1.length = 360 := hr1.1
  have h1p := hv.1.pos
  have he := FldsOk.deal (n := verses_a1.length) hr3
  exact he
theorem vc_law_pre_cards5 (script : (List Int)) (numbers_here_r1 : (List Int)) (verses_r2 : (List (List Str))) (verses_a1 : (List (List Str))) (rows_r3 : (List (List (List Int)))) (hn0 : script.length ≤ 63) (hr1 : Nums ((360 : Int)).toNat numbers_here_r1) (hr2 : (GB (getI (([(3 : Int), (14 : Int), (40 : Int)] : List Int)) ((getI numbers_here_r1 (0 : Int)) % (3 : Int))).toNat verses_r2 ∧ ∀ l ∈ verses_r2, l.length ≤ 1000)) (ha1 : verses_a1 = verses_r2 ++ (repI (([([("o" : Str)] : List Str)] : List (List Str))) ((if (((decide ((((verses_r2).length : Int)) = (1 : Int))) && (!decide ((getI (getI verses_r2 (0 : Int)) (0 : Int)) = (("o" : Str)))))) = true then (1 : Int) else 0)))) (hr3 : FldsOk (((verses_a1).length : Int)).toNat rows_r3) (hb29 : (rows_r3).length ≤ 40000) (c1 : (decide (((getI numbers_here_r1 (1 : Int)) % (3 : Int)) = (2 : Int))) = false) : (0 ≤ ((0 : Int)) ∧ ((0 : Int)) < ((rows_r3).length : Int)) := by
  have hv := addO_ok hr2 (get3_le (by decide) (by decide) (by decide)) ha1
  have hb := book_lens hv (by decide)
  have hl40 := hv.1.len
  have hN : numbers_here_r1.length = 360 := hr1.1
  have h1p := hv.1.pos
  have he := FldsOk.deal (n := verses_a1.length) hr3
  rw [he.1]
  decide
theorem vc_law_pre_cards6 (script : (List Int)) (numbers_here_r1 : (List Int)) (verses_r2 : (List (List Str))) (verses_a1 : (List (List Str))) (rows_r3 : (List (List (List Int)))) (hn0 : script.length ≤ 63) (hr1 : Nums ((360 : Int)).toNat numbers_here_r1) (hr2 : (GB (getI (([(3 : Int), (14 : Int), (40 : Int)] : List Int)) ((getI numbers_here_r1 (0 : Int)) % (3 : Int))).toNat verses_r2 ∧ ∀ l ∈ verses_r2, l.length ≤ 1000)) (ha1 : verses_a1 = verses_r2 ++ (repI (([([("o" : Str)] : List Str)] : List (List Str))) ((if (((decide ((((verses_r2).length : Int)) = (1 : Int))) && (!decide ((getI (getI verses_r2 (0 : Int)) (0 : Int)) = (("o" : Str)))))) = true then (1 : Int) else 0)))) (hr3 : FldsOk (((verses_a1).length : Int)).toNat rows_r3) (hb29 : (rows_r3).length ≤ 40000) (c1 : (decide (((getI numbers_here_r1 (1 : Int)) % (3 : Int)) = (2 : Int))) = false) : ((getI (rows_r3) ((0 : Int))).flatten).length ≤ 40000 := by
  have hv := addO_ok hr2 (get3_le (by decide) (by decide) (by decide)) ha1
  have hb := book_lens hv (by decide)
  have hl40 := hv.1.len
  have hN : numbers_here_r1.length = 360 := hr1.1
  have h1p := hv.1.pos
  have he := FldsOk.deal (n := verses_a1.length) hr3
  exact cards40 (d := ⟨verses_a1, _, _⟩) he.2 0
theorem vc_law_pre_cards7 (script : (List Int)) (numbers_here_r1 : (List Int)) (verses_r2 : (List (List Str))) (verses_a1 : (List (List Str))) (rows_r3 : (List (List (List Int)))) (hn0 : script.length ≤ 63) (hr1 : Nums ((360 : Int)).toNat numbers_here_r1) (hr2 : (GB (getI (([(3 : Int), (14 : Int), (40 : Int)] : List Int)) ((getI numbers_here_r1 (0 : Int)) % (3 : Int))).toNat verses_r2 ∧ ∀ l ∈ verses_r2, l.length ≤ 1000)) (ha1 : verses_a1 = verses_r2 ++ (repI (([([("o" : Str)] : List Str)] : List (List Str))) ((if (((decide ((((verses_r2).length : Int)) = (1 : Int))) && (!decide ((getI (getI verses_r2 (0 : Int)) (0 : Int)) = (("o" : Str)))))) = true then (1 : Int) else 0)))) (hr3 : FldsOk (((verses_a1).length : Int)).toNat rows_r3) (hb29 : (rows_r3).length ≤ 40000) (c1 : (decide (((getI numbers_here_r1 (1 : Int)) % (3 : Int)) = (2 : Int))) = false) (hc105 : (decide (((getI (rows_r3) ((0 : Int))).flatten) = (([] : List Int)))) = false) : (0 ≤ ((1 : Int)) ∧ ((1 : Int)) < ((rows_r3).length : Int)) := by
  have hv := addO_ok hr2 (get3_le (by decide) (by decide) (by decide)) ha1
  have hb := book_lens hv (by decide)
  have hl40 := hv.1.len
  have hN : numbers_here_r1.length = 360 := hr1.1
  have h1p := hv.1.pos
  have he := FldsOk.deal (n := verses_a1.length) hr3
  rw [he.1]
  decide
theorem vc_law_pre_cards8 (script : (List Int)) (numbers_here_r1 : (List Int)) (verses_r2 : (List (List Str))) (verses_a1 : (List (List Str))) (rows_r3 : (List (List (List Int)))) (hn0 : script.length ≤ 63) (hr1 : Nums ((360 : Int)).toNat numbers_here_r1) (hr2 : (GB (getI (([(3 : Int), (14 : Int), (40 : Int)] : List Int)) ((getI numbers_here_r1 (0 : Int)) % (3 : Int))).toNat verses_r2 ∧ ∀ l ∈ verses_r2, l.length ≤ 1000)) (ha1 : verses_a1 = verses_r2 ++ (repI (([([("o" : Str)] : List Str)] : List (List Str))) ((if (((decide ((((verses_r2).length : Int)) = (1 : Int))) && (!decide ((getI (getI verses_r2 (0 : Int)) (0 : Int)) = (("o" : Str)))))) = true then (1 : Int) else 0)))) (hr3 : FldsOk (((verses_a1).length : Int)).toNat rows_r3) (hb29 : (rows_r3).length ≤ 40000) (c1 : (decide (((getI numbers_here_r1 (1 : Int)) % (3 : Int)) = (2 : Int))) = false) (hc105 : (decide (((getI (rows_r3) ((0 : Int))).flatten) = (([] : List Int)))) = false) : ((getI (rows_r3) ((1 : Int))).flatten).length ≤ 40000 := by
  have hv := addO_ok hr2 (get3_le (by decide) (by decide) (by decide)) ha1
  have hb := book_lens hv (by decide)
  have hl40 := hv.1.len
  have hN : numbers_here_r1.length = 360 := hr1.1
  have h1p := hv.1.pos
  have he := FldsOk.deal (n := verses_a1.length) hr3
  exact cards40 (d := ⟨verses_a1, _, _⟩) he.2 1
theorem vc_law_ret4 (script : (List Int)) (numbers_here_r1 : (List Int)) (verses_r2 : (List (List Str))) (verses_a1 : (List (List Str))) (rows_r3 : (List (List (List Int)))) (empty_a6 : Bool) (hn0 : script.length ≤ 63) (hr1 : Nums ((360 : Int)).toNat numbers_here_r1) (hr2 : (GB (getI (([(3 : Int), (14 : Int), (40 : Int)] : List Int)) ((getI numbers_here_r1 (0 : Int)) % (3 : Int))).toNat verses_r2 ∧ ∀ l ∈ verses_r2, l.length ≤ 1000)) (ha1 : verses_a1 = verses_r2 ++ (repI (([([("o" : Str)] : List Str)] : List (List Str))) ((if (((decide ((((verses_r2).length : Int)) = (1 : Int))) && (!decide ((getI (getI verses_r2 (0 : Int)) (0 : Int)) = (("o" : Str)))))) = true then (1 : Int) else 0)))) (hr3 : FldsOk (((verses_a1).length : Int)).toNat rows_r3) (hb29 : (rows_r3).length ≤ 40000) (c1 : (decide (((getI numbers_here_r1 (1 : Int)) % (3 : Int)) = (2 : Int))) = false) (ha6 : empty_a6 = ((decide (((getI (rows_r3) ((0 : Int))).flatten) = (([] : List Int)))) || (decide (((getI (rows_r3) ((1 : Int))).flatten) = (([] : List Int)))))) (hT : tabErr (⟨verses_a1, getI rows_r3 0, getI rows_r3 1⟩ : DealM) = none) (c2 : empty_a6 = true) : (true) = (decide ((("" : Str)) = (("BadDeal" : Str)))) := by
  rw [ha6] at c2
  exact absurd hT (tab_not.mpr c2)
theorem vc_law_safe3 (script : (List Int)) (numbers_here_r1 : (List Int)) (verses_r2 : (List (List Str))) (verses_a1 : (List (List Str))) (rows_r3 : (List (List (List Int)))) (empty_a6 : Bool) (hn0 : script.length ≤ 63) (hr1 : Nums ((360 : Int)).toNat numbers_here_r1) (hr2 : (GB (getI (([(3 : Int), (14 : Int), (40 : Int)] : List Int)) ((getI numbers_here_r1 (0 : Int)) % (3 : Int))).toNat verses_r2 ∧ ∀ l ∈ verses_r2, l.length ≤ 1000)) (ha1 : verses_a1 = verses_r2 ++ (repI (([([("o" : Str)] : List Str)] : List (List Str))) ((if (((decide ((((verses_r2).length : Int)) = (1 : Int))) && (!decide ((getI (getI verses_r2 (0 : Int)) (0 : Int)) = (("o" : Str)))))) = true then (1 : Int) else 0)))) (hr3 : FldsOk (((verses_a1).length : Int)).toNat rows_r3) (hb29 : (rows_r3).length ≤ 40000) (c1 : (decide (((getI numbers_here_r1 (1 : Int)) % (3 : Int)) = (2 : Int))) = false) (ha6 : empty_a6 = ((decide (((getI (rows_r3) ((0 : Int))).flatten) = (([] : List Int)))) || (decide (((getI (rows_r3) ((1 : Int))).flatten) = (([] : List Int)))))) (hT : tabErr (⟨verses_a1, getI rows_r3 0, getI rows_r3 1⟩ : DealM) = none) (c2 : empty_a6 = false) : tabErr ((⟨verses_a1, getI rows_r3 0, getI rows_r3 1⟩ : DealM)) = none := by
  exact hT
theorem vc_law_pre_t_told5 (script : (List Int)) (numbers_here_r1 : (List Int)) (verses_r2 : (List (List Str))) (verses_a1 : (List (List Str))) (rows_r3 : (List (List (List Int)))) (empty_a6 : Bool) (other_a7 : TabM) (hn0 : script.length ≤ 63) (hr1 : Nums ((360 : Int)).toNat numbers_here_r1) (hr2 : (GB (getI (([(3 : Int), (14 : Int), (40 : Int)] : List Int)) ((getI numbers_here_r1 (0 : Int)) % (3 : Int))).toNat verses_r2 ∧ ∀ l ∈ verses_r2, l.length ≤ 1000)) (ha1 : verses_a1 = verses_r2 ++ (repI (([([("o" : Str)] : List Str)] : List (List Str))) ((if (((decide ((((verses_r2).length : Int)) = (1 : Int))) && (!decide ((getI (getI verses_r2 (0 : Int)) (0 : Int)) = (("o" : Str)))))) = true then (1 : Int) else 0)))) (hr3 : FldsOk (((verses_a1).length : Int)).toNat rows_r3) (hb29 : (rows_r3).length ≤ 40000) (c1 : (decide (((getI numbers_here_r1 (1 : Int)) % (3 : Int)) = (2 : Int))) = false) (ha6 : empty_a6 = ((decide (((getI (rows_r3) ((0 : Int))).flatten) = (([] : List Int)))) || (decide (((getI (rows_r3) ((1 : Int))).flatten) = (([] : List Int)))))) (hT : tabErr (⟨verses_a1, getI rows_r3 0, getI rows_r3 1⟩ : DealM) = none) (c2 : empty_a6 = false) (ha7 : other_a7 = tab0 ((⟨verses_a1, getI rows_r3 0, getI rows_r3 1⟩ : DealM))) (hc127 : (!decide ((("" : Str)) = (("" : Str)))) = false) : TRel ((tab0 (⟨verses_a1, getI rows_r3 0, getI rows_r3 1⟩ : DealM))) (verses_a1) ((⟨(rows_r3), [], none, [], (0, 0), (0, 0), none⟩ : TRec)) := by
  have hv := addO_ok hr2 (get3_le (by decide) (by decide) (by decide)) ha1
  have hb := book_lens hv (by decide)
  have hl40 := hv.1.len
  have hN : numbers_here_r1.length = 360 := hr1.1
  have h1p := hv.1.pos
  have he := FldsOk.deal (n := verses_a1.length) hr3
  exact start_rel he.1
theorem vc_law_pre_t_told6 (script : (List Int)) (numbers_here_r1 : (List Int)) (verses_r2 : (List (List Str))) (verses_a1 : (List (List Str))) (rows_r3 : (List (List (List Int)))) (empty_a6 : Bool) (other_a7 : TabM) (hn0 : script.length ≤ 63) (hr1 : Nums ((360 : Int)).toNat numbers_here_r1) (hr2 : (GB (getI (([(3 : Int), (14 : Int), (40 : Int)] : List Int)) ((getI numbers_here_r1 (0 : Int)) % (3 : Int))).toNat verses_r2 ∧ ∀ l ∈ verses_r2, l.length ≤ 1000)) (ha1 : verses_a1 = verses_r2 ++ (repI (([([("o" : Str)] : List Str)] : List (List Str))) ((if (((decide ((((verses_r2).length : Int)) = (1 : Int))) && (!decide ((getI (getI verses_r2 (0 : Int)) (0 : Int)) = (("o" : Str)))))) = true then (1 : Int) else 0)))) (hr3 : FldsOk (((verses_a1).length : Int)).toNat rows_r3) (hb29 : (rows_r3).length ≤ 40000) (c1 : (decide (((getI numbers_here_r1 (1 : Int)) % (3 : Int)) = (2 : Int))) = false) (ha6 : empty_a6 = ((decide (((getI (rows_r3) ((0 : Int))).flatten) = (([] : List Int)))) || (decide (((getI (rows_r3) ((1 : Int))).flatten) = (([] : List Int)))))) (hT : tabErr (⟨verses_a1, getI rows_r3 0, getI rows_r3 1⟩ : DealM) = none) (c2 : empty_a6 = false) (ha7 : other_a7 = tab0 ((⟨verses_a1, getI rows_r3 0, getI rows_r3 1⟩ : DealM))) (hc127 : (!decide ((("" : Str)) = (("" : Str)))) = false) : TabS ((tab0 (⟨verses_a1, getI rows_r3 0, getI rows_r3 1⟩ : DealM))) := by
  exact start_S
theorem vc_law_never3 (script : (List Int)) (numbers_here_r1 : (List Int)) (verses_r2 : (List (List Str))) (verses_a1 : (List (List Str))) (rows_r3 : (List (List (List Int)))) (empty_a6 : Bool) (other_a7 : TabM) (hn0 : script.length ≤ 63) (hr1 : Nums ((360 : Int)).toNat numbers_here_r1) (hr2 : (GB (getI (([(3 : Int), (14 : Int), (40 : Int)] : List Int)) ((getI numbers_here_r1 (0 : Int)) % (3 : Int))).toNat verses_r2 ∧ ∀ l ∈ verses_r2, l.length ≤ 1000)) (ha1 : verses_a1 = verses_r2 ++ (repI (([([("o" : Str)] : List Str)] : List (List Str))) ((if (((decide ((((verses_r2).length : Int)) = (1 : Int))) && (!decide ((getI (getI verses_r2 (0 : Int)) (0 : Int)) = (("o" : Str)))))) = true then (1 : Int) else 0)))) (hr3 : FldsOk (((verses_a1).length : Int)).toNat rows_r3) (hb29 : (rows_r3).length ≤ 40000) (c1 : (decide (((getI numbers_here_r1 (1 : Int)) % (3 : Int)) = (2 : Int))) = false) (ha6 : empty_a6 = ((decide (((getI (rows_r3) ((0 : Int))).flatten) = (([] : List Int)))) || (decide (((getI (rows_r3) ((1 : Int))).flatten) = (([] : List Int)))))) (hT : tabErr (⟨verses_a1, getI rows_r3 0, getI rows_r3 1⟩ : DealM) = none) (c2 : empty_a6 = false) (ha7 : other_a7 = tab0 ((⟨verses_a1, getI rows_r3 0, getI rows_r3 1⟩ : DealM))) (c3 : (((!decide ((("" : Str)) = (("" : Str)))) || (!true))) = true) : False := by
  cases c3
theorem vc_law_ix9 (script : (List Int)) (numbers_here_r1 : (List Int)) (verses_r2 : (List (List Str))) (verses_a1 : (List (List Str))) (rows_r3 : (List (List (List Int)))) (empty_a6 : Bool) (other_a7 : TabM) (hn0 : script.length ≤ 63) (hr1 : Nums ((360 : Int)).toNat numbers_here_r1) (hr2 : (GB (getI (([(3 : Int), (14 : Int), (40 : Int)] : List Int)) ((getI numbers_here_r1 (0 : Int)) % (3 : Int))).toNat verses_r2 ∧ ∀ l ∈ verses_r2, l.length ≤ 1000)) (ha1 : verses_a1 = verses_r2 ++ (repI (([([("o" : Str)] : List Str)] : List (List Str))) ((if (((decide ((((verses_r2).length : Int)) = (1 : Int))) && (!decide ((getI (getI verses_r2 (0 : Int)) (0 : Int)) = (("o" : Str)))))) = true then (1 : Int) else 0)))) (hr3 : FldsOk (((verses_a1).length : Int)).toNat rows_r3) (hb29 : (rows_r3).length ≤ 40000) (c1 : (decide (((getI numbers_here_r1 (1 : Int)) % (3 : Int)) = (2 : Int))) = false) (ha6 : empty_a6 = ((decide (((getI (rows_r3) ((0 : Int))).flatten) = (([] : List Int)))) || (decide (((getI (rows_r3) ((1 : Int))).flatten) = (([] : List Int)))))) (hT : tabErr (⟨verses_a1, getI rows_r3 0, getI rows_r3 1⟩ : DealM) = none) (c2 : empty_a6 = false) (ha7 : other_a7 = tab0 ((⟨verses_a1, getI rows_r3 0, getI rows_r3 1⟩ : DealM))) (c3 : (((!decide ((("" : Str)) = (("" : Str)))) || (!true))) = false) : -((numbers_here_r1).length : Int) ≤ (3 : Int) ∧ (3 : Int) < (numbers_here_r1).length := by
  have hN : numbers_here_r1.length = 360 := hr1.1
  omega
theorem vc_law_mod2 (script : (List Int)) (numbers_here_r1 : (List Int)) (verses_r2 : (List (List Str))) (verses_a1 : (List (List Str))) (rows_r3 : (List (List (List Int)))) (empty_a6 : Bool) (other_a7 : TabM) (hn0 : script.length ≤ 63) (hr1 : Nums ((360 : Int)).toNat numbers_here_r1) (hr2 : (GB (getI (([(3 : Int), (14 : Int), (40 : Int)] : List Int)) ((getI numbers_here_r1 (0 : Int)) % (3 : Int))).toNat verses_r2 ∧ ∀ l ∈ verses_r2, l.length ≤ 1000)) (ha1 : verses_a1 = verses_r2 ++ (repI (([([("o" : Str)] : List Str)] : List (List Str))) ((if (((decide ((((verses_r2).length : Int)) = (1 : Int))) && (!decide ((getI (getI verses_r2 (0 : Int)) (0 : Int)) = (("o" : Str)))))) = true then (1 : Int) else 0)))) (hr3 : FldsOk (((verses_a1).length : Int)).toNat rows_r3) (hb29 : (rows_r3).length ≤ 40000) (c1 : (decide (((getI numbers_here_r1 (1 : Int)) % (3 : Int)) = (2 : Int))) = false) (ha6 : empty_a6 = ((decide (((getI (rows_r3) ((0 : Int))).flatten) = (([] : List Int)))) || (decide (((getI (rows_r3) ((1 : Int))).flatten) = (([] : List Int)))))) (hT : tabErr (⟨verses_a1, getI rows_r3 0, getI rows_r3 1⟩ : DealM) = none) (c2 : empty_a6 = false) (ha7 : other_a7 = tab0 ((⟨verses_a1, getI rows_r3 0, getI rows_r3 1⟩ : DealM))) (c3 : (((!decide ((("" : Str)) = (("" : Str)))) || (!true))) = false) : (0 : Int) < ((verses_a1).length : Int) := by
  have hv := addO_ok hr2 (get3_le (by decide) (by decide) (by decide)) ha1
  have hb := book_lens hv (by decide)
  have hl40 := hv.1.len
  have hN : numbers_here_r1.length = 360 := hr1.1
  have h1p := hv.1.pos
  omega
theorem vc_law_safe4 (script : (List Int)) (numbers_here_r1 : (List Int)) (verses_r2 : (List (List Str))) (verses_a1 : (List (List Str))) (rows_r3 : (List (List (List Int)))) (empty_a6 : Bool) (other_a7 : TabM) (hn0 : script.length ≤ 63) (hr1 : Nums ((360 : Int)).toNat numbers_here_r1) (hr2 : (GB (getI (([(3 : Int), (14 : Int), (40 : Int)] : List Int)) ((getI numbers_here_r1 (0 : Int)) % (3 : Int))).toNat verses_r2 ∧ ∀ l ∈ verses_r2, l.length ≤ 1000)) (ha1 : verses_a1 = verses_r2 ++ (repI (([([("o" : Str)] : List Str)] : List (List Str))) ((if (((decide ((((verses_r2).length : Int)) = (1 : Int))) && (!decide ((getI (getI verses_r2 (0 : Int)) (0 : Int)) = (("o" : Str)))))) = true then (1 : Int) else 0)))) (hr3 : FldsOk (((verses_a1).length : Int)).toNat rows_r3) (hb29 : (rows_r3).length ≤ 40000) (c1 : (decide (((getI numbers_here_r1 (1 : Int)) % (3 : Int)) = (2 : Int))) = false) (ha6 : empty_a6 = ((decide (((getI (rows_r3) ((0 : Int))).flatten) = (([] : List Int)))) || (decide (((getI (rows_r3) ((1 : Int))).flatten) = (([] : List Int)))))) (hT : tabErr (⟨verses_a1, getI rows_r3 0, getI rows_r3 1⟩ : DealM) = none) (c2 : empty_a6 = false) (ha7 : other_a7 = tab0 ((⟨verses_a1, getI rows_r3 0, getI rows_r3 1⟩ : DealM))) (c3 : (((!decide ((("" : Str)) = (("" : Str)))) || (!true))) = false) : readErr ((tab0 (⟨verses_a1, getI rows_r3 0, getI rows_r3 1⟩ : DealM))) ((getI numbers_here_r1 (3 : Int)) % (((verses_a1).length : Int))) = none := by
  have hv := addO_ok hr2 (get3_le (by decide) (by decide) (by decide)) ha1
  have hb := book_lens hv (by decide)
  have hl40 := hv.1.len
  have hN : numbers_here_r1.length = 360 := hr1.1
  have h1p := hv.1.pos
  refine tab0_read hT ?_
  exact ⟨Int.emod_nonneg _ (by omega), Int.emod_lt_of_pos _ (by omega)⟩
theorem vc_law_pre_t_told7 (script : (List Int)) (numbers_here_r1 : (List Int)) (verses_r2 : (List (List Str))) (verses_a1 : (List (List Str))) (rows_r3 : (List (List (List Int)))) (empty_a6 : Bool) (other_a7 : TabM) (table_a8 : TabM) (hn0 : script.length ≤ 63) (hr1 : Nums ((360 : Int)).toNat numbers_here_r1) (hr2 : (GB (getI (([(3 : Int), (14 : Int), (40 : Int)] : List Int)) ((getI numbers_here_r1 (0 : Int)) % (3 : Int))).toNat verses_r2 ∧ ∀ l ∈ verses_r2, l.length ≤ 1000)) (ha1 : verses_a1 = verses_r2 ++ (repI (([([("o" : Str)] : List Str)] : List (List Str))) ((if (((decide ((((verses_r2).length : Int)) = (1 : Int))) && (!decide ((getI (getI verses_r2 (0 : Int)) (0 : Int)) = (("o" : Str)))))) = true then (1 : Int) else 0)))) (hr3 : FldsOk (((verses_a1).length : Int)).toNat rows_r3) (hb29 : (rows_r3).length ≤ 40000) (c1 : (decide (((getI numbers_here_r1 (1 : Int)) % (3 : Int)) = (2 : Int))) = false) (ha6 : empty_a6 = ((decide (((getI (rows_r3) ((0 : Int))).flatten) = (([] : List Int)))) || (decide (((getI (rows_r3) ((1 : Int))).flatten) = (([] : List Int)))))) (hT : tabErr (⟨verses_a1, getI rows_r3 0, getI rows_r3 1⟩ : DealM) = none) (c2 : empty_a6 = false) (ha7 : other_a7 = tab0 ((⟨verses_a1, getI rows_r3 0, getI rows_r3 1⟩ : DealM))) (c3 : (((!decide ((("" : Str)) = (("" : Str)))) || (!true))) = false) (ha8 : table_a8 = readM ((tab0 (⟨verses_a1, getI rows_r3 0, getI rows_r3 1⟩ : DealM))) ((getI numbers_here_r1 (3 : Int)) % (((verses_a1).length : Int)))) : TRel (other_a7) (verses_a1) ((⟨(rows_r3), [], none, [], (0, 0), (0, 0), none⟩ : TRec)) := by
  have hv := addO_ok hr2 (get3_le (by decide) (by decide) (by decide)) ha1
  have hb := book_lens hv (by decide)
  have hl40 := hv.1.len
  have hN : numbers_here_r1.length = 360 := hr1.1
  have h1p := hv.1.pos
  have he := FldsOk.deal (n := verses_a1.length) hr3
  rw [ha7]
  exact start_rel he.1
theorem vc_law_pre_t_told8 (script : (List Int)) (numbers_here_r1 : (List Int)) (verses_r2 : (List (List Str))) (verses_a1 : (List (List Str))) (rows_r3 : (List (List (List Int)))) (empty_a6 : Bool) (other_a7 : TabM) (table_a8 : TabM) (hn0 : script.length ≤ 63) (hr1 : Nums ((360 : Int)).toNat numbers_here_r1) (hr2 : (GB (getI (([(3 : Int), (14 : Int), (40 : Int)] : List Int)) ((getI numbers_here_r1 (0 : Int)) % (3 : Int))).toNat verses_r2 ∧ ∀ l ∈ verses_r2, l.length ≤ 1000)) (ha1 : verses_a1 = verses_r2 ++ (repI (([([("o" : Str)] : List Str)] : List (List Str))) ((if (((decide ((((verses_r2).length : Int)) = (1 : Int))) && (!decide ((getI (getI verses_r2 (0 : Int)) (0 : Int)) = (("o" : Str)))))) = true then (1 : Int) else 0)))) (hr3 : FldsOk (((verses_a1).length : Int)).toNat rows_r3) (hb29 : (rows_r3).length ≤ 40000) (c1 : (decide (((getI numbers_here_r1 (1 : Int)) % (3 : Int)) = (2 : Int))) = false) (ha6 : empty_a6 = ((decide (((getI (rows_r3) ((0 : Int))).flatten) = (([] : List Int)))) || (decide (((getI (rows_r3) ((1 : Int))).flatten) = (([] : List Int)))))) (hT : tabErr (⟨verses_a1, getI rows_r3 0, getI rows_r3 1⟩ : DealM) = none) (c2 : empty_a6 = false) (ha7 : other_a7 = tab0 ((⟨verses_a1, getI rows_r3 0, getI rows_r3 1⟩ : DealM))) (c3 : (((!decide ((("" : Str)) = (("" : Str)))) || (!true))) = false) (ha8 : table_a8 = readM ((tab0 (⟨verses_a1, getI rows_r3 0, getI rows_r3 1⟩ : DealM))) ((getI numbers_here_r1 (3 : Int)) % (((verses_a1).length : Int)))) : TabS (other_a7) := by
  rw [ha7]
  exact start_S
theorem vc_law_pre_deal_told3 (script : (List Int)) (numbers_here_r1 : (List Int)) (verses_r2 : (List (List Str))) (verses_a1 : (List (List Str))) (rows_r3 : (List (List (List Int)))) (empty_a6 : Bool) (other_a7 : TabM) (table_a8 : TabM) (hn0 : script.length ≤ 63) (hr1 : Nums ((360 : Int)).toNat numbers_here_r1) (hr2 : (GB (getI (([(3 : Int), (14 : Int), (40 : Int)] : List Int)) ((getI numbers_here_r1 (0 : Int)) % (3 : Int))).toNat verses_r2 ∧ ∀ l ∈ verses_r2, l.length ≤ 1000)) (ha1 : verses_a1 = verses_r2 ++ (repI (([([("o" : Str)] : List Str)] : List (List Str))) ((if (((decide ((((verses_r2).length : Int)) = (1 : Int))) && (!decide ((getI (getI verses_r2 (0 : Int)) (0 : Int)) = (("o" : Str)))))) = true then (1 : Int) else 0)))) (hr3 : FldsOk (((verses_a1).length : Int)).toNat rows_r3) (hb29 : (rows_r3).length ≤ 40000) (c1 : (decide (((getI numbers_here_r1 (1 : Int)) % (3 : Int)) = (2 : Int))) = false) (ha6 : empty_a6 = ((decide (((getI (rows_r3) ((0 : Int))).flatten) = (([] : List Int)))) || (decide (((getI (rows_r3) ((1 : Int))).flatten) = (([] : List Int)))))) (hT : tabErr (⟨verses_a1, getI rows_r3 0, getI rows_r3 1⟩ : DealM) = none) (c2 : empty_a6 = false) (ha7 : other_a7 = tab0 ((⟨verses_a1, getI rows_r3 0, getI rows_r3 1⟩ : DealM))) (c3 : (((!decide ((("" : Str)) = (("" : Str)))) || (!true))) = false) (ha8 : table_a8 = readM ((tab0 (⟨verses_a1, getI rows_r3 0, getI rows_r3 1⟩ : DealM))) ((getI numbers_here_r1 (3 : Int)) % (((verses_a1).length : Int)))) (hc140 : true = true) : ((other_a7).lying) = (⟨verses_a1, getI rows_r3 0, getI rows_r3 1⟩ : DealM) ∧ (rows_r3).length = 2 ∧ (verses_a1).length ≤ 1000 ∧ ∀ l ∈ verses_a1, l.length ≤ 1000 := by
  have hv := addO_ok hr2 (get3_le (by decide) (by decide) (by decide)) ha1
  have hb := book_lens hv (by decide)
  have hl40 := hv.1.len
  have hN : numbers_here_r1.length = 360 := hr1.1
  have h1p := hv.1.pos
  have he := FldsOk.deal (n := verses_a1.length) hr3
  rw [ha7]
  exact ⟨rfl, he.1, hb.2⟩
theorem vc_law_pre_deal_told4 (script : (List Int)) (numbers_here_r1 : (List Int)) (verses_r2 : (List (List Str))) (verses_a1 : (List (List Str))) (rows_r3 : (List (List (List Int)))) (empty_a6 : Bool) (other_a7 : TabM) (table_a8 : TabM) (hn0 : script.length ≤ 63) (hr1 : Nums ((360 : Int)).toNat numbers_here_r1) (hr2 : (GB (getI (([(3 : Int), (14 : Int), (40 : Int)] : List Int)) ((getI numbers_here_r1 (0 : Int)) % (3 : Int))).toNat verses_r2 ∧ ∀ l ∈ verses_r2, l.length ≤ 1000)) (ha1 : verses_a1 = verses_r2 ++ (repI (([([("o" : Str)] : List Str)] : List (List Str))) ((if (((decide ((((verses_r2).length : Int)) = (1 : Int))) && (!decide ((getI (getI verses_r2 (0 : Int)) (0 : Int)) = (("o" : Str)))))) = true then (1 : Int) else 0)))) (hr3 : FldsOk (((verses_a1).length : Int)).toNat rows_r3) (hb29 : (rows_r3).length ≤ 40000) (c1 : (decide (((getI numbers_here_r1 (1 : Int)) % (3 : Int)) = (2 : Int))) = false) (ha6 : empty_a6 = ((decide (((getI (rows_r3) ((0 : Int))).flatten) = (([] : List Int)))) || (decide (((getI (rows_r3) ((1 : Int))).flatten) = (([] : List Int)))))) (hT : tabErr (⟨verses_a1, getI rows_r3 0, getI rows_r3 1⟩ : DealM) = none) (c2 : empty_a6 = false) (ha7 : other_a7 = tab0 ((⟨verses_a1, getI rows_r3 0, getI rows_r3 1⟩ : DealM))) (c3 : (((!decide ((("" : Str)) = (("" : Str)))) || (!true))) = false) (ha8 : table_a8 = readM ((tab0 (⟨verses_a1, getI rows_r3 0, getI rows_r3 1⟩ : DealM))) ((getI numbers_here_r1 (3 : Int)) % (((verses_a1).length : Int)))) (hc143 : ((true && true)) = true) : ((⟨verses_a1, getI rows_r3 0, getI rows_r3 1⟩ : DealM)) = (⟨verses_a1, getI rows_r3 0, getI rows_r3 1⟩ : DealM) ∧ (rows_r3).length = 2 ∧ (verses_a1).length ≤ 1000 ∧ ∀ l ∈ verses_a1, l.length ≤ 1000 := by
  have hv := addO_ok hr2 (get3_le (by decide) (by decide) (by decide)) ha1
  have hb := book_lens hv (by decide)
  have hl40 := hv.1.len
  have hN : numbers_here_r1.length = 360 := hr1.1
  have h1p := hv.1.pos
  have he := FldsOk.deal (n := verses_a1.length) hr3
  exact ⟨rfl, he.1, hb.2⟩
theorem vc_law_ret5 (script : (List Int)) (numbers_here_r1 : (List Int)) (verses_r2 : (List (List Str))) (verses_a1 : (List (List Str))) (rows_r3 : (List (List (List Int)))) (empty_a6 : Bool) (other_a7 : TabM) (table_a8 : TabM) (hn0 : script.length ≤ 63) (hr1 : Nums ((360 : Int)).toNat numbers_here_r1) (hr2 : (GB (getI (([(3 : Int), (14 : Int), (40 : Int)] : List Int)) ((getI numbers_here_r1 (0 : Int)) % (3 : Int))).toNat verses_r2 ∧ ∀ l ∈ verses_r2, l.length ≤ 1000)) (ha1 : verses_a1 = verses_r2 ++ (repI (([([("o" : Str)] : List Str)] : List (List Str))) ((if (((decide ((((verses_r2).length : Int)) = (1 : Int))) && (!decide ((getI (getI verses_r2 (0 : Int)) (0 : Int)) = (("o" : Str)))))) = true then (1 : Int) else 0)))) (hr3 : FldsOk (((verses_a1).length : Int)).toNat rows_r3) (hb29 : (rows_r3).length ≤ 40000) (c1 : (decide (((getI numbers_here_r1 (1 : Int)) % (3 : Int)) = (2 : Int))) = false) (ha6 : empty_a6 = ((decide (((getI (rows_r3) ((0 : Int))).flatten) = (([] : List Int)))) || (decide (((getI (rows_r3) ((1 : Int))).flatten) = (([] : List Int)))))) (hT : tabErr (⟨verses_a1, getI rows_r3 0, getI rows_r3 1⟩ : DealM) = none) (c2 : empty_a6 = false) (ha7 : other_a7 = tab0 ((⟨verses_a1, getI rows_r3 0, getI rows_r3 1⟩ : DealM))) (c3 : (((!decide ((("" : Str)) = (("" : Str)))) || (!true))) = false) (ha8 : table_a8 = readM ((tab0 (⟨verses_a1, getI rows_r3 0, getI rows_r3 1⟩ : DealM))) ((getI numbers_here_r1 (3 : Int)) % (((verses_a1).length : Int)))) : (true) = ((((true && true)) && true)) := by
  rfl
theorem vc_law_ret6 (script : (List Int)) (numbers_here_r1 : (List Int)) (verses_r2 : (List (List Str))) (verses_a1 : (List (List Str))) (rows_r3 : (List (List (List Int)))) (empty_a6 : Bool) (hn0 : script.length ≤ 63) (hr1 : Nums ((360 : Int)).toNat numbers_here_r1) (hr2 : (GB (getI (([(3 : Int), (14 : Int), (40 : Int)] : List Int)) ((getI numbers_here_r1 (0 : Int)) % (3 : Int))).toNat verses_r2 ∧ ∀ l ∈ verses_r2, l.length ≤ 1000)) (ha1 : verses_a1 = verses_r2 ++ (repI (([([("o" : Str)] : List Str)] : List (List Str))) ((if (((decide ((((verses_r2).length : Int)) = (1 : Int))) && (!decide ((getI (getI verses_r2 (0 : Int)) (0 : Int)) = (("o" : Str)))))) = true then (1 : Int) else 0)))) (hr3 : FldsOk (((verses_a1).length : Int)).toNat rows_r3) (hb29 : (rows_r3).length ≤ 40000) (c1 : (decide (((getI numbers_here_r1 (1 : Int)) % (3 : Int)) = (2 : Int))) = false) (ha6 : empty_a6 = ((decide (((getI (rows_r3) ((0 : Int))).flatten) = (([] : List Int)))) || (decide (((getI (rows_r3) ((1 : Int))).flatten) = (([] : List Int)))))) (hT : tabErr (⟨verses_a1, getI rows_r3 0, getI rows_r3 1⟩ : DealM) ≠ none) (c2 : empty_a6 = true) : (true) = (decide ((("BadDeal" : Str)) = (("BadDeal" : Str)))) := by
  rfl
theorem vc_law_never4 (script : (List Int)) (numbers_here_r1 : (List Int)) (verses_r2 : (List (List Str))) (verses_a1 : (List (List Str))) (rows_r3 : (List (List (List Int)))) (empty_a6 : Bool) (hn0 : script.length ≤ 63) (hr1 : Nums ((360 : Int)).toNat numbers_here_r1) (hr2 : (GB (getI (([(3 : Int), (14 : Int), (40 : Int)] : List Int)) ((getI numbers_here_r1 (0 : Int)) % (3 : Int))).toNat verses_r2 ∧ ∀ l ∈ verses_r2, l.length ≤ 1000)) (ha1 : verses_a1 = verses_r2 ++ (repI (([([("o" : Str)] : List Str)] : List (List Str))) ((if (((decide ((((verses_r2).length : Int)) = (1 : Int))) && (!decide ((getI (getI verses_r2 (0 : Int)) (0 : Int)) = (("o" : Str)))))) = true then (1 : Int) else 0)))) (hr3 : FldsOk (((verses_a1).length : Int)).toNat rows_r3) (hb29 : (rows_r3).length ≤ 40000) (c1 : (decide (((getI numbers_here_r1 (1 : Int)) % (3 : Int)) = (2 : Int))) = false) (ha6 : empty_a6 = ((decide (((getI (rows_r3) ((0 : Int))).flatten) = (([] : List Int)))) || (decide (((getI (rows_r3) ((1 : Int))).flatten) = (([] : List Int)))))) (hT : tabErr (⟨verses_a1, getI rows_r3 0, getI rows_r3 1⟩ : DealM) ≠ none) (c2 : empty_a6 = false) : False := by
  have := tab_not.mp hT
  rw [ha6] at c2
  exact absurd this (Bool.eq_false_iff.mp c2)
theorem ok_law (B : Bt mg) {C_Book C_Deal C_Table : Addr} (O_Book : OkC P w K mg base 4 C_Book "Book" ["self", "verses"] ((R_Book K C_Book).spI mg C_Book)) (O_Table : OkC P w K mg base 4 C_Table "Table" ["self", "deal"] ((R_Table K C_Book C_Deal C_Table).spI mg C_Table)) (O_Table_deal : OkM P w K mg base 1 C_Table "deal" ["self"] ((R_Table_deal K C_Book C_Deal C_Table).sp mg)) (O_Table_read : OkM P w K mg base 6 C_Table "read" ["self", "verse"] ((R_Table_read K C_Book C_Deal C_Table).sp mg)) (O__law_book : Ok P w K mg base 3 "_law_book" ["_law_d", "_law_most"] ((R__law_book K).sp mg)) (O__law_cards : Ok P w K mg base 1 "_law_cards" ["_law_rows", "_law_field"] ((R__law_cards K).sp mg)) (O__law_copy : Ok P w K mg base 1 "_law_copy" ["_law_rows"] ((R__law_copy2 K).sp mg)) (O__law_deal_told : Ok P w K mg base 5 "_law_deal_told" ["_law_deal", "_law_verses", "_law_rows"] ((R__law_deal_told K C_Book C_Deal).sp mg)) (O__law_fields : Ok P w K mg base 1 "_law_fields" ["_law_many", "_law_d"] ((R__law_fields K).sp mg)) (O__law_made : Ok P w K mg base 5 "_law_made" ["_law_book_here", "_law_rows"] ((R__law_made K C_Book C_Deal).sp mg)) (O__law_numbers : Ok P w K mg base 1 "_law_numbers" ["_law_script", "_law_many"] ((R__law_numbers K).sp mg)) (O__law_opened : Ok P w K mg base 6 "_law_opened" ["_law_deal"] ((R__law_opened K C_Book C_Deal C_Table).sp mg)) (O__law_start : Ok P w K mg base 1 "_law_start" ["_law_rows"] ((R__law_start K).spB mg)) (O__law_t_told : Ok P w K mg base 5 "_law_t_told" ["_law_table", "_law_verses", "_law_t"] ((R__law_t_told K C_Book C_Deal C_Table).sp mg)) (D : Df K mg "law" s_law ["_law_script"]) : Ok P w K mg base 7 "law" ["_law_script"] (spLaw K) := by
  refine D.ok sc_law (fun vs H Q E h => ?_) (fun f cdv A outer s H vs Q E hr h => ?_)
  · obtain ⟨a, ns, rfl, _⟩ := h
    rfl
  · obtain ⟨a, script, rfl, hS, hn0, k0⟩ := h
    have o0 := Own.init H
    have k : RetNew H Q (fun N v => tB.R N v true) := fun v H' N _ _ _ h => by cases h; exact k0 H'
    have f0 : (tL K tI).R H (.ref a) script := ⟨a, _, rfl, hS, paired_mapI script, by omega⟩
    refine ⟨_, (pss_cons (ps_set (i := 1) sc_law.nd rfl (.inl rfl) (pe_callO O__law_numbers (hr.mono (by omega)) (by rfl) (takes_of rfl rfl rfl rfl) (pa_cons (pv 0) (pa_cons pe_int pa_nil))))
      (pss_cons (ps_set (i := 2) sc_law.nd rfl (.inl rfl) (pe_callO O__law_book (hr.mono (by omega)) (by rfl) (takes_of rfl rfl rfl rfl) (pa_cons (pe_slice (sl_K K) (pv 1) (po_some pe_int) po_none) (pa_cons (pe_ix (ix_seqK K) (pe_lst (pa_cons pe_int (pa_cons pe_int (pa_cons pe_int pa_nil)))) (pe_op op_mod (pe_ix (ix_seqK K) (pv 1) pe_int (fun _ _ => rfl)) pe_int) (fun _ _ => rfl)) pa_nil))))
      (pss_cons (ps_set (i := 2) sc_law.nd rfl (.inl rfl) (pe_op (op_addK K) (pv 2) (pe_op op_mulU (pe_lst (pa_cons (pe_lst (pa_cons pe_str pa_nil)) pa_nil)) (pe_callTy call_int1 (by rfl) B.int boot_ty_int (pa_cons (pe_and (pe_cmpR (op_eqK K (hu65 hr)) (pe_callB (call_lenK K) (by rfl) B.len boot_b_len (pa_cons (pv 2) pa_nil)) pe_int (nomark _)) (pe_one (pe_cmpR (op_neK K (hu65 hr)) (pe_ix (ix_seqK K) (pe_ix (ix_seqK K) (pv 2) pe_int (fun _ _ => rfl)) pe_int (fun _ _ => rfl)) pe_str (nomark _)))) pa_nil)))))
      (pss_cons (ps_set (i := 3) sc_law.nd rfl (.inl rfl) (pe_callO O__law_fields (hr.mono (by omega)) (by rfl) (takes_of rfl rfl rfl rfl) (pa_cons (pe_callB (call_lenK K) (by rfl) B.len boot_b_len (pa_cons (pv 2) pa_nil)) (pa_cons (pe_slice (sl_K K) (pv 1) (po_some pe_int) po_none) pa_nil))))
      (pss_cons (ps_if (pt_cmpR (op_eqK K (hu65 hr)) (pe_op op_mod (pe_ix (ix_seqK K) (pv 1) pe_int (fun _ _ => rfl)) pe_int) pe_int (nomark _))
        (pss_cons (ps_set (i := 4) sc_law.nd rfl (.inl rfl) (pe_op op_mod (pe_ix (ix_seqK K) (pv 1) pe_int (fun _ _ => rfl)) pe_int))
        (pss_one (ps_asg (pe_lc (own := [("_law_row", 11)]) rfl sc_law.nd (pi_listK K (pe_ix (ix_seqK K) (pv 3) (pv 4) (fun _ _ => rfl))) (blkOk_by (N := ["_law_script", "_law_numbers_here", "_law_verses", "_law_rows", "_law_field", "_law_deal", "_law_empty", "_law_why", "_law_table", "_law_other", "_law_told", "_law_row"]) (sc := defScope s_law) (by decide +kernel)) (fun _ _ _ _ _ => (pg_name (i := 11) sc_law.nd rfl (.inl rfl))) (fun _ _ _ _ _ => pts_nil) (fun _ _ _ _ _ => (pe_lst pa_nil))) (pg_sub (pv 3) (pv 4) set_list))))
        pss_nil)
      (pss_cons (ps_set (i := 5) sc_law.nd rfl (.inl rfl) (pe_callO O__law_made (hr.mono (by omega)) (by rfl) (takes_of rfl rfl rfl rfl) (pa_cons (pe_makeO O_Book (hr.mono (by omega)) (by rfl) (takes_of rfl rfl rfl rfl) (pa_cons (pe_callO O__law_copy (hr.mono (by omega)) (by rfl) (takes_of rfl rfl rfl rfl) (pa_cons (pv 2) pa_nil)) pa_nil)) (pa_cons (pv 3) pa_nil))))
      (pss_cons (ps_set (i := 6) sc_law.nd rfl (.inl rfl) (pe_or (pe_cmpR (op_eqK K (hu65 hr)) (pe_callO O__law_cards (hr.mono (by omega)) (by rfl) (takes_of rfl rfl rfl rfl) (pa_cons (pv 3) (pa_cons pe_int pa_nil))) (pe_lst pa_nil) (nomark _)) (pe_one (pe_cmpR (op_eqK K (hu65 hr)) (pe_callO O__law_cards (hr.mono (by omega)) (by rfl) (takes_of rfl rfl rfl rfl) (pa_cons (pv 3) (pa_cons pe_int pa_nil))) (pe_lst pa_nil) (nomark _)))))
      (pss_cons (ps_asg (pe_callO O__law_opened (hr.mono (by omega)) (by rfl) (takes_of rfl rfl rfl rfl) (pa_cons (pv 5) pa_nil)) (pg_tupK K (n := 2) rfl (pgs_cons (pg_name (i := 7) sc_law.nd rfl (.inl rfl)) (pgs_cons (pg_name (i := 8) sc_law.nd rfl (.inl rfl)) pgs_nil))))
      (pss_cons (ps_if (pt_val (pv 6))
        (pss_one (ps_ret (pe_cmpR (op_eqK K (hu65 hr)) (pv 7) pe_str (nomark _))))
        pss_nil)
      (pss_cons (ps_set (i := 9) sc_law.nd rfl (.inl rfl) (pe_makeO O_Table (hr.mono (by omega)) (by rfl) (takes_of rfl rfl rfl rfl) (pa_cons (pv 5) pa_nil)))
      (pss_cons (ps_if (PW.pt (pw_or (pt_cmpR (op_neK K (hu65 hr)) (pv 7) pe_str (nomark _)) (pw_or1 (pt_not (pt_val (pe_callO O__law_t_told (hr.mono (by omega)) (by rfl) (takes_of rfl rfl rfl rfl) (pa_cons (pv 8) (pa_cons (pv 2) (pa_cons (pe_callO O__law_start (hr.mono (by omega)) (by rfl) (takes_of rfl rfl rfl rfl) (pa_cons (pv 3) pa_nil)) pa_nil)))))))))
        (pss_one (ps_ret pe_bl))
        pss_nil)
      (pss_cons (ps_expr (pe_methO O_Table_read (pv 8) (hr.mono (by omega)) (takes_of rfl rfl rfl rfl) (pa_cons (pe_op op_mod (pe_ix (ix_seqK K) (pv 1) pe_int (fun _ _ => rfl)) (pe_callB (call_lenK K) (by rfl) B.len boot_b_len (pa_cons (pv 2) pa_nil))) pa_nil)))
      (pss_cons (ps_set (i := 10) sc_law.nd rfl (.inl rfl) (pe_and (pe_callO O__law_t_told (hr.mono (by omega)) (by rfl) (takes_of rfl rfl rfl rfl) (pa_cons (pv 9) (pa_cons (pv 2) (pa_cons (pe_callO O__law_start (hr.mono (by omega)) (by rfl) (takes_of rfl rfl rfl rfl) (pa_cons (pv 3) pa_nil)) pa_nil)))) (pe_one (pe_callO O__law_deal_told (hr.mono (by omega)) (by rfl) (takes_of rfl rfl rfl rfl) (pa_cons (pe_methO0 O_Table_deal (pv 9) (hr.mono (by omega)) (takes_of rfl rfl rfl rfl)) (pa_cons (pv 2) (pa_cons (pv 3) pa_nil)))))))
      (pss_one (ps_ret (pe_and (pv 10) (pe_one (pe_callO O__law_deal_told (hr.mono (by omega)) (by rfl) (takes_of rfl rfl rfl rfl) (pa_cons (pv 5) (pa_cons (pv 2) (pa_cons (pv 3) pa_nil))))))))))))))))))))), ?_⟩
    refine q_b (i := 1) o0 (eb_pE (T := (tW tI)) (Z := fun y => Nums ((360 : Int)).toNat y) (ep_callB (S := (R__law_numbers K)) (Ex.refl _) (ebs_cons (T := (tL K tI)) (Ex.refl _) (ed_of (T := (tL K tI)) (up (Own.uh o0) (up (Own.ug o0) f0)) rfl) (ebs_cons (T := tI) (Ex.refl _) (ed_i ev_c) ebs_nil)) (fun vs G ha => ad__law_numbers ha (vc_law_pre_numbers1 script hn0))) (cv_nums (And.right (vc_law_pre_numbers1 script hn0)))) fun v3 M4 H5 eM6 o7 ⟨numbers_here_r1, f8, hr1⟩ => ?_
    refine q_b (i := 2) o7 (eb_pE (T := (tW (tW tX))) (Z := fun y => (GB (getI (([(3 : Int), (14 : Int), (40 : Int)] : List Int)) ((getI numbers_here_r1 (0 : Int)) % (3 : Int))).toNat y ∧ ∀ l ∈ y, l.length ≤ 1000)) (ep_callB (S := (R__law_book K)) (Ex.refl _) (ebs_cons (T := (tL K tI)) (Ex.refl _) (ed_to (T := (tW tI)) (S := (tL K tI)) (ed_slF (B := M4) (ed_to (T := (tW tI)) (S := (tL K tI)) (ed_of (T := (tW tI)) f8 rfl)) (eo_some ev_c) eo_none (Own.e0 o7))) (ebs_cons (T := tI) (Ex.refl _) (ed_i (ev_i (ed_ixG (ed_to (T := (tW tI)) (S := (tL K tI)) (ed_lst (T := tI) (l := ([(3 : Int), (14 : Int), (40 : Int)] : List Int)) (Own.e0 o7) (ebs_cons (T := tI) (Own.e0 o7) (ed_i ev_c) (ebs_cons (T := tI) (Own.e0 o7) (ed_i ev_c) (ebs_cons (T := tI) (Own.e0 o7) (ed_i ev_c) ebs_nil))) (Nat.le_of_ble_eq_true rfl))) (ev_op (ev_i (ed_ixG (ed_to (T := (tW tI)) (S := (tL K tI)) (ed_of (T := (tW tI)) f8 rfl)) ev_c (vc_law_ix1 script numbers_here_r1 hn0 hr1) (Own.e0 o7))) ev_c (rv_I (by decide))) (vc_law_ix2 script numbers_here_r1 hn0 hr1) (Own.e0 o7)))) ebs_nil)) (fun vs G ha => ad__law_book ha (vc_law_pre_book1 script numbers_here_r1 hn0 hr1))) (cv_good)) fun v9 M10 H11 eM12 o13 ⟨verses_r2, f14, hr2⟩ => ?_
    refine q_b (i := 2) o13 (ed_cat (ed_of (T := (tW (tW tX))) f14 rfl) (ed_of_n (Own.e0 o13) (en_rep (T := (tW tX)) (ed_lst (T := (tW tX)) (l := ([([("o" : Str)] : List Str)] : List (List Str))) (Own.e0 o13) (ebs_cons (T := (tW tX)) (Own.e0 o13) (ed_lst (T := tX) (l := ([("o" : Str)] : List Str)) (Own.e0 o13) (ebs_cons (T := tX) (Own.e0 o13) (ed_x ev_c ⟨by decide +kernel, by decide +kernel⟩) ebs_nil) (Nat.le_of_ble_eq_true rfl)) ebs_nil) (Nat.le_of_ble_eq_true rfl)) (ev_intB (ev_andV (ev_op (ev_lenB (T := (tW tX)) (ed_to (T := (tW (tW tX))) (S := (tL K (tW tX))) (ed_of (T := (tW (tW tX))) f14 rfl)) (Own.e0 o13)) ev_c rv_eqI) fun hc15 => (ev_op (ev_x (ed_ixG (ed_to (T := (tW tX)) (S := (tL K tX)) (ed_ixG (ed_to (T := (tW (tW tX))) (S := (tL K (tW tX))) (ed_of (T := (tW (tW tX))) f14 rfl)) ev_c (vc_law_ix3 script numbers_here_r1 verses_r2 hn0 hr1 hr2 hc15) (Own.e0 o13))) ev_c (vc_law_ix4 script numbers_here_r1 verses_r2 hn0 hr1 hr2 hc15) (Own.e0 o13))) ev_c rv_neT))) (Own.e0 o13) (vc_law_rep1 script numbers_here_r1 verses_r2 hn0 hr1 hr2))) (Own.e0 o13) (vc_law_cat1 script numbers_here_r1 verses_r2 hn0 hr1 hr2)) fun v16 M17 H18 eM19 o20 f21 => ?_
    obtain ⟨verses_a1, ha1, f21⟩ : ∃ z : (List (List Str)), z = (verses_r2 ++ (repI (([([("o" : Str)] : List Str)] : List (List Str))) ((if (((decide ((((verses_r2).length : Int)) = (1 : Int))) && (!decide ((getI (getI verses_r2 (0 : Int)) (0 : Int)) = (("o" : Str)))))) = true then (1 : Int) else 0)))) ∧ (tW (tW tX)).R M17 v16 z := ⟨_, rfl, f21⟩
    refine q_oF (T := (tW (tW tI))) (i := 3) o20 (ep_callB (S := (R__law_fields K)) (Ex.refl _) (ebs_cons (T := tI) (Ex.refl _) (ed_i (ev_lenB (T := (tW tX)) (ed_to (T := (tW (tW tX))) (S := (tL K (tW tX))) (ed_of (T := (tW (tW tX))) f21 rfl)) (Own.e0 o20))) (ebs_cons (T := (tL K tI)) (Ex.refl _) (ed_to (T := (tW tI)) (S := (tL K tI)) (ed_slF (B := M17) (ed_to (T := (tW tI)) (S := (tL K tI)) (ed_of (T := (tW tI)) (up (Ex.trans eM12 eM19) f8) rfl)) (eo_some ev_c) eo_none (Own.e0 o20))) ebs_nil)) (fun vs G ha => ad__law_fields ha (vc_law_pre_fields1 script numbers_here_r1 verses_r2 verses_a1 hn0 hr1 hr2 ha1))) cv_fldsO fun p22 xs23 rows_r3 M24 H25 eM26 o27 f28 hb29 hr3 => ?_
    refine q_wh o27 (et_test (ev_op (ev_op (ev_i (ed_ixG (ed_to (T := (tW tI)) (S := (tL K tI)) (ed_of (T := (tW tI)) (up (Ex.trans eM12 (Ex.trans eM19 eM26)) f8) rfl)) ev_c (vc_law_ix5 script numbers_here_r1 verses_r2 verses_a1 rows_r3 hn0 hr1 hr2 ha1 hr3 hb29) (Own.e0 o27))) ev_c (rv_I (by decide))) ev_c rv_eqI)) (fun c1 H30 o31 => ?_) (fun c1 H30 o31 => ?_)
    · skip
      refine q_v (i := 4) o31 (ev_op (ev_i (ed_ixG (ed_to (T := (tW tI)) (S := (tL K tI)) (ed_of (T := (tW tI)) (up (Ex.trans eM12 (Ex.trans eM19 eM26)) f8) rfl)) ev_c (vc_law_ix6 script numbers_here_r1 verses_r2 verses_a1 rows_r3 hn0 hr1 hr2 ha1 hr3 hb29 c1) (Own.e0 o31))) ev_c (rv_I (by decide))) fun H32 o33 => ?_
      refine s_si (T := (tW (tW tI))) o33 (j := 0) rfl f28 (ed_lcA (S := (tW tI)) (Z := fun B y σ σ2 => ∃ z34, σ2 = (σ.set 11 (some z34)) ∧ (tW tI).R B z34 y) (dr_list (T := (tW tI)) (ed_to (T := (tW (tW tI))) (S := (tL K (tW tI))) (ed_ixO (T := (tW (tW tI))) rfl (Own.exO o33 (j := 0) rfl _ _ sing_at) f28 (ev_var rfl) (vc_law_ix7 script numbers_here_r1 verses_r2 verses_a1 rows_r3 hn0 hr1 hr2 ha1 hr3 hb29 c1))) (Own.e0 o33) (fun G x y H' e hx σ' Q q => by exact q _ ⟨x, rfl, hx⟩)) (Own.e0 o33) (fun e1 : (List Int) => ([] : List Int)) (fun _ _ _ ⟨z34, h0, fz34⟩ => by subst h0; rfl) (fun G35 e1 σ2 H35 eb35 eg35 eh35 hm1 hz35 => by obtain ⟨z34, rfl, fz34⟩ := hz35; exact (ed_lst (T := tI) (l := ([] : List Int)) eg35 ebs_nil (Nat.le_of_ble_eq_true rfl))) (fun _ _ _ _ e ⟨z34, h0, fz34⟩ => ⟨z34, h0, up e fz34⟩)) (ev_var rfl) (ev_var rfl) (vc_law_set1 script numbers_here_r1 verses_r2 verses_a1 rows_r3 hn0 hr1 hr2 ha1 hr3 hb29 c1) fun xs42 M37 H38 eM39 o40 f41 => ?_
      have hb43 : ((rows_r3).set ((getI numbers_here_r1 (2 : Int)) % (2 : Int)).toNat ((getI rows_r3 ((getI numbers_here_r1 (2 : Int)) % (2 : Int))).map fun e1 => ([] : List Int))).length ≤ 40000 := by rw [List.length_set]; exact hb29
      obtain ⟨M44, eM45, o46, f47⟩ := own_freeze o40 (j := 0) rfl f41 hb43
      refine q_b (i := 5) o46 (ed_callU (S := (R__law_made K C_Book C_Deal)) (Own.e0 o46) (ebs_cons (T := (tBook K C_Book)) (Own.e0 o46) (ed_p (T := (tBook K C_Book)) (ep_makeB (S := (R_Book K C_Book)) (Ex.refl _) (ebs_cons (T := (tL K (tL K tX))) (Ex.refl _) (ed_to (T := (tW (tW tX))) (S := (tL K (tL K tX))) (ed_p (T := (tW (tW tX))) (ep_callB (S := (R__law_copy2 K)) (Ex.refl _) (ebs_cons (T := (tL K (tL K tX))) (Ex.refl _) (ed_to (T := (tW (tW tX))) (S := (tL K (tL K tX))) (ed_of (T := (tW (tW tX))) (up (Own.e0 o46) (up (Ex.trans eM26 (Ex.trans eM39 eM45)) f21)) rfl)) ebs_nil) (fun vs G ha => ad__law_copyT ha (vc_law_pre_copy1 script numbers_here_r1 verses_r2 verses_a1 rows_r3 hn0 hr1 hr2 ha1 hr3 hb29 c1 hb43))) (Ex.refl _) (cv_rows))) ebs_nil) (fun vs G ha => ad_Book ha (vc_law_pre_Book1 script numbers_here_r1 verses_r2 verses_a1 rows_r3 hn0 hr1 hr2 ha1 hr3 hb29 c1 hb43))) (Own.e0 o46) (fun _ _ h => h)) (ebs_cons (T := (tL K (tL K (tL K tI)))) (Own.e0 o46) (ed_to (T := (tW (tW (tW tI)))) (S := (tL K (tL K (tL K tI)))) (ed_of (T := (tW (tW (tW tI)))) f47 rfl)) ebs_nil)) (fun vs G ha => ad__law_made ha (vc_law_pre_made1 script numbers_here_r1 verses_r2 verses_a1 rows_r3 hn0 hr1 hr2 ha1 hr3 hb29 c1 hb43))) fun v48 M49 H50 eM51 o52 f53 => ?_
      obtain ⟨deal_a2, ha2, f53⟩ : ∃ z : DealM, z = ((⟨verses_a1, getI ((rows_r3).set ((getI numbers_here_r1 (2 : Int)) % (2 : Int)).toNat ((getI rows_r3 ((getI numbers_here_r1 (2 : Int)) % (2 : Int))).map fun e1 => ([] : List Int))) 0, getI ((rows_r3).set ((getI numbers_here_r1 (2 : Int)) % (2 : Int)).toNat ((getI rows_r3 ((getI numbers_here_r1 (2 : Int)) % (2 : Int))).map fun e1 => ([] : List Int))) 1⟩ : DealM)) ∧ (tDeal K C_Book C_Deal).R M49 v48 z := ⟨_, rfl, f53⟩
      obtain ⟨empty_a3, ha3⟩ : ∃ z : Bool, z = (((decide (((getI ((rows_r3).set ((getI numbers_here_r1 (2 : Int)) % (2 : Int)).toNat ((getI rows_r3 ((getI numbers_here_r1 (2 : Int)) % (2 : Int))).map fun e1 => ([] : List Int))) ((0 : Int))).flatten) = (([] : List Int)))) || (decide (((getI ((rows_r3).set ((getI numbers_here_r1 (2 : Int)) % (2 : Int)).toNat ((getI rows_r3 ((getI numbers_here_r1 (2 : Int)) % (2 : Int))).map fun e1 => ([] : List Int))) ((1 : Int))).flatten) = (([] : List Int)))))) := ⟨_, rfl⟩
      refine q_v (i := 6) o52 (ev_is (ev_orV (ev_eqB (T := (tW tI)) (ed_p (T := (tW tI)) (ep_callB (S := (R__law_cards K)) (Ex.refl _) (ebs_cons (T := (tW (tW (tW tI)))) (Ex.refl _) (ed_of (T := (tW (tW (tW tI)))) (up (Own.e0 o52) (up eM51 f47)) rfl) (ebs_cons (T := tI) (Ex.refl _) (ed_i ev_c) ebs_nil)) (fun vs G ha => ⟨((rows_r3).set ((getI numbers_here_r1 (2 : Int)) % (2 : Int)).toNat ((getI rows_r3 ((getI numbers_here_r1 (2 : Int)) % (2 : Int))).map fun e1 => ([] : List Int))), ((0 : Int)), ha, (vc_law_pre_cards1 script numbers_here_r1 verses_r2 verses_a1 rows_r3 deal_a2 hn0 hr1 hr2 ha1 hr3 hb29 c1 hb43 ha2), (vc_law_pre_cards2 script numbers_here_r1 verses_r2 verses_a1 rows_r3 deal_a2 hn0 hr1 hr2 ha1 hr3 hb29 c1 hb43 ha2), rfl⟩)) (Own.e0 o52) (fun _ _ h => h)) (ed_lst (T := tI) (l := ([] : List Int)) (Own.e0 o52) ebs_nil (Nat.le_of_ble_eq_true rfl)) (Own.e0 o52)) fun hc54 => (ev_eqB (T := (tW tI)) (ed_p (T := (tW tI)) (ep_callB (S := (R__law_cards K)) (Ex.refl _) (ebs_cons (T := (tW (tW (tW tI)))) (Ex.refl _) (ed_of (T := (tW (tW (tW tI)))) (up (Own.e0 o52) (up eM51 f47)) rfl) (ebs_cons (T := tI) (Ex.refl _) (ed_i ev_c) ebs_nil)) (fun vs G ha => ⟨((rows_r3).set ((getI numbers_here_r1 (2 : Int)) % (2 : Int)).toNat ((getI rows_r3 ((getI numbers_here_r1 (2 : Int)) % (2 : Int))).map fun e1 => ([] : List Int))), ((1 : Int)), ha, (vc_law_pre_cards3 script numbers_here_r1 verses_r2 verses_a1 rows_r3 deal_a2 hn0 hr1 hr2 ha1 hr3 hb29 c1 hb43 ha2 hc54), (vc_law_pre_cards4 script numbers_here_r1 verses_r2 verses_a1 rows_r3 deal_a2 hn0 hr1 hr2 ha1 hr3 hb29 c1 hb43 ha2 hc54), rfl⟩)) (Own.e0 o52) (fun _ _ h => h)) (ed_lst (T := tI) (l := ([] : List Int)) (Own.e0 o52) ebs_nil (Nat.le_of_ble_eq_true rfl)) (Own.e0 o52))) (congrArg V.bl ha3.symm)) fun H55 o56 => ?_
      refine q_cas (ec_call (S := (R__law_opened K C_Book C_Deal C_Table)) (W := (fun G Ns w => ∃ q a b, w = .ref q ∧ SqT K G q [a, b] ∧ ((tabErr deal_a2 = none ∧ a = .str ("" : Str) ∧ ∃ N', Ns = N' :: [] ∧ (stTab K C_Book C_Deal C_Table).R G N' b (tab0 deal_a2)) ∨ (tabErr deal_a2 ≠ none ∧ a = .str ("BadDeal" : Str) ∧ b = .non ∧ Ns = [])))) (Ps := []) (Rs := []) o56 (ebs_cons (T := (tDeal K C_Book C_Deal)) (Own.uh o56) (ed_of (T := (tDeal K C_Book C_Deal)) (up uni_r f53) rfl) ebs_nil) (fun vs B eB ha => ⟨_, ⟨deal_a2, ha, rfl, rfl⟩, fun _ _ _ ⟨q, a, b, h1, h2, h3⟩ => ⟨q, a, b, h1, h2, h3.imp (fun ⟨z1, z2, N', z3, z4⟩ => ⟨z1, z2, N', by rw [z3]; rfl, z4⟩) (fun ⟨z1, z2, z3, z4⟩ => ⟨z1, z2, z3, by rw [z4]; rfl⟩)⟩⟩)) fun w M57 Ns H58 eM59 o60 ⟨q, wa, wb, hw, hq, hor⟩ => ?_
      refine ⟨q, [wa, wb], hw, ex_t (Own.uh o60) hq, rfl, wa, [wb], rfl, wb, [], rfl, rfl, ?_⟩
      rcases hor with ⟨hT, rfl, N61, hNs, fS62⟩ | ⟨hT, rfl, rfl, hNs⟩
      · subst hNs
        have o63 : Own (M57 :: H :: (N61) :: []) H58 := o60
        refine q_wh o63 (et_B (ev_var rfl)) (fun c2 H64 o65 => ?_) (fun c2 H64 o65 => ?_)
        · skip
          exact s_rv' o65 (ev_op (ev_var rfl) ev_c rv_eqT) k (by first | (rw [(vc_law_ret1 script numbers_here_r1 verses_r2 verses_a1 rows_r3 deal_a2 empty_a3 hn0 hr1 hr2 ha1 hr3 hb29 c1 hb43 ha2 ha3 hT c2)]; exact rfl) | (rw [← (vc_law_ret1 script numbers_here_r1 verses_r2 verses_a1 rows_r3 deal_a2 empty_a3 hn0 hr1 hr2 ha1 hr3 hb29 c1 hb43 ha2 ha3 hT c2)]; exact rfl))
        · skip
          refine q_c (i := 9) (ec_make (S := (R_Table K C_Book C_Deal C_Table)) (W := (fun G Ns w => ∃ N', Ns = N' :: [N61] ∧ (stTab K C_Book C_Deal C_Table).R G N' w (tab0 (deal_a2)))) o65 (ebs_cons (T := (tDeal K C_Book C_Deal)) (Own.uh o65) (ed_of (T := (tDeal K C_Book C_Deal)) (up uni_r (up eM59 f53)) rfl) ebs_nil) (fun vs B eB ha => ⟨_, ⟨(deal_a2), ha, rfl, (resX_none (vc_law_safe1 script numbers_here_r1 verses_r2 verses_a1 rows_r3 deal_a2 empty_a3 hn0 hr1 hr2 ha1 hr3 hb29 c1 hb43 ha2 ha3 hT c2)).symm⟩, fun _ _ _ ⟨N', h1, h2⟩ => ⟨N', by rw [h1]; rfl, h2⟩⟩)) fun v66 M67 Ns68 H69 eM70 o71 ⟨N72, hNs, fS73⟩ => ?_
          subst hNs
          obtain ⟨other_a4, ha4, fS73⟩ : ∃ z : TabM, z = (tab0 (deal_a2)) ∧ (stTab K C_Book C_Deal C_Table).R _ N72 v66 z := ⟨_, rfl, fS73⟩
          have o75 : Own (M67 :: H :: (N72) :: (N61) :: []) H69 := o71
          refine q_wh o75 (et_or (et_test (ev_op (ev_var rfl) ev_c rv_neT)) fun hc76 => (et_not (et_B (ev_bl (ed_callP (S := (R__law_t_told K C_Book C_Deal C_Table)) (T := tB) (Own.front o75 (j := 1) rfl) (ebs_cons (T := tIs wb) (Own.uh o75) (ed_isv (ev_var rfl)) (ebs_cons (T := (tL K (tL K tX))) (Own.uh o75) (ed_to (T := (tW (tW tX))) (S := (tL K (tL K tX))) (ed_of (T := (tW (tW tX))) (up uni_r (up (Ex.trans eM26 (Ex.trans eM39 (Ex.trans eM45 (Ex.trans eM51 (Ex.trans eM59 eM70))))) f21)) rfl)) (ebs_cons (T := (tRec K)) (Own.uh o75) (ed_callS (S := (R__law_start K)) (Own.uh o75) (ebs_cons (T := (tW (tW (tW tI)))) (Own.uh o75) (ed_of (T := (tW (tW (tW tI)))) (up uni_r (up (Ex.trans eM51 (Ex.trans eM59 eM70)) f47)) rfl) ebs_nil) (fun vs G ha => ⟨((rows_r3).set ((getI numbers_here_r1 (2 : Int)) % (2 : Int)).toNat ((getI rows_r3 ((getI numbers_here_r1 (2 : Int)) % (2 : Int))).map fun e1 => ([] : List Int))), ha, rfl⟩)) ebs_nil))) (fun vs B eB ha => ⟨_, ⟨((tab0 deal_a2)), _, _, (verses_a1), ((⟨((rows_r3).set ((getI numbers_here_r1 (2 : Int)) % (2 : Int)).toNat ((getI rows_r3 ((getI numbers_here_r1 (2 : Int)) % (2 : Int))).map fun e1 => ([] : List Int))), [], none, [], (0, 0), (0, 0), none⟩ : TRec)), ha, rfl, (St.up _ eB (St.up _ (Own.uu o75 eM70) fS62)), (vc_law_pre_t_told1 script numbers_here_r1 verses_r2 verses_a1 rows_r3 deal_a2 empty_a3 other_a4 hn0 hr1 hr2 ha1 hr3 hb29 c1 hb43 ha2 ha3 hT c2 ha4 hc76), (vc_law_pre_t_told2 script numbers_here_r1 verses_r2 verses_a1 rows_r3 deal_a2 empty_a3 other_a4 hn0 hr1 hr2 ha1 hr3 hb29 c1 hb43 ha2 ha3 hT c2 ha4 hc76), (resX_none rfl).symm⟩, fun _ _ _ h => h⟩)))))) (fun c3 H77 o78 => ?_) (fun c3 H77 o78 => ?_)
          · skip
            exact ((vc_law_never1 script numbers_here_r1 verses_r2 verses_a1 rows_r3 deal_a2 empty_a3 other_a4 hn0 hr1 hr2 ha1 hr3 hb29 c1 hb43 ha2 ha3 hT c2 ha4 c3) : False).elim
          · skip
            refine q_cd (ec_meth (S := (R_Table_read K C_Book C_Deal C_Table)) (W := (fun G Ns w => ∃ N', Ns = N' :: [N72] ∧ (stTab K C_Book C_Deal C_Table).R G N' wb (readM ((tab0 deal_a2)) ((getI numbers_here_r1 (3 : Int)) % (((verses_a1).length : Int)))) ∧ tN.R G w (()))) (Own.front o78 (j := 1) rfl) (ev_var rfl) (tab_ins (fun _ _ _ _ _ _ _ _ => rfl) ((St.up _ (Own.uu o78 eM70) fS62)) (Own.exO o78 (j := 1) rfl)) (ebs_cons (T := tI) (Own.uh o78) (ed_i (ev_op (ev_i (ed_ixG (ed_to (T := (tW tI)) (S := (tL K tI)) (ed_of (T := (tW tI)) (up (Ex.trans eM12 (Ex.trans eM19 (Ex.trans eM26 (Ex.trans eM39 (Ex.trans eM45 (Ex.trans eM51 (Ex.trans eM59 eM70))))))) f8) rfl)) ev_c (vc_law_ix8 script numbers_here_r1 verses_r2 verses_a1 rows_r3 deal_a2 empty_a3 other_a4 hn0 hr1 hr2 ha1 hr3 hb29 c1 hb43 ha2 ha3 hT c2 ha4 c3) (Own.e0 o78))) (ev_lenB (T := (tW tX)) (ed_to (T := (tW (tW tX))) (S := (tL K (tW tX))) (ed_of (T := (tW (tW tX))) (up (Ex.trans eM26 (Ex.trans eM39 (Ex.trans eM45 (Ex.trans eM51 (Ex.trans eM59 eM70))))) f21) rfl)) (Own.e0 o78)) (rv_I (vc_law_mod1 script numbers_here_r1 verses_r2 verses_a1 rows_r3 deal_a2 empty_a3 other_a4 hn0 hr1 hr2 ha1 hr3 hb29 c1 hb43 ha2 ha3 hT c2 ha4 c3)))) ebs_nil) (fun vs B eB ha => ⟨_, ⟨((tab0 deal_a2)), _, _, ((getI numbers_here_r1 (3 : Int)) % (((verses_a1).length : Int))), ⟨rfl, ha⟩, rfl, (St.up _ eB (St.up _ (Own.uu o78 eM70) fS62)), (resX_none (vc_law_safe2 script numbers_here_r1 verses_r2 verses_a1 rows_r3 deal_a2 empty_a3 other_a4 hn0 hr1 hr2 ha1 hr3 hb29 c1 hb43 ha2 ha3 hT c2 ha4 c3)).symm⟩, fun _ _ _ ⟨N', h1, h2⟩ => ⟨N', by rw [h1]; rfl, h2⟩⟩)) fun v79 M80 Ns81 H82 eM83 o84 ⟨N85, hNs, fS86, fv87⟩ => ?_
            subst hNs
            obtain ⟨table_a5, ha5, fS86⟩ : ∃ z : TabM, z = (readM ((tab0 deal_a2)) ((getI numbers_here_r1 (3 : Int)) % (((verses_a1).length : Int)))) ∧ (stTab K C_Book C_Deal C_Table).R _ N85 wb z := ⟨_, rfl, fS86⟩
            have o88 : Own (M80 :: H :: (N85) :: (N72) :: []) H82 := o84
            refine q_v (i := 10) o88 (ev_andV (ev_bl (ed_callP (S := (R__law_t_told K C_Book C_Deal C_Table)) (T := tB) (Own.front o88 (j := 1) rfl) (ebs_cons (T := tIs v66) (Own.uh o88) (ed_isv (ev_var rfl)) (ebs_cons (T := (tL K (tL K tX))) (Own.uh o88) (ed_to (T := (tW (tW tX))) (S := (tL K (tL K tX))) (ed_of (T := (tW (tW tX))) (up uni_r (up (Ex.trans eM26 (Ex.trans eM39 (Ex.trans eM45 (Ex.trans eM51 (Ex.trans eM59 (Ex.trans eM70 eM83)))))) f21)) rfl)) (ebs_cons (T := (tRec K)) (Own.uh o88) (ed_callS (S := (R__law_start K)) (Own.uh o88) (ebs_cons (T := (tW (tW (tW tI)))) (Own.uh o88) (ed_of (T := (tW (tW (tW tI)))) (up uni_r (up (Ex.trans eM51 (Ex.trans eM59 (Ex.trans eM70 eM83))) f47)) rfl) ebs_nil) (fun vs G ha => ⟨((rows_r3).set ((getI numbers_here_r1 (2 : Int)) % (2 : Int)).toNat ((getI rows_r3 ((getI numbers_here_r1 (2 : Int)) % (2 : Int))).map fun e1 => ([] : List Int))), ha, rfl⟩)) ebs_nil))) (fun vs B eB ha => ⟨_, ⟨(other_a4), _, _, (verses_a1), ((⟨((rows_r3).set ((getI numbers_here_r1 (2 : Int)) % (2 : Int)).toNat ((getI rows_r3 ((getI numbers_here_r1 (2 : Int)) % (2 : Int))).map fun e1 => ([] : List Int))), [], none, [], (0, 0), (0, 0), none⟩ : TRec)), ha, rfl, (St.up _ eB (St.up _ (Own.uu o88 eM83) fS73)), (vc_law_pre_t_told3 script numbers_here_r1 verses_r2 verses_a1 rows_r3 deal_a2 empty_a3 other_a4 table_a5 hn0 hr1 hr2 ha1 hr3 hb29 c1 hb43 ha2 ha3 hT c2 ha4 c3 ha5), (vc_law_pre_t_told4 script numbers_here_r1 verses_r2 verses_a1 rows_r3 deal_a2 empty_a3 other_a4 table_a5 hn0 hr1 hr2 ha1 hr3 hb29 c1 hb43 ha2 ha3 hT c2 ha4 c3 ha5), (resX_none rfl).symm⟩, fun _ _ _ h => h⟩))) fun hc89 => (ev_p (v := (.bl (true))) (ep_imp (ep_callB (S := (R__law_deal_told K C_Book C_Deal)) (Ex.refl _) (ebs_cons (T := (tDeal K C_Book C_Deal)) (Ex.refl _) (ed_toB (Own.uh o88) (ed_methP (S := (R_Table_deal K C_Book C_Deal C_Table)) (T := (tDeal K C_Book C_Deal)) (Own.front o88 (j := 1) rfl) (ev_var rfl) (tab_ins (fun _ _ _ _ _ _ _ _ => rfl) ((St.up _ (Own.uu o88 eM83) fS73)) (Own.exO o88 (j := 1) rfl)) ebs_nil (fun vs B eB ha => ⟨_, ⟨(other_a4), _, _, ⟨rfl, ha⟩, rfl, (St.up _ eB (St.up _ (Own.uu o88 eM83) fS73)), (resX_none rfl).symm⟩, fun _ _ _ h => h⟩))) (ebs_cons (T := (tL K (tL K tX))) (Ex.refl _) (ed_to (T := (tW (tW tX))) (S := (tL K (tL K tX))) (ed_of (T := (tW (tW tX))) (up (Own.e0 o88) (up (Ex.trans eM26 (Ex.trans eM39 (Ex.trans eM45 (Ex.trans eM51 (Ex.trans eM59 (Ex.trans eM70 eM83)))))) f21)) rfl)) (ebs_cons (T := (tW (tW (tW tI)))) (Ex.refl _) (ed_of (T := (tW (tW (tW tI)))) (up (Own.e0 o88) (up (Ex.trans eM51 (Ex.trans eM59 (Ex.trans eM70 eM83))) f47)) rfl) ebs_nil))) (fun vs G ha => ad__law_deal_told ha (vc_law_pre_deal_told1 script numbers_here_r1 verses_r2 verses_a1 rows_r3 deal_a2 empty_a3 other_a4 table_a5 hn0 hr1 hr2 ha1 hr3 hb29 c1 hb43 ha2 ha3 hT c2 ha4 c3 ha5 hc89))) (fun _ _ h => h)))) fun H90 o91 => ?_
            exact s_rv' o91 (ev_andV (ev_var rfl) fun hc92 => (ev_p (v := (.bl (true))) (ep_imp (ep_callB (S := (R__law_deal_told K C_Book C_Deal)) (Ex.refl _) (ebs_cons (T := (tDeal K C_Book C_Deal)) (Ex.refl _) (ed_of (T := (tDeal K C_Book C_Deal)) (up (Own.e0 o91) (up (Ex.trans eM59 (Ex.trans eM70 eM83)) f53)) rfl) (ebs_cons (T := (tL K (tL K tX))) (Ex.refl _) (ed_to (T := (tW (tW tX))) (S := (tL K (tL K tX))) (ed_of (T := (tW (tW tX))) (up (Own.e0 o91) (up (Ex.trans eM26 (Ex.trans eM39 (Ex.trans eM45 (Ex.trans eM51 (Ex.trans eM59 (Ex.trans eM70 eM83)))))) f21)) rfl)) (ebs_cons (T := (tW (tW (tW tI)))) (Ex.refl _) (ed_of (T := (tW (tW (tW tI)))) (up (Own.e0 o91) (up (Ex.trans eM51 (Ex.trans eM59 (Ex.trans eM70 eM83))) f47)) rfl) ebs_nil))) (fun vs G ha => ad__law_deal_told ha (vc_law_pre_deal_told2 script numbers_here_r1 verses_r2 verses_a1 rows_r3 deal_a2 empty_a3 other_a4 table_a5 hn0 hr1 hr2 ha1 hr3 hb29 c1 hb43 ha2 ha3 hT c2 ha4 c3 ha5 hc92))) (fun _ _ h => h)))) k (by first | (rw [(vc_law_ret2 script numbers_here_r1 verses_r2 verses_a1 rows_r3 deal_a2 empty_a3 other_a4 table_a5 hn0 hr1 hr2 ha1 hr3 hb29 c1 hb43 ha2 ha3 hT c2 ha4 c3 ha5)]; exact rfl) | (rw [← (vc_law_ret2 script numbers_here_r1 verses_r2 verses_a1 rows_r3 deal_a2 empty_a3 other_a4 table_a5 hn0 hr1 hr2 ha1 hr3 hb29 c1 hb43 ha2 ha3 hT c2 ha4 c3 ha5)]; exact rfl))
      · subst hNs
        refine q_wh o60 (et_B (ev_var rfl)) (fun c2 H93 o94 => ?_) (fun c2 H93 o94 => ?_)
        · skip
          exact s_rv' o94 (ev_op (ev_var rfl) ev_c rv_eqT) k (by first | (rw [(vc_law_ret3 script numbers_here_r1 verses_r2 verses_a1 rows_r3 deal_a2 empty_a3 hn0 hr1 hr2 ha1 hr3 hb29 c1 hb43 ha2 ha3 hT c2)]; exact rfl) | (rw [← (vc_law_ret3 script numbers_here_r1 verses_r2 verses_a1 rows_r3 deal_a2 empty_a3 hn0 hr1 hr2 ha1 hr3 hb29 c1 hb43 ha2 ha3 hT c2)]; exact rfl))
        · skip
          exact ((vc_law_never2 script numbers_here_r1 verses_r2 verses_a1 rows_r3 deal_a2 empty_a3 hn0 hr1 hr2 ha1 hr3 hb29 c1 hb43 ha2 ha3 hT c2) : False).elim
    · skip
      obtain ⟨M95, eM96, o97, f98⟩ := own_freeze o31 (j := 0) rfl f28 hb29
      refine q_b (i := 5) o97 (ed_callU (S := (R__law_made K C_Book C_Deal)) (Own.e0 o97) (ebs_cons (T := (tBook K C_Book)) (Own.e0 o97) (ed_p (T := (tBook K C_Book)) (ep_makeB (S := (R_Book K C_Book)) (Ex.refl _) (ebs_cons (T := (tL K (tL K tX))) (Ex.refl _) (ed_to (T := (tW (tW tX))) (S := (tL K (tL K tX))) (ed_p (T := (tW (tW tX))) (ep_callB (S := (R__law_copy2 K)) (Ex.refl _) (ebs_cons (T := (tL K (tL K tX))) (Ex.refl _) (ed_to (T := (tW (tW tX))) (S := (tL K (tL K tX))) (ed_of (T := (tW (tW tX))) (up (Own.e0 o97) (up (Ex.trans eM26 eM96) f21)) rfl)) ebs_nil) (fun vs G ha => ad__law_copyT ha (vc_law_pre_copy2 script numbers_here_r1 verses_r2 verses_a1 rows_r3 hn0 hr1 hr2 ha1 hr3 hb29 c1))) (Ex.refl _) (cv_rows))) ebs_nil) (fun vs G ha => ad_Book ha (vc_law_pre_Book2 script numbers_here_r1 verses_r2 verses_a1 rows_r3 hn0 hr1 hr2 ha1 hr3 hb29 c1))) (Own.e0 o97) (fun _ _ h => h)) (ebs_cons (T := (tL K (tL K (tL K tI)))) (Own.e0 o97) (ed_to (T := (tW (tW (tW tI)))) (S := (tL K (tL K (tL K tI)))) (ed_of (T := (tW (tW (tW tI)))) f98 rfl)) ebs_nil)) (fun vs G ha => ad__law_made ha (vc_law_pre_made2 script numbers_here_r1 verses_r2 verses_a1 rows_r3 hn0 hr1 hr2 ha1 hr3 hb29 c1))) fun v99 M100 H101 eM102 o103 f104 => ?_
      obtain ⟨empty_a6, ha6⟩ : ∃ z : Bool, z = (((decide (((getI (rows_r3) ((0 : Int))).flatten) = (([] : List Int)))) || (decide (((getI (rows_r3) ((1 : Int))).flatten) = (([] : List Int)))))) := ⟨_, rfl⟩
      refine q_v (i := 6) o103 (ev_is (ev_orV (ev_eqB (T := (tW tI)) (ed_p (T := (tW tI)) (ep_callB (S := (R__law_cards K)) (Ex.refl _) (ebs_cons (T := (tW (tW (tW tI)))) (Ex.refl _) (ed_of (T := (tW (tW (tW tI)))) (up (Own.e0 o103) (up eM102 f98)) rfl) (ebs_cons (T := tI) (Ex.refl _) (ed_i ev_c) ebs_nil)) (fun vs G ha => ⟨(rows_r3), ((0 : Int)), ha, (vc_law_pre_cards5 script numbers_here_r1 verses_r2 verses_a1 rows_r3 hn0 hr1 hr2 ha1 hr3 hb29 c1), (vc_law_pre_cards6 script numbers_here_r1 verses_r2 verses_a1 rows_r3 hn0 hr1 hr2 ha1 hr3 hb29 c1), rfl⟩)) (Own.e0 o103) (fun _ _ h => h)) (ed_lst (T := tI) (l := ([] : List Int)) (Own.e0 o103) ebs_nil (Nat.le_of_ble_eq_true rfl)) (Own.e0 o103)) fun hc105 => (ev_eqB (T := (tW tI)) (ed_p (T := (tW tI)) (ep_callB (S := (R__law_cards K)) (Ex.refl _) (ebs_cons (T := (tW (tW (tW tI)))) (Ex.refl _) (ed_of (T := (tW (tW (tW tI)))) (up (Own.e0 o103) (up eM102 f98)) rfl) (ebs_cons (T := tI) (Ex.refl _) (ed_i ev_c) ebs_nil)) (fun vs G ha => ⟨(rows_r3), ((1 : Int)), ha, (vc_law_pre_cards7 script numbers_here_r1 verses_r2 verses_a1 rows_r3 hn0 hr1 hr2 ha1 hr3 hb29 c1 hc105), (vc_law_pre_cards8 script numbers_here_r1 verses_r2 verses_a1 rows_r3 hn0 hr1 hr2 ha1 hr3 hb29 c1 hc105), rfl⟩)) (Own.e0 o103) (fun _ _ h => h)) (ed_lst (T := tI) (l := ([] : List Int)) (Own.e0 o103) ebs_nil (Nat.le_of_ble_eq_true rfl)) (Own.e0 o103))) (congrArg V.bl ha6.symm)) fun H106 o107 => ?_
      refine q_cas (ec_call (S := (R__law_opened K C_Book C_Deal C_Table)) (W := (fun G Ns w => ∃ q a b, w = .ref q ∧ SqT K G q [a, b] ∧ ((tabErr (⟨verses_a1, getI rows_r3 0, getI rows_r3 1⟩ : DealM) = none ∧ a = .str ("" : Str) ∧ ∃ N', Ns = N' :: [] ∧ (stTab K C_Book C_Deal C_Table).R G N' b (tab0 (⟨verses_a1, getI rows_r3 0, getI rows_r3 1⟩ : DealM))) ∨ (tabErr (⟨verses_a1, getI rows_r3 0, getI rows_r3 1⟩ : DealM) ≠ none ∧ a = .str ("BadDeal" : Str) ∧ b = .non ∧ Ns = [])))) (Ps := []) (Rs := []) o107 (ebs_cons (T := (tDeal K C_Book C_Deal)) (Own.uh o107) (ed_of (T := (tDeal K C_Book C_Deal)) (up uni_r f104) rfl) ebs_nil) (fun vs B eB ha => ⟨_, ⟨(⟨verses_a1, getI rows_r3 0, getI rows_r3 1⟩ : DealM), ha, rfl, rfl⟩, fun _ _ _ ⟨q, a, b, h1, h2, h3⟩ => ⟨q, a, b, h1, h2, h3.imp (fun ⟨z1, z2, N', z3, z4⟩ => ⟨z1, z2, N', by rw [z3]; rfl, z4⟩) (fun ⟨z1, z2, z3, z4⟩ => ⟨z1, z2, z3, by rw [z4]; rfl⟩)⟩⟩)) fun w M108 Ns H109 eM110 o111 ⟨q, wa, wb, hw, hq, hor⟩ => ?_
      refine ⟨q, [wa, wb], hw, ex_t (Own.uh o111) hq, rfl, wa, [wb], rfl, wb, [], rfl, rfl, ?_⟩
      rcases hor with ⟨hT, rfl, N112, hNs, fS113⟩ | ⟨hT, rfl, rfl, hNs⟩
      · subst hNs
        have o114 : Own (M108 :: H :: (N112) :: []) H109 := o111
        refine q_wh o114 (et_B (ev_var rfl)) (fun c2 H115 o116 => ?_) (fun c2 H115 o116 => ?_)
        · skip
          exact s_rv' o116 (ev_op (ev_var rfl) ev_c rv_eqT) k (by first | (rw [(vc_law_ret4 script numbers_here_r1 verses_r2 verses_a1 rows_r3 empty_a6 hn0 hr1 hr2 ha1 hr3 hb29 c1 ha6 hT c2)]; exact rfl) | (rw [← (vc_law_ret4 script numbers_here_r1 verses_r2 verses_a1 rows_r3 empty_a6 hn0 hr1 hr2 ha1 hr3 hb29 c1 ha6 hT c2)]; exact rfl))
        · skip
          refine q_c (i := 9) (ec_make (S := (R_Table K C_Book C_Deal C_Table)) (W := (fun G Ns w => ∃ N', Ns = N' :: [N112] ∧ (stTab K C_Book C_Deal C_Table).R G N' w (tab0 ((⟨verses_a1, getI rows_r3 0, getI rows_r3 1⟩ : DealM))))) o116 (ebs_cons (T := (tDeal K C_Book C_Deal)) (Own.uh o116) (ed_of (T := (tDeal K C_Book C_Deal)) (up uni_r (up eM110 f104)) rfl) ebs_nil) (fun vs B eB ha => ⟨_, ⟨((⟨verses_a1, getI rows_r3 0, getI rows_r3 1⟩ : DealM)), ha, rfl, (resX_none (vc_law_safe3 script numbers_here_r1 verses_r2 verses_a1 rows_r3 empty_a6 hn0 hr1 hr2 ha1 hr3 hb29 c1 ha6 hT c2)).symm⟩, fun _ _ _ ⟨N', h1, h2⟩ => ⟨N', by rw [h1]; rfl, h2⟩⟩)) fun v117 M118 Ns119 H120 eM121 o122 ⟨N123, hNs, fS124⟩ => ?_
          subst hNs
          obtain ⟨other_a7, ha7, fS124⟩ : ∃ z : TabM, z = (tab0 ((⟨verses_a1, getI rows_r3 0, getI rows_r3 1⟩ : DealM))) ∧ (stTab K C_Book C_Deal C_Table).R _ N123 v117 z := ⟨_, rfl, fS124⟩
          have o126 : Own (M118 :: H :: (N123) :: (N112) :: []) H120 := o122
          refine q_wh o126 (et_or (et_test (ev_op (ev_var rfl) ev_c rv_neT)) fun hc127 => (et_not (et_B (ev_bl (ed_callP (S := (R__law_t_told K C_Book C_Deal C_Table)) (T := tB) (Own.front o126 (j := 1) rfl) (ebs_cons (T := tIs wb) (Own.uh o126) (ed_isv (ev_var rfl)) (ebs_cons (T := (tL K (tL K tX))) (Own.uh o126) (ed_to (T := (tW (tW tX))) (S := (tL K (tL K tX))) (ed_of (T := (tW (tW tX))) (up uni_r (up (Ex.trans eM26 (Ex.trans eM96 (Ex.trans eM102 (Ex.trans eM110 eM121)))) f21)) rfl)) (ebs_cons (T := (tRec K)) (Own.uh o126) (ed_callS (S := (R__law_start K)) (Own.uh o126) (ebs_cons (T := (tW (tW (tW tI)))) (Own.uh o126) (ed_of (T := (tW (tW (tW tI)))) (up uni_r (up (Ex.trans eM102 (Ex.trans eM110 eM121)) f98)) rfl) ebs_nil) (fun vs G ha => ⟨(rows_r3), ha, rfl⟩)) ebs_nil))) (fun vs B eB ha => ⟨_, ⟨((tab0 (⟨verses_a1, getI rows_r3 0, getI rows_r3 1⟩ : DealM))), _, _, (verses_a1), ((⟨(rows_r3), [], none, [], (0, 0), (0, 0), none⟩ : TRec)), ha, rfl, (St.up _ eB (St.up _ (Own.uu o126 eM121) fS113)), (vc_law_pre_t_told5 script numbers_here_r1 verses_r2 verses_a1 rows_r3 empty_a6 other_a7 hn0 hr1 hr2 ha1 hr3 hb29 c1 ha6 hT c2 ha7 hc127), (vc_law_pre_t_told6 script numbers_here_r1 verses_r2 verses_a1 rows_r3 empty_a6 other_a7 hn0 hr1 hr2 ha1 hr3 hb29 c1 ha6 hT c2 ha7 hc127), (resX_none rfl).symm⟩, fun _ _ _ h => h⟩)))))) (fun c3 H128 o129 => ?_) (fun c3 H128 o129 => ?_)
          · skip
            exact ((vc_law_never3 script numbers_here_r1 verses_r2 verses_a1 rows_r3 empty_a6 other_a7 hn0 hr1 hr2 ha1 hr3 hb29 c1 ha6 hT c2 ha7 c3) : False).elim
          · skip
            refine q_cd (ec_meth (S := (R_Table_read K C_Book C_Deal C_Table)) (W := (fun G Ns w => ∃ N', Ns = N' :: [N123] ∧ (stTab K C_Book C_Deal C_Table).R G N' wb (readM ((tab0 (⟨verses_a1, getI rows_r3 0, getI rows_r3 1⟩ : DealM))) ((getI numbers_here_r1 (3 : Int)) % (((verses_a1).length : Int)))) ∧ tN.R G w (()))) (Own.front o129 (j := 1) rfl) (ev_var rfl) (tab_ins (fun _ _ _ _ _ _ _ _ => rfl) ((St.up _ (Own.uu o129 eM121) fS113)) (Own.exO o129 (j := 1) rfl)) (ebs_cons (T := tI) (Own.uh o129) (ed_i (ev_op (ev_i (ed_ixG (ed_to (T := (tW tI)) (S := (tL K tI)) (ed_of (T := (tW tI)) (up (Ex.trans eM12 (Ex.trans eM19 (Ex.trans eM26 (Ex.trans eM96 (Ex.trans eM102 (Ex.trans eM110 eM121)))))) f8) rfl)) ev_c (vc_law_ix9 script numbers_here_r1 verses_r2 verses_a1 rows_r3 empty_a6 other_a7 hn0 hr1 hr2 ha1 hr3 hb29 c1 ha6 hT c2 ha7 c3) (Own.e0 o129))) (ev_lenB (T := (tW tX)) (ed_to (T := (tW (tW tX))) (S := (tL K (tW tX))) (ed_of (T := (tW (tW tX))) (up (Ex.trans eM26 (Ex.trans eM96 (Ex.trans eM102 (Ex.trans eM110 eM121)))) f21) rfl)) (Own.e0 o129)) (rv_I (vc_law_mod2 script numbers_here_r1 verses_r2 verses_a1 rows_r3 empty_a6 other_a7 hn0 hr1 hr2 ha1 hr3 hb29 c1 ha6 hT c2 ha7 c3)))) ebs_nil) (fun vs B eB ha => ⟨_, ⟨((tab0 (⟨verses_a1, getI rows_r3 0, getI rows_r3 1⟩ : DealM))), _, _, ((getI numbers_here_r1 (3 : Int)) % (((verses_a1).length : Int))), ⟨rfl, ha⟩, rfl, (St.up _ eB (St.up _ (Own.uu o129 eM121) fS113)), (resX_none (vc_law_safe4 script numbers_here_r1 verses_r2 verses_a1 rows_r3 empty_a6 other_a7 hn0 hr1 hr2 ha1 hr3 hb29 c1 ha6 hT c2 ha7 c3)).symm⟩, fun _ _ _ ⟨N', h1, h2⟩ => ⟨N', by rw [h1]; rfl, h2⟩⟩)) fun v130 M131 Ns132 H133 eM134 o135 ⟨N136, hNs, fS137, fv138⟩ => ?_
            subst hNs
            obtain ⟨table_a8, ha8, fS137⟩ : ∃ z : TabM, z = (readM ((tab0 (⟨verses_a1, getI rows_r3 0, getI rows_r3 1⟩ : DealM))) ((getI numbers_here_r1 (3 : Int)) % (((verses_a1).length : Int)))) ∧ (stTab K C_Book C_Deal C_Table).R _ N136 wb z := ⟨_, rfl, fS137⟩
            have o139 : Own (M131 :: H :: (N136) :: (N123) :: []) H133 := o135
            refine q_v (i := 10) o139 (ev_andV (ev_bl (ed_callP (S := (R__law_t_told K C_Book C_Deal C_Table)) (T := tB) (Own.front o139 (j := 1) rfl) (ebs_cons (T := tIs v117) (Own.uh o139) (ed_isv (ev_var rfl)) (ebs_cons (T := (tL K (tL K tX))) (Own.uh o139) (ed_to (T := (tW (tW tX))) (S := (tL K (tL K tX))) (ed_of (T := (tW (tW tX))) (up uni_r (up (Ex.trans eM26 (Ex.trans eM96 (Ex.trans eM102 (Ex.trans eM110 (Ex.trans eM121 eM134))))) f21)) rfl)) (ebs_cons (T := (tRec K)) (Own.uh o139) (ed_callS (S := (R__law_start K)) (Own.uh o139) (ebs_cons (T := (tW (tW (tW tI)))) (Own.uh o139) (ed_of (T := (tW (tW (tW tI)))) (up uni_r (up (Ex.trans eM102 (Ex.trans eM110 (Ex.trans eM121 eM134))) f98)) rfl) ebs_nil) (fun vs G ha => ⟨(rows_r3), ha, rfl⟩)) ebs_nil))) (fun vs B eB ha => ⟨_, ⟨(other_a7), _, _, (verses_a1), ((⟨(rows_r3), [], none, [], (0, 0), (0, 0), none⟩ : TRec)), ha, rfl, (St.up _ eB (St.up _ (Own.uu o139 eM134) fS124)), (vc_law_pre_t_told7 script numbers_here_r1 verses_r2 verses_a1 rows_r3 empty_a6 other_a7 table_a8 hn0 hr1 hr2 ha1 hr3 hb29 c1 ha6 hT c2 ha7 c3 ha8), (vc_law_pre_t_told8 script numbers_here_r1 verses_r2 verses_a1 rows_r3 empty_a6 other_a7 table_a8 hn0 hr1 hr2 ha1 hr3 hb29 c1 ha6 hT c2 ha7 c3 ha8), (resX_none rfl).symm⟩, fun _ _ _ h => h⟩))) fun hc140 => (ev_p (v := (.bl (true))) (ep_imp (ep_callB (S := (R__law_deal_told K C_Book C_Deal)) (Ex.refl _) (ebs_cons (T := (tDeal K C_Book C_Deal)) (Ex.refl _) (ed_toB (Own.uh o139) (ed_methP (S := (R_Table_deal K C_Book C_Deal C_Table)) (T := (tDeal K C_Book C_Deal)) (Own.front o139 (j := 1) rfl) (ev_var rfl) (tab_ins (fun _ _ _ _ _ _ _ _ => rfl) ((St.up _ (Own.uu o139 eM134) fS124)) (Own.exO o139 (j := 1) rfl)) ebs_nil (fun vs B eB ha => ⟨_, ⟨(other_a7), _, _, ⟨rfl, ha⟩, rfl, (St.up _ eB (St.up _ (Own.uu o139 eM134) fS124)), (resX_none rfl).symm⟩, fun _ _ _ h => h⟩))) (ebs_cons (T := (tL K (tL K tX))) (Ex.refl _) (ed_to (T := (tW (tW tX))) (S := (tL K (tL K tX))) (ed_of (T := (tW (tW tX))) (up (Own.e0 o139) (up (Ex.trans eM26 (Ex.trans eM96 (Ex.trans eM102 (Ex.trans eM110 (Ex.trans eM121 eM134))))) f21)) rfl)) (ebs_cons (T := (tW (tW (tW tI)))) (Ex.refl _) (ed_of (T := (tW (tW (tW tI)))) (up (Own.e0 o139) (up (Ex.trans eM102 (Ex.trans eM110 (Ex.trans eM121 eM134))) f98)) rfl) ebs_nil))) (fun vs G ha => ad__law_deal_told ha (vc_law_pre_deal_told3 script numbers_here_r1 verses_r2 verses_a1 rows_r3 empty_a6 other_a7 table_a8 hn0 hr1 hr2 ha1 hr3 hb29 c1 ha6 hT c2 ha7 c3 ha8 hc140))) (fun _ _ h => h)))) fun H141 o142 => ?_
            exact s_rv' o142 (ev_andV (ev_var rfl) fun hc143 => (ev_p (v := (.bl (true))) (ep_imp (ep_callB (S := (R__law_deal_told K C_Book C_Deal)) (Ex.refl _) (ebs_cons (T := (tDeal K C_Book C_Deal)) (Ex.refl _) (ed_of (T := (tDeal K C_Book C_Deal)) (up (Own.e0 o142) (up (Ex.trans eM110 (Ex.trans eM121 eM134)) f104)) rfl) (ebs_cons (T := (tL K (tL K tX))) (Ex.refl _) (ed_to (T := (tW (tW tX))) (S := (tL K (tL K tX))) (ed_of (T := (tW (tW tX))) (up (Own.e0 o142) (up (Ex.trans eM26 (Ex.trans eM96 (Ex.trans eM102 (Ex.trans eM110 (Ex.trans eM121 eM134))))) f21)) rfl)) (ebs_cons (T := (tW (tW (tW tI)))) (Ex.refl _) (ed_of (T := (tW (tW (tW tI)))) (up (Own.e0 o142) (up (Ex.trans eM102 (Ex.trans eM110 (Ex.trans eM121 eM134))) f98)) rfl) ebs_nil))) (fun vs G ha => ad__law_deal_told ha (vc_law_pre_deal_told4 script numbers_here_r1 verses_r2 verses_a1 rows_r3 empty_a6 other_a7 table_a8 hn0 hr1 hr2 ha1 hr3 hb29 c1 ha6 hT c2 ha7 c3 ha8 hc143))) (fun _ _ h => h)))) k (by first | (rw [(vc_law_ret5 script numbers_here_r1 verses_r2 verses_a1 rows_r3 empty_a6 other_a7 table_a8 hn0 hr1 hr2 ha1 hr3 hb29 c1 ha6 hT c2 ha7 c3 ha8)]; exact rfl) | (rw [← (vc_law_ret5 script numbers_here_r1 verses_r2 verses_a1 rows_r3 empty_a6 other_a7 table_a8 hn0 hr1 hr2 ha1 hr3 hb29 c1 ha6 hT c2 ha7 c3 ha8)]; exact rfl))
      · subst hNs
        refine q_wh o111 (et_B (ev_var rfl)) (fun c2 H144 o145 => ?_) (fun c2 H144 o145 => ?_)
        · skip
          exact s_rv' o145 (ev_op (ev_var rfl) ev_c rv_eqT) k (by first | (rw [(vc_law_ret6 script numbers_here_r1 verses_r2 verses_a1 rows_r3 empty_a6 hn0 hr1 hr2 ha1 hr3 hb29 c1 ha6 hT c2)]; exact rfl) | (rw [← (vc_law_ret6 script numbers_here_r1 verses_r2 verses_a1 rows_r3 empty_a6 hn0 hr1 hr2 ha1 hr3 hb29 c1 ha6 hT c2)]; exact rfl))
        · skip
          exact ((vc_law_never4 script numbers_here_r1 verses_r2 verses_a1 rows_r3 empty_a6 hn0 hr1 hr2 ha1 hr3 hb29 c1 ha6 hT c2) : False).elim
end

def dd_BadVersed__initd_ : He.DefD := ⟨("BadVerse", some "__init__"), "__init__", "BadVerse.__init__", defArgs s_BadVersed__initd_, defBody s_BadVersed__initd_, defScope s_BadVersed__initd_, [], []⟩
def dd_Aliked__initd_ : He.DefD := ⟨("Alike", some "__init__"), "__init__", "Alike.__init__", defArgs s_Aliked__initd_, defBody s_Aliked__initd_, defScope s_Aliked__initd_, [], []⟩
def dd__law_numbers : He.DefD := ⟨("_law_numbers", none), "_law_numbers", "_law_numbers", defArgs s__law_numbers, defBody s__law_numbers, defScope s__law_numbers, [], []⟩
def dd__law_same : He.DefD := ⟨("_law_same", none), "_law_same", "_law_same", defArgs s__law_same, defBody s__law_same, defScope s__law_same, [], []⟩
def dd_is_syllable : He.DefD := ⟨("is_syllable", none), "is_syllable", "is_syllable", defArgs s_is_syllable, defBody s_is_syllable, defScope s_is_syllable, [], []⟩
def dd_is_verse : He.DefD := ⟨("is_verse", none), "is_verse", "is_verse", defArgs s_is_verse, defBody s_is_verse, defScope s_is_verse, [], []⟩
def dd_begins : He.DefD := ⟨("begins", none), "begins", "begins", defArgs s_begins, defBody s_begins, defScope s_begins, [], []⟩
def dd_alike : He.DefD := ⟨("alike", none), "alike", "alike", defArgs s_alike, defBody s_alike, defScope s_alike, [], []⟩
def dd_need_verses : He.DefD := ⟨("need_verses", none), "need_verses", "need_verses", defArgs s_need_verses, defBody s_need_verses, defScope s_need_verses, [], []⟩
def dd_Bookd__initd_ : He.DefD := ⟨("Book", some "__init__"), "__init__", "Book.__init__", defArgs s_Bookd__initd_, defBody s_Bookd__initd_, defScope s_Bookd__initd_, [], []⟩
def dd_Book_many : He.DefD := ⟨("Book", some "many"), "many", "Book.many", defArgs s_Book_many, defBody s_Book_many, defScope s_Book_many, [], []⟩
def dd_Book_verse : He.DefD := ⟨("Book", some "verse"), "verse", "Book.verse", defArgs s_Book_verse, defBody s_Book_verse, defScope s_Book_verse, [], []⟩
def dd_Book_verses : He.DefD := ⟨("Book", some "verses"), "verses", "Book.verses", defArgs s_Book_verses, defBody s_Book_verses, defScope s_Book_verses, [], []⟩
def dd__law_sound : He.DefD := ⟨("_law_sound", none), "_law_sound", "_law_sound", defArgs s__law_sound, defBody s__law_sound, defScope s__law_sound, [], []⟩
def dd__law_pool : He.DefD := ⟨("_law_pool", none), "_law_pool", "_law_pool", defArgs s__law_pool, defBody s__law_pool, defScope s__law_pool, [], []⟩
def dd__law_alike : He.DefD := ⟨("_law_alike", none), "_law_alike", "_law_alike", defArgs s__law_alike, defBody s__law_alike, defScope s__law_alike, [], []⟩
def dd__law_verse : He.DefD := ⟨("_law_verse", none), "_law_verse", "_law_verse", defArgs s__law_verse, defBody s__law_verse, defScope s__law_verse, [], []⟩
def dd__law_wide : He.DefD := ⟨("_law_wide", none), "_law_wide", "_law_wide", defArgs s__law_wide, defBody s__law_wide, defScope s__law_wide, [], []⟩
def dd__law_book : He.DefD := ⟨("_law_book", none), "_law_book", "_law_book", defArgs s__law_book, defBody s__law_book, defScope s__law_book, [], []⟩
def dd__law_book_told : He.DefD := ⟨("_law_book_told", none), "_law_book_told", "_law_book_told", defArgs s__law_book_told, defBody s__law_book_told, defScope s__law_book_told, [], []⟩
def dd_need_numbers : He.DefD := ⟨("need_numbers", none), "need_numbers", "need_numbers", defArgs s_need_numbers, defBody s_need_numbers, defScope s_need_numbers, [], []⟩
def dd_copied : He.DefD := ⟨("copied", none), "copied", "copied", defArgs s_copied, defBody s_copied, defScope s_copied, [], []⟩
def dd_need_field : He.DefD := ⟨("need_field", none), "need_field", "need_field", defArgs s_need_field, defBody s_need_field, defScope s_need_field, [], []⟩
def dd_places_of : He.DefD := ⟨("places_of", none), "places_of", "places_of", defArgs s_places_of, defBody s_places_of, defScope s_places_of, [], []⟩
def dd_Deald__initd_ : He.DefD := ⟨("Deal", some "__init__"), "__init__", "Deal.__init__", defArgs s_Deald__initd_, defBody s_Deald__initd_, defScope s_Deald__initd_, [], []⟩
def dd_Deal_book : He.DefD := ⟨("Deal", some "book"), "book", "Deal.book", defArgs s_Deal_book, defBody s_Deal_book, defScope s_Deal_book, [], []⟩
def dd_Deal_rows : He.DefD := ⟨("Deal", some "rows"), "rows", "Deal.rows", defArgs s_Deal_rows, defBody s_Deal_rows, defScope s_Deal_rows, [], []⟩
def dd_Deal_cards : He.DefD := ⟨("Deal", some "cards"), "cards", "Deal.cards", defArgs s_Deal_cards, defBody s_Deal_cards, defScope s_Deal_cards, [], []⟩
def dd_Deal_where : He.DefD := ⟨("Deal", some "where"), "where", "Deal.where", defArgs s_Deal_where, defBody s_Deal_where, defScope s_Deal_where, [], []⟩
def dd__law_fields : He.DefD := ⟨("_law_fields", none), "_law_fields", "_law_fields", defArgs s__law_fields, defBody s__law_fields, defScope s__law_fields, [], []⟩
def dd__law_copy : He.DefD := ⟨("_law_copy", none), "_law_copy", "_law_copy", defArgs s__law_copy, defBody s__law_copy, defScope s__law_copy, [], []⟩
def dd__law_made : He.DefD := ⟨("_law_made", none), "_law_made", "_law_made", defArgs s__law_made, defBody s__law_made, defScope s__law_made, [], []⟩
def dd__law_where : He.DefD := ⟨("_law_where", none), "_law_where", "_law_where", defArgs s__law_where, defBody s__law_where, defScope s__law_where, [], []⟩
def dd__law_deal_told : He.DefD := ⟨("_law_deal_told", none), "_law_deal_told", "_law_deal_told", defArgs s__law_deal_told, defBody s__law_deal_told, defScope s__law_deal_told, [], []⟩
def dd_Table_deal : He.DefD := ⟨("Table", some "deal"), "deal", "Table.deal", defArgs s_Table_deal, defBody s_Table_deal, defScope s_Table_deal, [], []⟩
def dd_Table_touches : He.DefD := ⟨("Table", some "touches"), "touches", "Table.touches", defArgs s_Table_touches, defBody s_Table_touches, defScope s_Table_touches, [], []⟩
def dd_Table_readings : He.DefD := ⟨("Table", some "readings"), "readings", "Table.readings", defArgs s_Table_readings, defBody s_Table_readings, defScope s_Table_readings, [], []⟩
def dd_Table_score : He.DefD := ⟨("Table", some "score"), "score", "Table.score", defArgs s_Table_score, defBody s_Table_score, defScope s_Table_score, [], []⟩
def dd_Table_faults : He.DefD := ⟨("Table", some "faults"), "faults", "Table.faults", defArgs s_Table_faults, defBody s_Table_faults, defScope s_Table_faults, [], []⟩
def dd_Table_due : He.DefD := ⟨("Table", some "due"), "due", "Table.due", defArgs s_Table_due, defBody s_Table_due, defScope s_Table_due, [], []⟩
def dd_Table_under : He.DefD := ⟨("Table", some "under"), "under", "Table.under", defArgs s_Table_under, defBody s_Table_under, defScope s_Table_under, [], []⟩
def dd_Table_unread : He.DefD := ⟨("Table", some "unread"), "unread", "Table.unread", defArgs s_Table_unread, defBody s_Table_unread, defScope s_Table_unread, [], []⟩
def dd_Table_heard : He.DefD := ⟨("Table", some "heard"), "heard", "Table.heard", defArgs s_Table_heard, defBody s_Table_heard, defScope s_Table_heard, [], []⟩
def dd_Table_winner : He.DefD := ⟨("Table", some "winner"), "winner", "Table.winner", defArgs s_Table_winner, defBody s_Table_winner, defScope s_Table_winner, [], []⟩
def dd_Table_need_going : He.DefD := ⟨("Table", some "need_going"), "need_going", "Table.need_going", defArgs s_Table_need_going, defBody s_Table_need_going, defScope s_Table_need_going, [], []⟩
def dd_Table_need_quiet : He.DefD := ⟨("Table", some "need_quiet"), "need_quiet", "Table.need_quiet", defArgs s_Table_need_quiet, defBody s_Table_need_quiet, defScope s_Table_need_quiet, [], []⟩
def dd_Table_read : He.DefD := ⟨("Table", some "read"), "read", "Table.read", defArgs s_Table_read, defBody s_Table_read, defScope s_Table_read, [], []⟩
def dd_Tabled__initd_ : He.DefD := ⟨("Table", some "__init__"), "__init__", "Table.__init__", defArgs s_Tabled__initd_, defBody s_Tabled__initd_, defScope s_Tabled__initd_, [], []⟩
def dd__law_start : He.DefD := ⟨("_law_start", none), "_law_start", "_law_start", defArgs s__law_start, defBody s__law_start, defScope s__law_start, [], []⟩
def dd__law_open : He.DefD := ⟨("_law_open", none), "_law_open", "_law_open", defArgs s__law_open, defBody s__law_open, defScope s__law_open, [], []⟩
def dd__law_heard_now : He.DefD := ⟨("_law_heard_now", none), "_law_heard_now", "_law_heard_now", defArgs s__law_heard_now, defBody s__law_heard_now, defScope s__law_heard_now, [], []⟩
def dd__law_cards : He.DefD := ⟨("_law_cards", none), "_law_cards", "_law_cards", defArgs s__law_cards, defBody s__law_cards, defScope s__law_cards, [], []⟩
def dd__law_winner : He.DefD := ⟨("_law_winner", none), "_law_winner", "_law_winner", defArgs s__law_winner, defBody s__law_winner, defScope s__law_winner, [], []⟩
def dd__law_t_told : He.DefD := ⟨("_law_t_told", none), "_law_t_told", "_law_t_told", defArgs s__law_t_told, defBody s__law_t_told, defScope s__law_t_told, [], []⟩
def dd__law_opened : He.DefD := ⟨("_law_opened", none), "_law_opened", "_law_opened", defArgs s__law_opened, defBody s__law_opened, defScope s__law_opened, [], []⟩
def dd_law : He.DefD := ⟨("law", none), "law", "law", defArgs s_law, defBody s_law, defScope s_law, [], []⟩
def fa_ : List He.Fa := ([.free "abs", .free "all", .free "any", .free "dict", .free "enumerate", .free "int", .free "isinstance", .free "len", .free "list", .free "max", .free "min", .free "range", .free "sorted", .free "str", .free "sum", .free "tuple", .free "zip", .free "bool", .free "set", .str "LETTERS" "abcdefghijklmnopqrstuvwxyz", .int "MOST_SIGNS" 3, .int "MOST_SYLLABLES" 8, .int "MOST_VERSES" 40, .int "MOST_ROWS" 3, .int "MOST_CARDS" 12, .exc "BadBook", .glo "BadBook", .glo "BadVerse", .noat "BadVerse" "row", .glo "Alike", .noat "Alike" "one", .noat "Alike" "other", .exc "NoVerse", .glo "NoVerse", .exc "BadDeal", .glo "BadDeal", .exc "NoField", .glo "NoField", .exc "Over", .glo "Over"] : List He.Fa) ++ ([.exc "Reading", .glo "Reading", .exc "GiftDue", .glo "GiftDue", .exc "ReadAlready", .glo "ReadAlready", .exc "SnatchError", .glo "SnatchError", .exm "BadDeal" "BadDeal" true, .cls "Book", .glo "Book", .noat "Book" "lines", .cls "Deal", .glo "Deal", .noat "Deal" "bound", .noat "Deal" "fields", .noat "Deal" "homes", .cls "Table", .glo "Table", .noat "Table" "begun", .noat "Table" "lying", .noat "Table" "past", .noat "Table" "spoken", .noat "Table" "hands", .noat "Table" "won", .noat "Table" "missed", .noat "Table" "owed", .glo "_law_numbers", .glo "_law_same", .glo "is_syllable", .glo "is_verse", .glo "begins", .glo "alike", .glo "need_verses", .meth "Book" "__init__", .meth "Book" "many", .meth "Book" "verse", .meth "Book" "verses", .glo "_law_sound", .glo "_law_pool"] : List He.Fa) ++ ([.glo "_law_alike", .glo "_law_verse", .glo "_law_wide", .glo "_law_book", .glo "_law_book_told", .glo "need_numbers", .glo "copied", .glo "need_field", .glo "places_of", .meth "Deal" "__init__", .meth "Deal" "book", .meth "Deal" "rows", .meth "Deal" "cards", .meth "Deal" "where", .glo "_law_fields", .glo "_law_copy", .glo "_law_made", .glo "_law_where", .glo "_law_deal_told", .meth "Table" "deal", .meth "Table" "touches", .meth "Table" "readings", .meth "Table" "score", .meth "Table" "faults", .meth "Table" "due", .meth "Table" "under", .meth "Table" "unread", .meth "Table" "heard", .meth "Table" "winner", .meth "Table" "need_going", .meth "Table" "need_quiet", .meth "Table" "read", .meth "Table" "__init__", .glo "_law_start", .glo "_law_open", .glo "_law_heard_now", .glo "_law_cards", .glo "_law_winner", .glo "_law_t_told", .glo "_law_opened"] : List He.Fa) ++ ([.glo "law", .mkr "Book", .mkr "Deal", .mkr "Table"] : List He.Fa)
def fn_ : List He.DefD := ([dd_BadVersed__initd_, dd_Aliked__initd_, dd__law_numbers, dd__law_same, dd_is_syllable, dd_is_verse, dd_begins, dd_alike, dd_need_verses, dd_Bookd__initd_, dd_Book_many, dd_Book_verse, dd_Book_verses, dd__law_sound, dd__law_pool, dd__law_alike, dd__law_verse, dd__law_wide, dd__law_book, dd__law_book_told, dd_need_numbers, dd_copied, dd_need_field, dd_places_of, dd_Deald__initd_, dd_Deal_book, dd_Deal_rows, dd_Deal_cards, dd_Deal_where, dd__law_fields, dd__law_copy, dd__law_made, dd__law_where, dd__law_deal_told, dd_Table_deal, dd_Table_touches, dd_Table_readings, dd_Table_score, dd_Table_faults, dd_Table_due] : List He.DefD) ++ ([dd_Table_under, dd_Table_unread, dd_Table_heard, dd_Table_winner, dd_Table_need_going, dd_Table_need_quiet, dd_Table_read, dd_Tabled__initd_, dd__law_start, dd__law_open, dd__law_heard_now, dd__law_cards, dd__law_winner, dd__law_t_told, dd__law_opened, dd_law] : List He.DefD)
def tf_ : List He.Defn := []
def ex_ (K : PySem.W.Frag) : Bool := (xiB K "BadVerse" && (xiB K "Alike" && true))
def nm_ : List PySem.Str := ([("_wall" : PySem.Str), ("SnatchError" : PySem.Str), ("BadBook" : PySem.Str), ("NoVerse" : PySem.Str), ("BadDeal" : PySem.Str), ("NoField" : PySem.Str), ("NoCard" : PySem.Str), ("Full" : PySem.Str), ("NoSide" : PySem.Str), ("ReadAlready" : PySem.Str), ("NotDue" : PySem.Str), ("Reading" : PySem.Str), ("TooEarly" : PySem.Str), ("GiftDue" : PySem.Str), ("Over" : PySem.Str), ("BadVerse" : PySem.Str), ("Alike" : PySem.Str), ("LETTERS" : PySem.Str), ("MOST_VERSES" : PySem.Str), ("MOST_SYLLABLES" : PySem.Str), ("MOST_SIGNS" : PySem.Str), ("is_syllable" : PySem.Str), ("is_verse" : PySem.Str), ("begins" : PySem.Str), ("alike" : PySem.Str), ("need_verses" : PySem.Str), ("Book" : PySem.Str), ("need_numbers" : PySem.Str), ("is_fault" : PySem.Str), ("is_taken" : PySem.Str), ("need_side" : PySem.Str), ("one_more" : PySem.Str), ("Table" : PySem.Str), ("MOST_ROWS" : PySem.Str), ("MOST_CARDS" : PySem.Str), ("need_field" : PySem.Str), ("places_of" : PySem.Str), ("copied" : PySem.Str), ("Deal" : PySem.Str), ("_law_numbers" : PySem.Str)] : List PySem.Str) ++ ([("_law_same" : PySem.Str), ("_law_sound" : PySem.Str), ("_law_pool" : PySem.Str), ("_law_alike" : PySem.Str), ("_law_verse" : PySem.Str), ("_law_wide" : PySem.Str), ("_law_book" : PySem.Str), ("_law_copy" : PySem.Str), ("_law_book_told" : PySem.Str), ("_law_fields" : PySem.Str), ("_law_made" : PySem.Str), ("_law_where" : PySem.Str), ("_law_deal_told" : PySem.Str), ("_law_cards" : PySem.Str), ("_law_start" : PySem.Str), ("_law_open" : PySem.Str), ("_law_heard_now" : PySem.Str), ("_law_winner" : PySem.Str), ("_law_t_told" : PySem.Str), ("_law_opened" : PySem.Str)] : List PySem.Str)
abbrev R_ : PySem.W.OpenRow := PySem.W.OpenLaw.row PySem.Challenge.rw_kimariji_k43_tables_opened
abbrev hk_ : PySem.W.Hook := hookY 4 fa_ fn_ [] tf_ ex_
def ob_ (s : PySem.W.SharedT) : He.AlX := obsYF 4 fa_ fn_ [] tf_ ex_ (HandSHeadRun.getT s)
theorem ob_eq (s : PySem.W.SharedT) : ob_ s = hk_.obs s.abs := obsYF_at _ _ _ _ _ _ (HandSHeadRun.getT_eq s)
theorem run_ (w : World) : HandSHeadRun.RunEq R_ (PySem.W.view R_.prog [66]) hk_ ob_ 12000 nm_ w := by
  intro os
  kernel_rfl
theorem all_mkH {l : PySem.W.OpenLaw} {w : World} {K : PySem.W.Frag} {h : Heap} {mg : Str → Option Value} {fa : Addr} (X : K.In h) (G : h.Ns mainGlobals mg) (hfa : mg "law" = some (.ref fa)) (c : He.SaysX fa_ fn_ [] tf_ ex_ w h K) : LamX.LawAtS l w K (L2.CX l.prog w) 7 63 "_law_script" mg fa h := by
  have B : Bt mg := ⟨He.free_ok X G (c.t.d.fact 0 (f := .free "abs") rfl), He.free_ok X G (c.t.d.fact 1 (f := .free "all") rfl), He.free_ok X G (c.t.d.fact 2 (f := .free "any") rfl), He.free_ok X G (c.t.d.fact 3 (f := .free "dict") rfl), He.free_ok X G (c.t.d.fact 4 (f := .free "enumerate") rfl), He.free_ok X G (c.t.d.fact 5 (f := .free "int") rfl), He.free_ok X G (c.t.d.fact 6 (f := .free "isinstance") rfl), He.free_ok X G (c.t.d.fact 7 (f := .free "len") rfl), He.free_ok X G (c.t.d.fact 8 (f := .free "list") rfl), He.free_ok X G (c.t.d.fact 9 (f := .free "max") rfl), He.free_ok X G (c.t.d.fact 10 (f := .free "min") rfl), He.free_ok X G (c.t.d.fact 11 (f := .free "range") rfl), He.free_ok X G (c.t.d.fact 12 (f := .free "sorted") rfl), He.free_ok X G (c.t.d.fact 13 (f := .free "str") rfl), He.free_ok X G (c.t.d.fact 14 (f := .free "sum") rfl), He.free_ok X G (c.t.d.fact 15 (f := .free "tuple") rfl), He.free_ok X G (c.t.d.fact 16 (f := .free "zip") rfl), He.free_ok X G (c.t.d.fact 17 (f := .free "bool") rfl), He.free_ok X G (c.t.d.fact 18 (f := .free "set") rfl)⟩
  obtain ⟨t_LETTERS, c_LETTERS⟩ := He.str_ok X G (c.t.d.fact 19 (f := .str "LETTERS" "abcdefghijklmnopqrstuvwxyz") rfl)
  obtain ⟨t_MOST_SIGNS, c_MOST_SIGNS⟩ := He.int_ok X G (c.t.d.fact 20 (f := .int "MOST_SIGNS" 3) rfl)
  obtain ⟨t_MOST_SYLLABLES, c_MOST_SYLLABLES⟩ := He.int_ok X G (c.t.d.fact 21 (f := .int "MOST_SYLLABLES" 8) rfl)
  obtain ⟨t_MOST_VERSES, c_MOST_VERSES⟩ := He.int_ok X G (c.t.d.fact 22 (f := .int "MOST_VERSES" 40) rfl)
  obtain ⟨t_MOST_ROWS, c_MOST_ROWS⟩ := He.int_ok X G (c.t.d.fact 23 (f := .int "MOST_ROWS" 3) rfl)
  obtain ⟨t_MOST_CARDS, c_MOST_CARDS⟩ := He.int_ok X G (c.t.d.fact 24 (f := .int "MOST_CARDS" 12) rfl)
  have z_BadBook := He.exc_ok (c.t.d.fact 25 (f := .exc "BadBook") rfl)
  have X_BadBook : Xc K mg "BadBook" (He.ga K "BadBook") := ⟨(He.glo_ok X G (c.t.d.fact 26 (f := .glo "BadBook") rfl)), z_BadBook.1, z_BadBook.2.1, z_BadBook.2.2.1, z_BadBook.2.2.2⟩
  obtain ⟨fd_BadVersed__initd_, F_BadVersed__initd_⟩ := c.t.d.def_ 0 (d := dd_BadVersed__initd_) rfl
  have F_BadVersed__initd_ : FunD K "__init__" "BadVerse.__init__" (defArgs s_BadVersed__initd_) (defBody s_BadVersed__initd_) (defScope s_BadVersed__initd_) [] [] (He.fAd K ("BadVerse", some "__init__")) fd_BadVersed__initd_ := F_BadVersed__initd_
  have z_BadVerse := xi_ok (x := "BadVerse") (ba c.more).1
  obtain ⟨fd_Aliked__initd_, F_Aliked__initd_⟩ := c.t.d.def_ 1 (d := dd_Aliked__initd_) rfl
  have F_Aliked__initd_ : FunD K "__init__" "Alike.__init__" (defArgs s_Aliked__initd_) (defBody s_Aliked__initd_) (defScope s_Aliked__initd_) [] [] (He.fAd K ("Alike", some "__init__")) fd_Aliked__initd_ := F_Aliked__initd_
  have z_Alike := xi_ok (x := "Alike") (ba (ba c.more).2).1
  have z_NoVerse := He.exc_ok (c.t.d.fact 32 (f := .exc "NoVerse") rfl)
  have X_NoVerse : Xc K mg "NoVerse" (He.ga K "NoVerse") := ⟨(He.glo_ok X G (c.t.d.fact 33 (f := .glo "NoVerse") rfl)), z_NoVerse.1, z_NoVerse.2.1, z_NoVerse.2.2.1, z_NoVerse.2.2.2⟩
  have z_BadDeal := He.exc_ok (c.t.d.fact 34 (f := .exc "BadDeal") rfl)
  have X_BadDeal : Xc K mg "BadDeal" (He.ga K "BadDeal") := ⟨(He.glo_ok X G (c.t.d.fact 35 (f := .glo "BadDeal") rfl)), z_BadDeal.1, z_BadDeal.2.1, z_BadDeal.2.2.1, z_BadDeal.2.2.2⟩
  have z_NoField := He.exc_ok (c.t.d.fact 36 (f := .exc "NoField") rfl)
  have X_NoField : Xc K mg "NoField" (He.ga K "NoField") := ⟨(He.glo_ok X G (c.t.d.fact 37 (f := .glo "NoField") rfl)), z_NoField.1, z_NoField.2.1, z_NoField.2.2.1, z_NoField.2.2.2⟩
  have z_Over := He.exc_ok (c.t.d.fact 38 (f := .exc "Over") rfl)
  have X_Over : Xc K mg "Over" (He.ga K "Over") := ⟨(He.glo_ok X G (c.t.d.fact 39 (f := .glo "Over") rfl)), z_Over.1, z_Over.2.1, z_Over.2.2.1, z_Over.2.2.2⟩
  have z_Reading := He.exc_ok (c.t.d.fact 40 (f := .exc "Reading") rfl)
  have X_Reading : Xc K mg "Reading" (He.ga K "Reading") := ⟨(He.glo_ok X G (c.t.d.fact 41 (f := .glo "Reading") rfl)), z_Reading.1, z_Reading.2.1, z_Reading.2.2.1, z_Reading.2.2.2⟩
  have z_GiftDue := He.exc_ok (c.t.d.fact 42 (f := .exc "GiftDue") rfl)
  have X_GiftDue : Xc K mg "GiftDue" (He.ga K "GiftDue") := ⟨(He.glo_ok X G (c.t.d.fact 43 (f := .glo "GiftDue") rfl)), z_GiftDue.1, z_GiftDue.2.1, z_GiftDue.2.2.1, z_GiftDue.2.2.2⟩
  have z_ReadAlready := He.exc_ok (c.t.d.fact 44 (f := .exc "ReadAlready") rfl)
  have X_ReadAlready : Xc K mg "ReadAlready" (He.ga K "ReadAlready") := ⟨(He.glo_ok X G (c.t.d.fact 45 (f := .glo "ReadAlready") rfl)), z_ReadAlready.1, z_ReadAlready.2.1, z_ReadAlready.2.2.1, z_ReadAlready.2.2.2⟩
  have z_SnatchError := He.exc_ok (c.t.d.fact 46 (f := .exc "SnatchError") rfl)
  have X_SnatchError : Xc K mg "SnatchError" (He.ga K "SnatchError") := ⟨(He.glo_ok X G (c.t.d.fact 47 (f := .glo "SnatchError") rfl)), z_SnatchError.1, z_SnatchError.2.1, z_SnatchError.2.2.1, z_SnatchError.2.2.2⟩
  have E_BadDeal_BadDeal : PySem.W.exmOne K (.ref (He.ga K "BadDeal")) (.ref (He.ga K "BadDeal")) = some true := He.exm_ok (c.t.d.fact 48 (f := .exm "BadDeal" "BadDeal" true) rfl)
  have T_Book : TBook K mg (He.ga K "Book") := ⟨He.cls_ok (c.t.d.fact 49 (f := .cls "Book") rfl), (He.glo_ok X G (c.t.d.fact 50 (f := .glo "Book") rfl)), He.noat_ok (c.t.d.fact 51 (f := .noat "Book" "lines") rfl)⟩
  have T_Deal : TDeal K mg (He.ga K "Deal") := ⟨He.cls_ok (c.t.d.fact 52 (f := .cls "Deal") rfl), (He.glo_ok X G (c.t.d.fact 53 (f := .glo "Deal") rfl)), He.noat_ok (c.t.d.fact 54 (f := .noat "Deal" "bound") rfl), He.noat_ok (c.t.d.fact 55 (f := .noat "Deal" "fields") rfl), He.noat_ok (c.t.d.fact 56 (f := .noat "Deal" "homes") rfl)⟩
  have T_Table : TTable K mg (He.ga K "Table") := ⟨He.cls_ok (c.t.d.fact 57 (f := .cls "Table") rfl), (He.glo_ok X G (c.t.d.fact 58 (f := .glo "Table") rfl)), He.noat_ok (c.t.d.fact 59 (f := .noat "Table" "begun") rfl), He.noat_ok (c.t.d.fact 60 (f := .noat "Table" "lying") rfl), He.noat_ok (c.t.d.fact 61 (f := .noat "Table" "past") rfl), He.noat_ok (c.t.d.fact 62 (f := .noat "Table" "spoken") rfl), He.noat_ok (c.t.d.fact 63 (f := .noat "Table" "hands") rfl), He.noat_ok (c.t.d.fact 64 (f := .noat "Table" "won") rfl), He.noat_ok (c.t.d.fact 65 (f := .noat "Table" "missed") rfl), He.noat_ok (c.t.d.fact 66 (f := .noat "Table" "owed") rfl)⟩
  obtain ⟨fd__law_numbers, F__law_numbers⟩ := c.t.d.def_ 2 (d := dd__law_numbers) rfl
  have F__law_numbers : FunD K "_law_numbers" "_law_numbers" (defArgs s__law_numbers) (defBody s__law_numbers) (defScope s__law_numbers) [] [] (He.fAd K ("_law_numbers", none)) fd__law_numbers := F__law_numbers
  have D__law_numbers : Df K mg "_law_numbers" s__law_numbers ["_law_script", "_law_many"] := ⟨He.fAd K ("_law_numbers", none), fd__law_numbers, (He.glo_ok X G (c.t.d.fact 67 (f := .glo "_law_numbers") rfl)), fun_ofD F__law_numbers, (FunD.bindsN (ps := ["_law_script", "_law_many"]) F__law_numbers fun _ _ _ _ _ _ us hl => match us, hl with | [_, _], _ => rfl)⟩
  obtain ⟨fd__law_same, F__law_same⟩ := c.t.d.def_ 3 (d := dd__law_same) rfl
  have F__law_same : FunD K "_law_same" "_law_same" (defArgs s__law_same) (defBody s__law_same) (defScope s__law_same) [] [] (He.fAd K ("_law_same", none)) fd__law_same := F__law_same
  have D__law_same : Df K mg "_law_same" s__law_same ["_law_found", "_law_due"] := ⟨He.fAd K ("_law_same", none), fd__law_same, (He.glo_ok X G (c.t.d.fact 68 (f := .glo "_law_same") rfl)), fun_ofD F__law_same, (FunD.bindsN (ps := ["_law_found", "_law_due"]) F__law_same fun _ _ _ _ _ _ us hl => match us, hl with | [_, _], _ => rfl)⟩
  obtain ⟨fd_is_syllable, F_is_syllable⟩ := c.t.d.def_ 4 (d := dd_is_syllable) rfl
  have F_is_syllable : FunD K "is_syllable" "is_syllable" (defArgs s_is_syllable) (defBody s_is_syllable) (defScope s_is_syllable) [] [] (He.fAd K ("is_syllable", none)) fd_is_syllable := F_is_syllable
  have D_is_syllable : Df K mg "is_syllable" s_is_syllable ["text"] := ⟨He.fAd K ("is_syllable", none), fd_is_syllable, (He.glo_ok X G (c.t.d.fact 69 (f := .glo "is_syllable") rfl)), fun_ofD F_is_syllable, (FunD.bindsN (ps := ["text"]) F_is_syllable fun _ _ _ _ _ _ us hl => match us, hl with | [_], _ => rfl)⟩
  obtain ⟨fd_is_verse, F_is_verse⟩ := c.t.d.def_ 5 (d := dd_is_verse) rfl
  have F_is_verse : FunD K "is_verse" "is_verse" (defArgs s_is_verse) (defBody s_is_verse) (defScope s_is_verse) [] [] (He.fAd K ("is_verse", none)) fd_is_verse := F_is_verse
  have D_is_verse : Df K mg "is_verse" s_is_verse ["line"] := ⟨He.fAd K ("is_verse", none), fd_is_verse, (He.glo_ok X G (c.t.d.fact 70 (f := .glo "is_verse") rfl)), fun_ofD F_is_verse, (FunD.bindsN (ps := ["line"]) F_is_verse fun _ _ _ _ _ _ us hl => match us, hl with | [_], _ => rfl)⟩
  obtain ⟨fd_begins, F_begins⟩ := c.t.d.def_ 6 (d := dd_begins) rfl
  have F_begins : FunD K "begins" "begins" (defArgs s_begins) (defBody s_begins) (defScope s_begins) [] [] (He.fAd K ("begins", none)) fd_begins := F_begins
  have D_begins : Df K mg "begins" s_begins ["heard", "line"] := ⟨He.fAd K ("begins", none), fd_begins, (He.glo_ok X G (c.t.d.fact 71 (f := .glo "begins") rfl)), fun_ofD F_begins, (FunD.bindsN (ps := ["heard", "line"]) F_begins fun _ _ _ _ _ _ us hl => match us, hl with | [_, _], _ => rfl)⟩
  obtain ⟨fd_alike, F_alike⟩ := c.t.d.def_ 7 (d := dd_alike) rfl
  have F_alike : FunD K "alike" "alike" (defArgs s_alike) (defBody s_alike) (defScope s_alike) [] [] (He.fAd K ("alike", none)) fd_alike := F_alike
  have D_alike : Df K mg "alike" s_alike ["one", "other"] := ⟨He.fAd K ("alike", none), fd_alike, (He.glo_ok X G (c.t.d.fact 72 (f := .glo "alike") rfl)), fun_ofD F_alike, (FunD.bindsN (ps := ["one", "other"]) F_alike fun _ _ _ _ _ _ us hl => match us, hl with | [_, _], _ => rfl)⟩
  obtain ⟨fd_need_verses, F_need_verses⟩ := c.t.d.def_ 8 (d := dd_need_verses) rfl
  have F_need_verses : FunD K "need_verses" "need_verses" (defArgs s_need_verses) (defBody s_need_verses) (defScope s_need_verses) [] [] (He.fAd K ("need_verses", none)) fd_need_verses := F_need_verses
  have D_need_verses : Df K mg "need_verses" s_need_verses ["verses"] := ⟨He.fAd K ("need_verses", none), fd_need_verses, (He.glo_ok X G (c.t.d.fact 73 (f := .glo "need_verses") rfl)), fun_ofD F_need_verses, (FunD.bindsN (ps := ["verses"]) F_need_verses fun _ _ _ _ _ _ us hl => match us, hl with | [_], _ => rfl)⟩
  obtain ⟨fd_Bookd__initd_, F_Bookd__initd_⟩ := c.t.d.def_ 9 (d := dd_Bookd__initd_) rfl
  have F_Bookd__initd_ : FunD K "__init__" "Book.__init__" (defArgs s_Bookd__initd_) (defBody s_Bookd__initd_) (defScope s_Bookd__initd_) [] [] (He.fAd K ("Book", some "__init__")) fd_Bookd__initd_ := F_Bookd__initd_
  have D_Bookd__initd_ : Dm K (He.ga K "Book") "__init__" "Book.__init__" s_Bookd__initd_ ["self", "verses"] := ⟨T_Book.cl, He.fAd K ("Book", some "__init__"), fd_Bookd__initd_, He.meth_ok (c.t.d.fact 74 (f := .meth "Book" "__init__") rfl), fun_ofD F_Bookd__initd_, (FunD.bindsN (ps := ["self", "verses"]) F_Bookd__initd_ fun _ _ _ _ _ _ us hl => match us, hl with | [_, _], _ => rfl)⟩
  obtain ⟨fd_Book_many, F_Book_many⟩ := c.t.d.def_ 10 (d := dd_Book_many) rfl
  have F_Book_many : FunD K "many" "Book.many" (defArgs s_Book_many) (defBody s_Book_many) (defScope s_Book_many) [] [] (He.fAd K ("Book", some "many")) fd_Book_many := F_Book_many
  have D_Book_many : Dm K (He.ga K "Book") "many" "Book.many" s_Book_many ["self"] := ⟨T_Book.cl, He.fAd K ("Book", some "many"), fd_Book_many, He.meth_ok (c.t.d.fact 75 (f := .meth "Book" "many") rfl), fun_ofD F_Book_many, (FunD.bindsN (ps := ["self"]) F_Book_many fun _ _ _ _ _ _ us hl => match us, hl with | [_], _ => rfl)⟩
  obtain ⟨fd_Book_verse, F_Book_verse⟩ := c.t.d.def_ 11 (d := dd_Book_verse) rfl
  have F_Book_verse : FunD K "verse" "Book.verse" (defArgs s_Book_verse) (defBody s_Book_verse) (defScope s_Book_verse) [] [] (He.fAd K ("Book", some "verse")) fd_Book_verse := F_Book_verse
  have D_Book_verse : Dm K (He.ga K "Book") "verse" "Book.verse" s_Book_verse ["self", "number"] := ⟨T_Book.cl, He.fAd K ("Book", some "verse"), fd_Book_verse, He.meth_ok (c.t.d.fact 76 (f := .meth "Book" "verse") rfl), fun_ofD F_Book_verse, (FunD.bindsN (ps := ["self", "number"]) F_Book_verse fun _ _ _ _ _ _ us hl => match us, hl with | [_, _], _ => rfl)⟩
  obtain ⟨fd_Book_verses, F_Book_verses⟩ := c.t.d.def_ 12 (d := dd_Book_verses) rfl
  have F_Book_verses : FunD K "verses" "Book.verses" (defArgs s_Book_verses) (defBody s_Book_verses) (defScope s_Book_verses) [] [] (He.fAd K ("Book", some "verses")) fd_Book_verses := F_Book_verses
  have D_Book_verses : Dm K (He.ga K "Book") "verses" "Book.verses" s_Book_verses ["self"] := ⟨T_Book.cl, He.fAd K ("Book", some "verses"), fd_Book_verses, He.meth_ok (c.t.d.fact 77 (f := .meth "Book" "verses") rfl), fun_ofD F_Book_verses, (FunD.bindsN (ps := ["self"]) F_Book_verses fun _ _ _ _ _ _ us hl => match us, hl with | [_], _ => rfl)⟩
  obtain ⟨fd__law_sound, F__law_sound⟩ := c.t.d.def_ 13 (d := dd__law_sound) rfl
  have F__law_sound : FunD K "_law_sound" "_law_sound" (defArgs s__law_sound) (defBody s__law_sound) (defScope s__law_sound) [] [] (He.fAd K ("_law_sound", none)) fd__law_sound := F__law_sound
  have D__law_sound : Df K mg "_law_sound" s__law_sound ["_law_number"] := ⟨He.fAd K ("_law_sound", none), fd__law_sound, (He.glo_ok X G (c.t.d.fact 78 (f := .glo "_law_sound") rfl)), fun_ofD F__law_sound, (FunD.bindsN (ps := ["_law_number"]) F__law_sound fun _ _ _ _ _ _ us hl => match us, hl with | [_], _ => rfl)⟩
  obtain ⟨fd__law_pool, F__law_pool⟩ := c.t.d.def_ 14 (d := dd__law_pool) rfl
  have F__law_pool : FunD K "_law_pool" "_law_pool" (defArgs s__law_pool) (defBody s__law_pool) (defScope s__law_pool) [] [] (He.fAd K ("_law_pool", none)) fd__law_pool := F__law_pool
  have D__law_pool : Df K mg "_law_pool" s__law_pool ["_law_d"] := ⟨He.fAd K ("_law_pool", none), fd__law_pool, (He.glo_ok X G (c.t.d.fact 79 (f := .glo "_law_pool") rfl)), fun_ofD F__law_pool, (FunD.bindsN (ps := ["_law_d"]) F__law_pool fun _ _ _ _ _ _ us hl => match us, hl with | [_], _ => rfl)⟩
  obtain ⟨fd__law_alike, F__law_alike⟩ := c.t.d.def_ 15 (d := dd__law_alike) rfl
  have F__law_alike : FunD K "_law_alike" "_law_alike" (defArgs s__law_alike) (defBody s__law_alike) (defScope s__law_alike) [] [] (He.fAd K ("_law_alike", none)) fd__law_alike := F__law_alike
  have D__law_alike : Df K mg "_law_alike" s__law_alike ["_law_one", "_law_other"] := ⟨He.fAd K ("_law_alike", none), fd__law_alike, (He.glo_ok X G (c.t.d.fact 80 (f := .glo "_law_alike") rfl)), fun_ofD F__law_alike, (FunD.bindsN (ps := ["_law_one", "_law_other"]) F__law_alike fun _ _ _ _ _ _ us hl => match us, hl with | [_, _], _ => rfl)⟩
  obtain ⟨fd__law_verse, F__law_verse⟩ := c.t.d.def_ 16 (d := dd__law_verse) rfl
  have F__law_verse : FunD K "_law_verse" "_law_verse" (defArgs s__law_verse) (defBody s__law_verse) (defScope s__law_verse) [] [] (He.fAd K ("_law_verse", none)) fd__law_verse := F__law_verse
  have D__law_verse : Df K mg "_law_verse" s__law_verse ["_law_verses", "_law_pool_here", "_law_d"] := ⟨He.fAd K ("_law_verse", none), fd__law_verse, (He.glo_ok X G (c.t.d.fact 81 (f := .glo "_law_verse") rfl)), fun_ofD F__law_verse, (FunD.bindsN (ps := ["_law_verses", "_law_pool_here", "_law_d"]) F__law_verse fun _ _ _ _ _ _ us hl => match us, hl with | [_, _, _], _ => rfl)⟩
  obtain ⟨fd__law_wide, F__law_wide⟩ := c.t.d.def_ 17 (d := dd__law_wide) rfl
  have F__law_wide : FunD K "_law_wide" "_law_wide" (defArgs s__law_wide) (defBody s__law_wide) (defScope s__law_wide) [] [] (He.fAd K ("_law_wide", none)) fd__law_wide := F__law_wide
  have D__law_wide : Df K mg "_law_wide" s__law_wide ["_law_d", "_law_size"] := ⟨He.fAd K ("_law_wide", none), fd__law_wide, (He.glo_ok X G (c.t.d.fact 82 (f := .glo "_law_wide") rfl)), fun_ofD F__law_wide, (FunD.bindsN (ps := ["_law_d", "_law_size"]) F__law_wide fun _ _ _ _ _ _ us hl => match us, hl with | [_, _], _ => rfl)⟩
  obtain ⟨fd__law_book, F__law_book⟩ := c.t.d.def_ 18 (d := dd__law_book) rfl
  have F__law_book : FunD K "_law_book" "_law_book" (defArgs s__law_book) (defBody s__law_book) (defScope s__law_book) [] [] (He.fAd K ("_law_book", none)) fd__law_book := F__law_book
  have D__law_book : Df K mg "_law_book" s__law_book ["_law_d", "_law_most"] := ⟨He.fAd K ("_law_book", none), fd__law_book, (He.glo_ok X G (c.t.d.fact 83 (f := .glo "_law_book") rfl)), fun_ofD F__law_book, (FunD.bindsN (ps := ["_law_d", "_law_most"]) F__law_book fun _ _ _ _ _ _ us hl => match us, hl with | [_, _], _ => rfl)⟩
  obtain ⟨fd__law_book_told, F__law_book_told⟩ := c.t.d.def_ 19 (d := dd__law_book_told) rfl
  have F__law_book_told : FunD K "_law_book_told" "_law_book_told" (defArgs s__law_book_told) (defBody s__law_book_told) (defScope s__law_book_told) [] [] (He.fAd K ("_law_book_told", none)) fd__law_book_told := F__law_book_told
  have D__law_book_told : Df K mg "_law_book_told" s__law_book_told ["_law_book_here", "_law_verses"] := ⟨He.fAd K ("_law_book_told", none), fd__law_book_told, (He.glo_ok X G (c.t.d.fact 84 (f := .glo "_law_book_told") rfl)), fun_ofD F__law_book_told, (FunD.bindsN (ps := ["_law_book_here", "_law_verses"]) F__law_book_told fun _ _ _ _ _ _ us hl => match us, hl with | [_, _], _ => rfl)⟩
  obtain ⟨fd_need_numbers, F_need_numbers⟩ := c.t.d.def_ 20 (d := dd_need_numbers) rfl
  have F_need_numbers : FunD K "need_numbers" "need_numbers" (defArgs s_need_numbers) (defBody s_need_numbers) (defScope s_need_numbers) [] [] (He.fAd K ("need_numbers", none)) fd_need_numbers := F_need_numbers
  have D_need_numbers : Df K mg "need_numbers" s_need_numbers ["book", "numbers"] := ⟨He.fAd K ("need_numbers", none), fd_need_numbers, (He.glo_ok X G (c.t.d.fact 85 (f := .glo "need_numbers") rfl)), fun_ofD F_need_numbers, (FunD.bindsN (ps := ["book", "numbers"]) F_need_numbers fun _ _ _ _ _ _ us hl => match us, hl with | [_, _], _ => rfl)⟩
  obtain ⟨fd_copied, F_copied⟩ := c.t.d.def_ 21 (d := dd_copied) rfl
  have F_copied : FunD K "copied" "copied" (defArgs s_copied) (defBody s_copied) (defScope s_copied) [] [] (He.fAd K ("copied", none)) fd_copied := F_copied
  have D_copied : Df K mg "copied" s_copied ["rows"] := ⟨He.fAd K ("copied", none), fd_copied, (He.glo_ok X G (c.t.d.fact 86 (f := .glo "copied") rfl)), fun_ofD F_copied, (FunD.bindsN (ps := ["rows"]) F_copied fun _ _ _ _ _ _ us hl => match us, hl with | [_], _ => rfl)⟩
  obtain ⟨fd_need_field, F_need_field⟩ := c.t.d.def_ 22 (d := dd_need_field) rfl
  have F_need_field : FunD K "need_field" "need_field" (defArgs s_need_field) (defBody s_need_field) (defScope s_need_field) [] [] (He.fAd K ("need_field", none)) fd_need_field := F_need_field
  have D_need_field : Df K mg "need_field" s_need_field ["book", "rows"] := ⟨He.fAd K ("need_field", none), fd_need_field, (He.glo_ok X G (c.t.d.fact 87 (f := .glo "need_field") rfl)), fun_ofD F_need_field, (FunD.bindsN (ps := ["book", "rows"]) F_need_field fun _ _ _ _ _ _ us hl => match us, hl with | [_, _], _ => rfl)⟩
  obtain ⟨fd_places_of, F_places_of⟩ := c.t.d.def_ 23 (d := dd_places_of) rfl
  have F_places_of : FunD K "places_of" "places_of" (defArgs s_places_of) (defBody s_places_of) (defScope s_places_of) [] [] (He.fAd K ("places_of", none)) fd_places_of := F_places_of
  have D_places_of : Df K mg "places_of" s_places_of ["fields"] := ⟨He.fAd K ("places_of", none), fd_places_of, (He.glo_ok X G (c.t.d.fact 88 (f := .glo "places_of") rfl)), fun_ofD F_places_of, (FunD.bindsN (ps := ["fields"]) F_places_of fun _ _ _ _ _ _ us hl => match us, hl with | [_], _ => rfl)⟩
  obtain ⟨fd_Deald__initd_, F_Deald__initd_⟩ := c.t.d.def_ 24 (d := dd_Deald__initd_) rfl
  have F_Deald__initd_ : FunD K "__init__" "Deal.__init__" (defArgs s_Deald__initd_) (defBody s_Deald__initd_) (defScope s_Deald__initd_) [] [] (He.fAd K ("Deal", some "__init__")) fd_Deald__initd_ := F_Deald__initd_
  have D_Deald__initd_ : Dm K (He.ga K "Deal") "__init__" "Deal.__init__" s_Deald__initd_ ["self", "book", "zero", "one"] := ⟨T_Deal.cl, He.fAd K ("Deal", some "__init__"), fd_Deald__initd_, He.meth_ok (c.t.d.fact 89 (f := .meth "Deal" "__init__") rfl), fun_ofD F_Deald__initd_, (FunD.bindsN (ps := ["self", "book", "zero", "one"]) F_Deald__initd_ fun _ _ _ _ _ _ us hl => match us, hl with | [_, _, _, _], _ => rfl)⟩
  obtain ⟨fd_Deal_book, F_Deal_book⟩ := c.t.d.def_ 25 (d := dd_Deal_book) rfl
  have F_Deal_book : FunD K "book" "Deal.book" (defArgs s_Deal_book) (defBody s_Deal_book) (defScope s_Deal_book) [] [] (He.fAd K ("Deal", some "book")) fd_Deal_book := F_Deal_book
  have D_Deal_book : Dm K (He.ga K "Deal") "book" "Deal.book" s_Deal_book ["self"] := ⟨T_Deal.cl, He.fAd K ("Deal", some "book"), fd_Deal_book, He.meth_ok (c.t.d.fact 90 (f := .meth "Deal" "book") rfl), fun_ofD F_Deal_book, (FunD.bindsN (ps := ["self"]) F_Deal_book fun _ _ _ _ _ _ us hl => match us, hl with | [_], _ => rfl)⟩
  obtain ⟨fd_Deal_rows, F_Deal_rows⟩ := c.t.d.def_ 26 (d := dd_Deal_rows) rfl
  have F_Deal_rows : FunD K "rows" "Deal.rows" (defArgs s_Deal_rows) (defBody s_Deal_rows) (defScope s_Deal_rows) [] [] (He.fAd K ("Deal", some "rows")) fd_Deal_rows := F_Deal_rows
  have D_Deal_rows : Dm K (He.ga K "Deal") "rows" "Deal.rows" s_Deal_rows ["self", "field"] := ⟨T_Deal.cl, He.fAd K ("Deal", some "rows"), fd_Deal_rows, He.meth_ok (c.t.d.fact 91 (f := .meth "Deal" "rows") rfl), fun_ofD F_Deal_rows, (FunD.bindsN (ps := ["self", "field"]) F_Deal_rows fun _ _ _ _ _ _ us hl => match us, hl with | [_, _], _ => rfl)⟩
  obtain ⟨fd_Deal_cards, F_Deal_cards⟩ := c.t.d.def_ 27 (d := dd_Deal_cards) rfl
  have F_Deal_cards : FunD K "cards" "Deal.cards" (defArgs s_Deal_cards) (defBody s_Deal_cards) (defScope s_Deal_cards) [] [] (He.fAd K ("Deal", some "cards")) fd_Deal_cards := F_Deal_cards
  have D_Deal_cards : Dm K (He.ga K "Deal") "cards" "Deal.cards" s_Deal_cards ["self", "field"] := ⟨T_Deal.cl, He.fAd K ("Deal", some "cards"), fd_Deal_cards, He.meth_ok (c.t.d.fact 92 (f := .meth "Deal" "cards") rfl), fun_ofD F_Deal_cards, (FunD.bindsN (ps := ["self", "field"]) F_Deal_cards fun _ _ _ _ _ _ us hl => match us, hl with | [_, _], _ => rfl)⟩
  obtain ⟨fd_Deal_where, F_Deal_where⟩ := c.t.d.def_ 28 (d := dd_Deal_where) rfl
  have F_Deal_where : FunD K "where" "Deal.where" (defArgs s_Deal_where) (defBody s_Deal_where) (defScope s_Deal_where) [] [] (He.fAd K ("Deal", some "where")) fd_Deal_where := F_Deal_where
  have D_Deal_where : Dm K (He.ga K "Deal") "where" "Deal.where" s_Deal_where ["self", "verse"] := ⟨T_Deal.cl, He.fAd K ("Deal", some "where"), fd_Deal_where, He.meth_ok (c.t.d.fact 93 (f := .meth "Deal" "where") rfl), fun_ofD F_Deal_where, (FunD.bindsN (ps := ["self", "verse"]) F_Deal_where fun _ _ _ _ _ _ us hl => match us, hl with | [_, _], _ => rfl)⟩
  obtain ⟨fd__law_fields, F__law_fields⟩ := c.t.d.def_ 29 (d := dd__law_fields) rfl
  have F__law_fields : FunD K "_law_fields" "_law_fields" (defArgs s__law_fields) (defBody s__law_fields) (defScope s__law_fields) [] [] (He.fAd K ("_law_fields", none)) fd__law_fields := F__law_fields
  have D__law_fields : Df K mg "_law_fields" s__law_fields ["_law_many", "_law_d"] := ⟨He.fAd K ("_law_fields", none), fd__law_fields, (He.glo_ok X G (c.t.d.fact 94 (f := .glo "_law_fields") rfl)), fun_ofD F__law_fields, (FunD.bindsN (ps := ["_law_many", "_law_d"]) F__law_fields fun _ _ _ _ _ _ us hl => match us, hl with | [_, _], _ => rfl)⟩
  obtain ⟨fd__law_copy, F__law_copy⟩ := c.t.d.def_ 30 (d := dd__law_copy) rfl
  have F__law_copy : FunD K "_law_copy" "_law_copy" (defArgs s__law_copy) (defBody s__law_copy) (defScope s__law_copy) [] [] (He.fAd K ("_law_copy", none)) fd__law_copy := F__law_copy
  have D__law_copy : Df K mg "_law_copy" s__law_copy ["_law_rows"] := ⟨He.fAd K ("_law_copy", none), fd__law_copy, (He.glo_ok X G (c.t.d.fact 95 (f := .glo "_law_copy") rfl)), fun_ofD F__law_copy, (FunD.bindsN (ps := ["_law_rows"]) F__law_copy fun _ _ _ _ _ _ us hl => match us, hl with | [_], _ => rfl)⟩
  obtain ⟨fd__law_made, F__law_made⟩ := c.t.d.def_ 31 (d := dd__law_made) rfl
  have F__law_made : FunD K "_law_made" "_law_made" (defArgs s__law_made) (defBody s__law_made) (defScope s__law_made) [] [] (He.fAd K ("_law_made", none)) fd__law_made := F__law_made
  have D__law_made : Df K mg "_law_made" s__law_made ["_law_book_here", "_law_rows"] := ⟨He.fAd K ("_law_made", none), fd__law_made, (He.glo_ok X G (c.t.d.fact 96 (f := .glo "_law_made") rfl)), fun_ofD F__law_made, (FunD.bindsN (ps := ["_law_book_here", "_law_rows"]) F__law_made fun _ _ _ _ _ _ us hl => match us, hl with | [_, _], _ => rfl)⟩
  obtain ⟨fd__law_where, F__law_where⟩ := c.t.d.def_ 32 (d := dd__law_where) rfl
  have F__law_where : FunD K "_law_where" "_law_where" (defArgs s__law_where) (defBody s__law_where) (defScope s__law_where) [] [] (He.fAd K ("_law_where", none)) fd__law_where := F__law_where
  have D__law_where : Df K mg "_law_where" s__law_where ["_law_rows", "_law_verse_here"] := ⟨He.fAd K ("_law_where", none), fd__law_where, (He.glo_ok X G (c.t.d.fact 97 (f := .glo "_law_where") rfl)), fun_ofD F__law_where, (FunD.bindsN (ps := ["_law_rows", "_law_verse_here"]) F__law_where fun _ _ _ _ _ _ us hl => match us, hl with | [_, _], _ => rfl)⟩
  obtain ⟨fd__law_deal_told, F__law_deal_told⟩ := c.t.d.def_ 33 (d := dd__law_deal_told) rfl
  have F__law_deal_told : FunD K "_law_deal_told" "_law_deal_told" (defArgs s__law_deal_told) (defBody s__law_deal_told) (defScope s__law_deal_told) [] [] (He.fAd K ("_law_deal_told", none)) fd__law_deal_told := F__law_deal_told
  have D__law_deal_told : Df K mg "_law_deal_told" s__law_deal_told ["_law_deal", "_law_verses", "_law_rows"] := ⟨He.fAd K ("_law_deal_told", none), fd__law_deal_told, (He.glo_ok X G (c.t.d.fact 98 (f := .glo "_law_deal_told") rfl)), fun_ofD F__law_deal_told, (FunD.bindsN (ps := ["_law_deal", "_law_verses", "_law_rows"]) F__law_deal_told fun _ _ _ _ _ _ us hl => match us, hl with | [_, _, _], _ => rfl)⟩
  obtain ⟨fd_Table_deal, F_Table_deal⟩ := c.t.d.def_ 34 (d := dd_Table_deal) rfl
  have F_Table_deal : FunD K "deal" "Table.deal" (defArgs s_Table_deal) (defBody s_Table_deal) (defScope s_Table_deal) [] [] (He.fAd K ("Table", some "deal")) fd_Table_deal := F_Table_deal
  have D_Table_deal : Dm K (He.ga K "Table") "deal" "Table.deal" s_Table_deal ["self"] := ⟨T_Table.cl, He.fAd K ("Table", some "deal"), fd_Table_deal, He.meth_ok (c.t.d.fact 99 (f := .meth "Table" "deal") rfl), fun_ofD F_Table_deal, (FunD.bindsN (ps := ["self"]) F_Table_deal fun _ _ _ _ _ _ us hl => match us, hl with | [_], _ => rfl)⟩
  obtain ⟨fd_Table_touches, F_Table_touches⟩ := c.t.d.def_ 35 (d := dd_Table_touches) rfl
  have F_Table_touches : FunD K "touches" "Table.touches" (defArgs s_Table_touches) (defBody s_Table_touches) (defScope s_Table_touches) [] [] (He.fAd K ("Table", some "touches")) fd_Table_touches := F_Table_touches
  have D_Table_touches : Dm K (He.ga K "Table") "touches" "Table.touches" s_Table_touches ["self"] := ⟨T_Table.cl, He.fAd K ("Table", some "touches"), fd_Table_touches, He.meth_ok (c.t.d.fact 100 (f := .meth "Table" "touches") rfl), fun_ofD F_Table_touches, (FunD.bindsN (ps := ["self"]) F_Table_touches fun _ _ _ _ _ _ us hl => match us, hl with | [_], _ => rfl)⟩
  obtain ⟨fd_Table_readings, F_Table_readings⟩ := c.t.d.def_ 36 (d := dd_Table_readings) rfl
  have F_Table_readings : FunD K "readings" "Table.readings" (defArgs s_Table_readings) (defBody s_Table_readings) (defScope s_Table_readings) [] [] (He.fAd K ("Table", some "readings")) fd_Table_readings := F_Table_readings
  have D_Table_readings : Dm K (He.ga K "Table") "readings" "Table.readings" s_Table_readings ["self"] := ⟨T_Table.cl, He.fAd K ("Table", some "readings"), fd_Table_readings, He.meth_ok (c.t.d.fact 101 (f := .meth "Table" "readings") rfl), fun_ofD F_Table_readings, (FunD.bindsN (ps := ["self"]) F_Table_readings fun _ _ _ _ _ _ us hl => match us, hl with | [_], _ => rfl)⟩
  obtain ⟨fd_Table_score, F_Table_score⟩ := c.t.d.def_ 37 (d := dd_Table_score) rfl
  have F_Table_score : FunD K "score" "Table.score" (defArgs s_Table_score) (defBody s_Table_score) (defScope s_Table_score) [] [] (He.fAd K ("Table", some "score")) fd_Table_score := F_Table_score
  have D_Table_score : Dm K (He.ga K "Table") "score" "Table.score" s_Table_score ["self"] := ⟨T_Table.cl, He.fAd K ("Table", some "score"), fd_Table_score, He.meth_ok (c.t.d.fact 102 (f := .meth "Table" "score") rfl), fun_ofD F_Table_score, (FunD.bindsN (ps := ["self"]) F_Table_score fun _ _ _ _ _ _ us hl => match us, hl with | [_], _ => rfl)⟩
  obtain ⟨fd_Table_faults, F_Table_faults⟩ := c.t.d.def_ 38 (d := dd_Table_faults) rfl
  have F_Table_faults : FunD K "faults" "Table.faults" (defArgs s_Table_faults) (defBody s_Table_faults) (defScope s_Table_faults) [] [] (He.fAd K ("Table", some "faults")) fd_Table_faults := F_Table_faults
  have D_Table_faults : Dm K (He.ga K "Table") "faults" "Table.faults" s_Table_faults ["self"] := ⟨T_Table.cl, He.fAd K ("Table", some "faults"), fd_Table_faults, He.meth_ok (c.t.d.fact 103 (f := .meth "Table" "faults") rfl), fun_ofD F_Table_faults, (FunD.bindsN (ps := ["self"]) F_Table_faults fun _ _ _ _ _ _ us hl => match us, hl with | [_], _ => rfl)⟩
  obtain ⟨fd_Table_due, F_Table_due⟩ := c.t.d.def_ 39 (d := dd_Table_due) rfl
  have F_Table_due : FunD K "due" "Table.due" (defArgs s_Table_due) (defBody s_Table_due) (defScope s_Table_due) [] [] (He.fAd K ("Table", some "due")) fd_Table_due := F_Table_due
  have D_Table_due : Dm K (He.ga K "Table") "due" "Table.due" s_Table_due ["self"] := ⟨T_Table.cl, He.fAd K ("Table", some "due"), fd_Table_due, He.meth_ok (c.t.d.fact 104 (f := .meth "Table" "due") rfl), fun_ofD F_Table_due, (FunD.bindsN (ps := ["self"]) F_Table_due fun _ _ _ _ _ _ us hl => match us, hl with | [_], _ => rfl)⟩
  obtain ⟨fd_Table_under, F_Table_under⟩ := c.t.d.def_ 40 (d := dd_Table_under) rfl
  have F_Table_under : FunD K "under" "Table.under" (defArgs s_Table_under) (defBody s_Table_under) (defScope s_Table_under) [] [] (He.fAd K ("Table", some "under")) fd_Table_under := F_Table_under
  have D_Table_under : Dm K (He.ga K "Table") "under" "Table.under" s_Table_under ["self"] := ⟨T_Table.cl, He.fAd K ("Table", some "under"), fd_Table_under, He.meth_ok (c.t.d.fact 105 (f := .meth "Table" "under") rfl), fun_ofD F_Table_under, (FunD.bindsN (ps := ["self"]) F_Table_under fun _ _ _ _ _ _ us hl => match us, hl with | [_], _ => rfl)⟩
  obtain ⟨fd_Table_unread, F_Table_unread⟩ := c.t.d.def_ 41 (d := dd_Table_unread) rfl
  have F_Table_unread : FunD K "unread" "Table.unread" (defArgs s_Table_unread) (defBody s_Table_unread) (defScope s_Table_unread) [] [] (He.fAd K ("Table", some "unread")) fd_Table_unread := F_Table_unread
  have D_Table_unread : Dm K (He.ga K "Table") "unread" "Table.unread" s_Table_unread ["self"] := ⟨T_Table.cl, He.fAd K ("Table", some "unread"), fd_Table_unread, He.meth_ok (c.t.d.fact 106 (f := .meth "Table" "unread") rfl), fun_ofD F_Table_unread, (FunD.bindsN (ps := ["self"]) F_Table_unread fun _ _ _ _ _ _ us hl => match us, hl with | [_], _ => rfl)⟩
  obtain ⟨fd_Table_heard, F_Table_heard⟩ := c.t.d.def_ 42 (d := dd_Table_heard) rfl
  have F_Table_heard : FunD K "heard" "Table.heard" (defArgs s_Table_heard) (defBody s_Table_heard) (defScope s_Table_heard) [] [] (He.fAd K ("Table", some "heard")) fd_Table_heard := F_Table_heard
  have D_Table_heard : Dm K (He.ga K "Table") "heard" "Table.heard" s_Table_heard ["self"] := ⟨T_Table.cl, He.fAd K ("Table", some "heard"), fd_Table_heard, He.meth_ok (c.t.d.fact 107 (f := .meth "Table" "heard") rfl), fun_ofD F_Table_heard, (FunD.bindsN (ps := ["self"]) F_Table_heard fun _ _ _ _ _ _ us hl => match us, hl with | [_], _ => rfl)⟩
  obtain ⟨fd_Table_winner, F_Table_winner⟩ := c.t.d.def_ 43 (d := dd_Table_winner) rfl
  have F_Table_winner : FunD K "winner" "Table.winner" (defArgs s_Table_winner) (defBody s_Table_winner) (defScope s_Table_winner) [] [] (He.fAd K ("Table", some "winner")) fd_Table_winner := F_Table_winner
  have D_Table_winner : Dm K (He.ga K "Table") "winner" "Table.winner" s_Table_winner ["self"] := ⟨T_Table.cl, He.fAd K ("Table", some "winner"), fd_Table_winner, He.meth_ok (c.t.d.fact 108 (f := .meth "Table" "winner") rfl), fun_ofD F_Table_winner, (FunD.bindsN (ps := ["self"]) F_Table_winner fun _ _ _ _ _ _ us hl => match us, hl with | [_], _ => rfl)⟩
  obtain ⟨fd_Table_need_going, F_Table_need_going⟩ := c.t.d.def_ 44 (d := dd_Table_need_going) rfl
  have F_Table_need_going : FunD K "need_going" "Table.need_going" (defArgs s_Table_need_going) (defBody s_Table_need_going) (defScope s_Table_need_going) [] [] (He.fAd K ("Table", some "need_going")) fd_Table_need_going := F_Table_need_going
  have D_Table_need_going : Dm K (He.ga K "Table") "need_going" "Table.need_going" s_Table_need_going ["self"] := ⟨T_Table.cl, He.fAd K ("Table", some "need_going"), fd_Table_need_going, He.meth_ok (c.t.d.fact 109 (f := .meth "Table" "need_going") rfl), fun_ofD F_Table_need_going, (FunD.bindsN (ps := ["self"]) F_Table_need_going fun _ _ _ _ _ _ us hl => match us, hl with | [_], _ => rfl)⟩
  obtain ⟨fd_Table_need_quiet, F_Table_need_quiet⟩ := c.t.d.def_ 45 (d := dd_Table_need_quiet) rfl
  have F_Table_need_quiet : FunD K "need_quiet" "Table.need_quiet" (defArgs s_Table_need_quiet) (defBody s_Table_need_quiet) (defScope s_Table_need_quiet) [] [] (He.fAd K ("Table", some "need_quiet")) fd_Table_need_quiet := F_Table_need_quiet
  have D_Table_need_quiet : Dm K (He.ga K "Table") "need_quiet" "Table.need_quiet" s_Table_need_quiet ["self"] := ⟨T_Table.cl, He.fAd K ("Table", some "need_quiet"), fd_Table_need_quiet, He.meth_ok (c.t.d.fact 110 (f := .meth "Table" "need_quiet") rfl), fun_ofD F_Table_need_quiet, (FunD.bindsN (ps := ["self"]) F_Table_need_quiet fun _ _ _ _ _ _ us hl => match us, hl with | [_], _ => rfl)⟩
  obtain ⟨fd_Table_read, F_Table_read⟩ := c.t.d.def_ 46 (d := dd_Table_read) rfl
  have F_Table_read : FunD K "read" "Table.read" (defArgs s_Table_read) (defBody s_Table_read) (defScope s_Table_read) [] [] (He.fAd K ("Table", some "read")) fd_Table_read := F_Table_read
  have D_Table_read : Dm K (He.ga K "Table") "read" "Table.read" s_Table_read ["self", "verse"] := ⟨T_Table.cl, He.fAd K ("Table", some "read"), fd_Table_read, He.meth_ok (c.t.d.fact 111 (f := .meth "Table" "read") rfl), fun_ofD F_Table_read, (FunD.bindsN (ps := ["self", "verse"]) F_Table_read fun _ _ _ _ _ _ us hl => match us, hl with | [_, _], _ => rfl)⟩
  obtain ⟨fd_Tabled__initd_, F_Tabled__initd_⟩ := c.t.d.def_ 47 (d := dd_Tabled__initd_) rfl
  have F_Tabled__initd_ : FunD K "__init__" "Table.__init__" (defArgs s_Tabled__initd_) (defBody s_Tabled__initd_) (defScope s_Tabled__initd_) [] [] (He.fAd K ("Table", some "__init__")) fd_Tabled__initd_ := F_Tabled__initd_
  have D_Tabled__initd_ : Dm K (He.ga K "Table") "__init__" "Table.__init__" s_Tabled__initd_ ["self", "deal"] := ⟨T_Table.cl, He.fAd K ("Table", some "__init__"), fd_Tabled__initd_, He.meth_ok (c.t.d.fact 112 (f := .meth "Table" "__init__") rfl), fun_ofD F_Tabled__initd_, (FunD.bindsN (ps := ["self", "deal"]) F_Tabled__initd_ fun _ _ _ _ _ _ us hl => match us, hl with | [_, _], _ => rfl)⟩
  obtain ⟨fd__law_start, F__law_start⟩ := c.t.d.def_ 48 (d := dd__law_start) rfl
  have F__law_start : FunD K "_law_start" "_law_start" (defArgs s__law_start) (defBody s__law_start) (defScope s__law_start) [] [] (He.fAd K ("_law_start", none)) fd__law_start := F__law_start
  have D__law_start : Df K mg "_law_start" s__law_start ["_law_rows"] := ⟨He.fAd K ("_law_start", none), fd__law_start, (He.glo_ok X G (c.t.d.fact 113 (f := .glo "_law_start") rfl)), fun_ofD F__law_start, (FunD.bindsN (ps := ["_law_rows"]) F__law_start fun _ _ _ _ _ _ us hl => match us, hl with | [_], _ => rfl)⟩
  obtain ⟨fd__law_open, F__law_open⟩ := c.t.d.def_ 49 (d := dd__law_open) rfl
  have F__law_open : FunD K "_law_open" "_law_open" (defArgs s__law_open) (defBody s__law_open) (defScope s__law_open) [] [] (He.fAd K ("_law_open", none)) fd__law_open := F__law_open
  have D__law_open : Df K mg "_law_open" s__law_open ["_law_verses", "_law_t"] := ⟨He.fAd K ("_law_open", none), fd__law_open, (He.glo_ok X G (c.t.d.fact 114 (f := .glo "_law_open") rfl)), fun_ofD F__law_open, (FunD.bindsN (ps := ["_law_verses", "_law_t"]) F__law_open fun _ _ _ _ _ _ us hl => match us, hl with | [_, _], _ => rfl)⟩
  obtain ⟨fd__law_heard_now, F__law_heard_now⟩ := c.t.d.def_ 50 (d := dd__law_heard_now) rfl
  have F__law_heard_now : FunD K "_law_heard_now" "_law_heard_now" (defArgs s__law_heard_now) (defBody s__law_heard_now) (defScope s__law_heard_now) [] [] (He.fAd K ("_law_heard_now", none)) fd__law_heard_now := F__law_heard_now
  have D__law_heard_now : Df K mg "_law_heard_now" s__law_heard_now ["_law_verses", "_law_t"] := ⟨He.fAd K ("_law_heard_now", none), fd__law_heard_now, (He.glo_ok X G (c.t.d.fact 115 (f := .glo "_law_heard_now") rfl)), fun_ofD F__law_heard_now, (FunD.bindsN (ps := ["_law_verses", "_law_t"]) F__law_heard_now fun _ _ _ _ _ _ us hl => match us, hl with | [_, _], _ => rfl)⟩
  obtain ⟨fd__law_cards, F__law_cards⟩ := c.t.d.def_ 51 (d := dd__law_cards) rfl
  have F__law_cards : FunD K "_law_cards" "_law_cards" (defArgs s__law_cards) (defBody s__law_cards) (defScope s__law_cards) [] [] (He.fAd K ("_law_cards", none)) fd__law_cards := F__law_cards
  have D__law_cards : Df K mg "_law_cards" s__law_cards ["_law_rows", "_law_field"] := ⟨He.fAd K ("_law_cards", none), fd__law_cards, (He.glo_ok X G (c.t.d.fact 116 (f := .glo "_law_cards") rfl)), fun_ofD F__law_cards, (FunD.bindsN (ps := ["_law_rows", "_law_field"]) F__law_cards fun _ _ _ _ _ _ us hl => match us, hl with | [_, _], _ => rfl)⟩
  obtain ⟨fd__law_winner, F__law_winner⟩ := c.t.d.def_ 52 (d := dd__law_winner) rfl
  have F__law_winner : FunD K "_law_winner" "_law_winner" (defArgs s__law_winner) (defBody s__law_winner) (defScope s__law_winner) [] [] (He.fAd K ("_law_winner", none)) fd__law_winner := F__law_winner
  have D__law_winner : Df K mg "_law_winner" s__law_winner ["_law_t"] := ⟨He.fAd K ("_law_winner", none), fd__law_winner, (He.glo_ok X G (c.t.d.fact 117 (f := .glo "_law_winner") rfl)), fun_ofD F__law_winner, (FunD.bindsN (ps := ["_law_t"]) F__law_winner fun _ _ _ _ _ _ us hl => match us, hl with | [_], _ => rfl)⟩
  obtain ⟨fd__law_t_told, F__law_t_told⟩ := c.t.d.def_ 53 (d := dd__law_t_told) rfl
  have F__law_t_told : FunD K "_law_t_told" "_law_t_told" (defArgs s__law_t_told) (defBody s__law_t_told) (defScope s__law_t_told) [] [] (He.fAd K ("_law_t_told", none)) fd__law_t_told := F__law_t_told
  have D__law_t_told : Df K mg "_law_t_told" s__law_t_told ["_law_table", "_law_verses", "_law_t"] := ⟨He.fAd K ("_law_t_told", none), fd__law_t_told, (He.glo_ok X G (c.t.d.fact 118 (f := .glo "_law_t_told") rfl)), fun_ofD F__law_t_told, (FunD.bindsN (ps := ["_law_table", "_law_verses", "_law_t"]) F__law_t_told fun _ _ _ _ _ _ us hl => match us, hl with | [_, _, _], _ => rfl)⟩
  obtain ⟨fd__law_opened, F__law_opened⟩ := c.t.d.def_ 54 (d := dd__law_opened) rfl
  have F__law_opened : FunD K "_law_opened" "_law_opened" (defArgs s__law_opened) (defBody s__law_opened) (defScope s__law_opened) [] [] (He.fAd K ("_law_opened", none)) fd__law_opened := F__law_opened
  have D__law_opened : Df K mg "_law_opened" s__law_opened ["_law_deal"] := ⟨He.fAd K ("_law_opened", none), fd__law_opened, (He.glo_ok X G (c.t.d.fact 119 (f := .glo "_law_opened") rfl)), fun_ofD F__law_opened, (FunD.bindsN (ps := ["_law_deal"]) F__law_opened fun _ _ _ _ _ _ us hl => match us, hl with | [_], _ => rfl)⟩
  obtain ⟨fd_law, F_law⟩ := c.t.d.def_ 55 (d := dd_law) rfl
  have F_law : FunD K "law" "law" (defArgs s_law) (defBody s_law) (defScope s_law) [] [] (He.fAd K ("law", none)) fd_law := F_law
  have D_law : Df K mg "law" s_law ["_law_script"] := ⟨He.fAd K ("law", none), fd_law, (He.glo_ok X G (c.t.d.fact 120 (f := .glo "law") rfl)), fun_ofD F_law, (FunD.bindsN (ps := ["_law_script"]) F_law fun _ _ _ _ _ _ us hl => match us, hl with | [_], _ => rfl)⟩
  have e := hfa.symm.trans (He.glo_ok X G (c.t.d.fact 120 (f := .glo "law") rfl))
  cases e
  refine ⟨fd_law, [], spLaw K, (fun _ h => nomatch h), (fun _ h => nomatch h), (fun _ h => nomatch h), fun s v => FunD.bindsA (ps := ["_law_script"]) F_law (fun _ _ _ _ _ _ us hl => match us, hl with | [_], _ => rfl) s [v] rfl, fun H a ns hl _ _ hS => ⟨a, ns, rfl, hS, hl, fun _ => rfl⟩, fun base _ _ _ => ?_⟩
  have X_BadVerse : Xi l.prog w K mg base "BadVerse" (He.ga K "BadVerse") ["row"] := ⟨(He.glo_ok X G (c.t.d.fact 27 (f := .glo "BadVerse") rfl)), z_BadVerse.1, _, fd_BadVersed__initd_, ["self", "row"], z_BadVerse.2.1, z_BadVerse.2.2, (FunD.bindsN (ps := ["self", "row"]) F_BadVersed__initd_ fun _ _ _ _ _ _ us hl => match us, hl with | [_, _], _ => rfl), okx_BadVerse z_BadVerse.1 (He.noat_ok (c.t.d.fact 28 (f := .noat "BadVerse" "row") rfl)) (fun_ofD F_BadVersed__initd_)⟩
  have X_Alike : Xi l.prog w K mg base "Alike" (He.ga K "Alike") ["one", "other"] := ⟨(He.glo_ok X G (c.t.d.fact 29 (f := .glo "Alike") rfl)), z_Alike.1, _, fd_Aliked__initd_, ["self", "one", "other"], z_Alike.2.1, z_Alike.2.2, (FunD.bindsN (ps := ["self", "one", "other"]) F_Aliked__initd_ fun _ _ _ _ _ _ us hl => match us, hl with | [_, _, _], _ => rfl), okx_Alike z_Alike.1 (He.noat_ok (c.t.d.fact 30 (f := .noat "Alike" "one") rfl)) (He.noat_ok (c.t.d.fact 31 (f := .noat "Alike" "other") rfl)) (fun_ofD F_Aliked__initd_)⟩
  have O__law_numbers := ok__law_numbers (P := l.prog) (w := w) (base := base) B D__law_numbers
  have O__law_same := ok__law_same (P := l.prog) (w := w) (base := base) B D__law_same
  have O_is_syllable := ok_is_syllable (P := l.prog) (w := w) (base := base) B c_LETTERS c_MOST_SIGNS D_is_syllable
  have O_is_verse := ok_is_verse (P := l.prog) (w := w) (base := base) B c_MOST_SYLLABLES O_is_syllable D_is_verse
  have O_begins := ok_begins (P := l.prog) (w := w) (base := base) B D_begins
  have O_alike := ok_alike (P := l.prog) (w := w) (base := base) B O_begins D_alike
  have O_need_verses := ok_need_verses (P := l.prog) (w := w) (base := base) (C_BadBook := (He.ga K "BadBook")) (C_BadVerse := (He.ga K "BadVerse")) (C_Alike := (He.ga K "Alike")) B c_MOST_VERSES X_BadBook X_BadVerse X_Alike O_is_verse O_alike D_need_verses
  have O_Bookd__initd_ := ok_Bookd__initd_ (P := l.prog) (w := w) (base := base) (C_Book := (He.ga K "Book")) B T_Book O_need_verses D_Bookd__initd_
  have O_Book := O_Bookd__initd_.make (He.glo_ok X G (c.t.d.fact 50 (f := .glo "Book") rfl)) (mkr_ok (c.t.d.fact 121 (f := .mkr "Book") rfl)).1 (mkr_ok (c.t.d.fact 121 (f := .mkr "Book") rfl)).2
  have O_Book_many := ok_Book_many (P := l.prog) (w := w) (base := base) (C_Book := (He.ga K "Book")) B T_Book D_Book_many
  have O_Book_verse := ok_Book_verse (P := l.prog) (w := w) (base := base) (C_Book := (He.ga K "Book")) (C_NoVerse := (He.ga K "NoVerse")) B T_Book X_NoVerse D_Book_verse
  have O_Book_verses := ok_Book_verses (P := l.prog) (w := w) (base := base) (C_Book := (He.ga K "Book")) B T_Book D_Book_verses
  have O__law_sound := ok__law_sound (P := l.prog) (w := w) (base := base) B D__law_sound
  have O__law_pool := ok__law_pool (P := l.prog) (w := w) (base := base) B O__law_sound D__law_pool
  have O__law_alike := ok__law_alike (P := l.prog) (w := w) (base := base) B D__law_alike
  have O__law_verse := ok__law_verse (P := l.prog) (w := w) (base := base) B D__law_verse
  have O__law_wide := ok__law_wide (P := l.prog) (w := w) (base := base) B D__law_wide
  have O__law_book := ok__law_book (P := l.prog) (w := w) (base := base) B O__law_pool O__law_verse O__law_wide O__law_alike D__law_book
  have O__law_book_told := ok__law_book_told (P := l.prog) (w := w) (base := base) (C_Book := (He.ga K "Book")) B O_Book_many O_Book_verse O_Book_verses O__law_same D__law_book_told
  have O_need_numbers := ok_need_numbers (P := l.prog) (w := w) (base := base) (C_Book := (He.ga K "Book")) (C_NoVerse := (He.ga K "NoVerse")) B X_NoVerse O_Book_many D_need_numbers
  have O_copied := ok_copied (P := l.prog) (w := w) (base := base) B D_copied
  have O_need_field := ok_need_field (P := l.prog) (w := w) (base := base) (C_Book := (He.ga K "Book")) (C_BadDeal := (He.ga K "BadDeal")) B c_MOST_ROWS c_MOST_CARDS X_BadDeal O_Book_many D_need_field
  have O_places_of := ok_places_of (P := l.prog) (w := w) (base := base) (C_BadDeal := (He.ga K "BadDeal")) B X_BadDeal D_places_of
  have O_Deald__initd_ := ok_Deald__initd_ (P := l.prog) (w := w) (base := base) (C_Book := (He.ga K "Book")) (C_Deal := (He.ga K "Deal")) B T_Deal O_need_field O_copied O_places_of D_Deald__initd_
  have O_Deal := O_Deald__initd_.make (He.glo_ok X G (c.t.d.fact 53 (f := .glo "Deal") rfl)) (mkr_ok (c.t.d.fact 122 (f := .mkr "Deal") rfl)).1 (mkr_ok (c.t.d.fact 122 (f := .mkr "Deal") rfl)).2
  have O_Deal_book := ok_Deal_book (P := l.prog) (w := w) (base := base) (C_Deal := (He.ga K "Deal")) B T_Deal D_Deal_book
  have O_Deal_rows := ok_Deal_rows (P := l.prog) (w := w) (base := base) (C_Deal := (He.ga K "Deal")) (C_NoField := (He.ga K "NoField")) B T_Deal X_NoField O_copied D_Deal_rows
  have O_Deal_cards := ok_Deal_cards (P := l.prog) (w := w) (base := base) (C_Deal := (He.ga K "Deal")) B O_Deal_rows D_Deal_cards
  have O_Deal_where := ok_Deal_where (P := l.prog) (w := w) (base := base) (C_Book := (He.ga K "Book")) (C_Deal := (He.ga K "Deal")) B T_Deal O_need_numbers D_Deal_where
  have O__law_fields := ok__law_fields (P := l.prog) (w := w) (base := base) B D__law_fields
  have O__law_copy := ok__law_copy (P := l.prog) (w := w) (base := base) B D__law_copy
  have O__law_made := ok__law_made (P := l.prog) (w := w) (base := base) (C_Book := (He.ga K "Book")) (C_Deal := (He.ga K "Deal")) B O__law_copy O_Deal D__law_made
  have O__law_where := ok__law_where (P := l.prog) (w := w) (base := base) B D__law_where
  have O__law_deal_told := ok__law_deal_told (P := l.prog) (w := w) (base := base) (C_Book := (He.ga K "Book")) (C_Deal := (He.ga K "Deal")) B O_Deal_book O_Deal_rows O_Deal_cards O_Deal_where O__law_same O__law_book_told O__law_where D__law_deal_told
  have O_Table_deal := ok_Table_deal (P := l.prog) (w := w) (base := base) (C_Book := (He.ga K "Book")) (C_Deal := (He.ga K "Deal")) (C_Table := (He.ga K "Table")) B T_Table D_Table_deal
  have O_Table_touches := ok_Table_touches (P := l.prog) (w := w) (base := base) (C_Book := (He.ga K "Book")) (C_Deal := (He.ga K "Deal")) (C_Table := (He.ga K "Table")) B T_Table D_Table_touches
  have O_Table_readings := ok_Table_readings (P := l.prog) (w := w) (base := base) (C_Book := (He.ga K "Book")) (C_Deal := (He.ga K "Deal")) (C_Table := (He.ga K "Table")) B T_Table D_Table_readings
  have O_Table_score := ok_Table_score (P := l.prog) (w := w) (base := base) (C_Book := (He.ga K "Book")) (C_Deal := (He.ga K "Deal")) (C_Table := (He.ga K "Table")) B T_Table D_Table_score
  have O_Table_faults := ok_Table_faults (P := l.prog) (w := w) (base := base) (C_Book := (He.ga K "Book")) (C_Deal := (He.ga K "Deal")) (C_Table := (He.ga K "Table")) B T_Table D_Table_faults
  have O_Table_due := ok_Table_due (P := l.prog) (w := w) (base := base) (C_Book := (He.ga K "Book")) (C_Deal := (He.ga K "Deal")) (C_Table := (He.ga K "Table")) B T_Table D_Table_due
  have O_Table_under := ok_Table_under (P := l.prog) (w := w) (base := base) (C_Book := (He.ga K "Book")) (C_Deal := (He.ga K "Deal")) (C_Table := (He.ga K "Table")) B T_Table D_Table_under
  have O_Table_unread := ok_Table_unread (P := l.prog) (w := w) (base := base) (C_Book := (He.ga K "Book")) (C_Deal := (He.ga K "Deal")) (C_Table := (He.ga K "Table")) B T_Table O_Book_many O_Deal_book D_Table_unread
  have O_Table_heard := ok_Table_heard (P := l.prog) (w := w) (base := base) (C_Book := (He.ga K "Book")) (C_Deal := (He.ga K "Deal")) (C_Table := (He.ga K "Table")) B T_Table O_Book_verse O_Deal_book D_Table_heard
  have O_Table_winner := ok_Table_winner (P := l.prog) (w := w) (base := base) (C_Book := (He.ga K "Book")) (C_Deal := (He.ga K "Deal")) (C_Table := (He.ga K "Table")) B T_Table O_Deal_cards D_Table_winner
  have O_Table_need_going := ok_Table_need_going (P := l.prog) (w := w) (base := base) (C_Book := (He.ga K "Book")) (C_Deal := (He.ga K "Deal")) (C_Over := (He.ga K "Over")) (C_Table := (He.ga K "Table")) B X_Over O_Table_winner D_Table_need_going
  have O_Table_need_quiet := ok_Table_need_quiet (P := l.prog) (w := w) (base := base) (C_Book := (He.ga K "Book")) (C_Deal := (He.ga K "Deal")) (C_Reading := (He.ga K "Reading")) (C_Table := (He.ga K "Table")) B T_Table X_Reading D_Table_need_quiet
  have O_Table_read := ok_Table_read (P := l.prog) (w := w) (base := base) (C_Book := (He.ga K "Book")) (C_Deal := (He.ga K "Deal")) (C_GiftDue := (He.ga K "GiftDue")) (C_ReadAlready := (He.ga K "ReadAlready")) (C_Table := (He.ga K "Table")) B T_Table X_GiftDue X_ReadAlready O_Deal_where O_Table_need_going O_Table_need_quiet O_Table_unread D_Table_read
  have O_Tabled__initd_ := ok_Tabled__initd_ (P := l.prog) (w := w) (base := base) (C_BadDeal := (He.ga K "BadDeal")) (C_Book := (He.ga K "Book")) (C_Deal := (He.ga K "Deal")) (C_Table := (He.ga K "Table")) B T_Table X_BadDeal O_Deal_cards D_Tabled__initd_
  have O_Table := O_Tabled__initd_.make (He.glo_ok X G (c.t.d.fact 58 (f := .glo "Table") rfl)) (mkr_ok (c.t.d.fact 123 (f := .mkr "Table") rfl)).1 (mkr_ok (c.t.d.fact 123 (f := .mkr "Table") rfl)).2
  have O__law_start := ok__law_start (P := l.prog) (w := w) (base := base) B D__law_start
  have O__law_open := ok__law_open (P := l.prog) (w := w) (base := base) B D__law_open
  have O__law_heard_now := ok__law_heard_now (P := l.prog) (w := w) (base := base) B D__law_heard_now
  have O__law_cards := ok__law_cards (P := l.prog) (w := w) (base := base) B D__law_cards
  have O__law_winner := ok__law_winner (P := l.prog) (w := w) (base := base) B O__law_cards D__law_winner
  have O__law_t_told := ok__law_t_told (P := l.prog) (w := w) (base := base) (C_Book := (He.ga K "Book")) (C_Deal := (He.ga K "Deal")) (C_Table := (He.ga K "Table")) B O_Deal_rows O_Table_deal O_Table_due O_Table_faults O_Table_heard O_Table_readings O_Table_score O_Table_touches O_Table_under O_Table_unread O_Table_winner O__law_heard_now O__law_open O__law_same O__law_winner D__law_t_told
  have O__law_opened := ok__law_opened (P := l.prog) (w := w) (base := base) (C_BadDeal := (He.ga K "BadDeal")) (C_Book := (He.ga K "Book")) (C_Deal := (He.ga K "Deal")) (C_SnatchError := (He.ga K "SnatchError")) (C_Table := (He.ga K "Table")) B X_BadDeal X_SnatchError E_BadDeal_BadDeal O_Table D__law_opened
  have O_law := ok_law (P := l.prog) (w := w) (base := base) (C_Book := (He.ga K "Book")) (C_Deal := (He.ga K "Deal")) (C_Table := (He.ga K "Table")) B O_Book O_Table O_Table_deal O_Table_read O__law_book O__law_cards O__law_copy O__law_deal_told O__law_fields O__law_made O__law_numbers O__law_opened O__law_start O__law_t_told D_law
  exact Ok.fn O_law (He.glo_ok X G (c.t.d.fact 120 (f := .glo "law") rfl)) (fun_ofD F_law)
end Kj
open PySem PySem.W PySem.Calls PyProof.Rows
set_option maxHeartbeats 0 in
theorem PySem.Challenge.cw_kimariji_k43_tables_opened_holds : PySem.Challenge.rw_kimariji_k43_tables_opened.Holds := by
  w_on; o_law
  refine HandSHeadRun.head_any (r := OpenLaw.row PySem.Challenge.rw_kimariji_k43_tables_opened) (q := view (OpenLaw.row PySem.Challenge.rw_kimariji_k43_tables_opened).prog [66]) (H := Kj.hk_) (ob := Kj.ob_) (M := 12000) (loose := Kj.nm_) (d := HandSHeadRun.topDef (OpenLaw.row PySem.Challenge.rw_kimariji_k43_tables_opened).prog 66) (kwd := []) Kj.ob_eq
    (by kernel_rfl) (fun s => by kernel_rfl) Kj.run_ (by kernel_rfl) (by kernel_rfl) (by kernel_rfl) (by rfl) (by first | assumption | decide +kernel) (by decide +kernel) ⟨rfl, rfl, rfl, rfl, rfl, by decide +kernel⟩ ?hw ?hc
  case hw => w_witness2
  case hc =>
    refine LamX.walk_ofTsE (l := PySem.Challenge.rw_kimariji_k43_tables_opened) (n := 63) (k := 7) (x := "_law_script") (CX := fun w => L2.CX PySem.Challenge.rw_kimariji_k43_tables_opened.prog w) rfl (by decide) (by kernel_rfl) ⟨rfl, by decide, by decide⟩ ?F (fun _ _ _ _ _ z => Kj.cx_none z)
    intro w mg fa h Y G hmg0
    obtain ⟨K, KX, c⟩ := Y
    have hmg : mg ("law" : PySem.Str) = some (.ref fa) := by
      have e : (HandSHeadRun.topDef (OpenLaw.row PySem.Challenge.rw_kimariji_k43_tables_opened).prog 66).name = ("law" : PySem.Str) := by kernel_rfl
      rw [← e]
      exact hmg0
    exact ⟨K, KX, Kj.all_mkH KX G hmg c⟩
#print axioms PySem.Challenge.cw_kimariji_k43_tables_opened_holds
