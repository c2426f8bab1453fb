import PyProof.Rows.All
import Wide.All
import OpenK.AllK
import Wide.FinOn
import PySem.Challenge.RW_kimariji_k56_books_written_and_read
import HandS.ForMost
import HandS.ForExc
import HandS.Evl
import HandS.Wide
import HandS.IsInst
import HandS.TryMany
import HandS.TryOnly
import HandS.SortInts
import HandS.Deep
import HandS.RaiseMore
import HandS.Conv
import HandS.Zip
import HandS.ExcInit
import HandS.ExcField
import HandS.TupAny
import HandS.Style
import HandS.SortKw
import KE.DatumOrd
import KE.KDictZip
import KE.KItemsList
import HandS.ListItems
import HandS.SetFor
import HandS.DictTup
import HandS.Strs
import HandS.Dict
import HandS.Lambda
import HandS.Defaults
import HandS.Head0
import HandS.Head1
import HandS.Head2
import HandS.HeadEnd
import HandS.HeadHook1
import HandS.HeadHook2
import HandS.HeadHook3
import HandS.HeadHook4
import HandS.HeadWalk
import HandS.ExcIs
import HandS.DeepEq
import PyProof.EqAt
import HandS.WordsDict
set_option Elab.async false
set_option linter.all false
set_option maxRecDepth 100000
set_option maxHeartbeats 2000000
/-! Kj0: one rule a construct, whatever the kinds of its values; defs, methods and classes by their promises alone. -/
namespace Kj
open PySem PySem.Spec PyProof.Rows L2 Evl
/-! ### operators, whatever the kinds -/
section
variable {X : Cx}
def rAddS : R2 := fun x y H Q => ∃ i j, x = .str i ∧ y = .str j ∧ i.length + j.length ≤ sizeLine ∧ Q (.str (i ++ j)) H
def rAddU (K : PySem.W.Frag) : R2 := fun x y H Q => (rI0 (fun i j => .int (i + j)) x y H Q ∨ rAddS x y H Q) ∨ (rCat x y H Q ∨ rCatT K x y H Q)
theorem op_addU : OpR X (binaryOp .Add) (rAddU X.K) := (OpR.or op_add op_add_str).or (OpR.or op_cat op_catT)
def rMulS : R2 := fun x y H Q => ∃ a n, x = .str a ∧ y = .int n ∧ MulOk a n ∧ Q (.str (Txt.mul a n)) H
theorem op_mulS : OpR X (binaryOp .Mult) rMulS := by
  intro pins s σ H x y v u Q I rx ry h
  obtain ⟨a, n, rfl, rfl, hc, q⟩ := h
  obtain ⟨t, rfl⟩ := rx
  obtain ⟨t', rfl⟩ := ry
  exact SB.mul hc fun t' k => ⟨.str (Txt.mul a n), H, I.tok _, ⟨_, rfl⟩, q⟩
def rMulU : R2 := fun x y H Q => (rI CMulW (fun i j => .int (i * j)) x y H Q ∨ rRep x y H Q) ∨ rMulS x y H Q
theorem op_mulU : OpR X (binaryOp .Mult) rMulU := (OpR.or op_mulW op_rep).or op_mulS
def rEqU (K : PySem.W.Frag) : R2 := fun x y H Q => rEq x y H Q ∨ rEqD K x y H Q
def rNeU (K : PySem.W.Frag) : R2 := fun x y H Q => rNe x y H Q ∨ rNeD K x y H Q
theorem op_eqU (hu : X.A.units + 65 < cLine) : OpR X (compareOp .Eq) (rEqU X.K) := OpR.or op_eq (op_eqD (by omega))
theorem op_neU (hu : X.A.units + 65 < cLine) : OpR X (compareOp .NotEq) (rNeU X.K) := OpR.or op_ne (op_neD (by omega))
def rSign : R2 := fun x y H Q => ∃ (c : Nat) (z : Str), x = .str ⟨#[c]⟩ ∧ y = .str z ∧ Q (.bl (decide (c ∈ z.cps.toList))) H
def rInU (K : PySem.W.Frag) : R2 := fun x y H Q => (rIn K false x y H Q ∨ rSign x y H Q) ∨ rInD K x y H Q
theorem op_inU (hu : X.A.units + 65 < cLine) : OpR X (compareOp .In) (rInU X.K) := (OpR.or op_in_seq op_in_sign).or (op_inD hu)
def rSlU (K : PySem.W.Frag) : V → Option Int → Option Int → Hp → VK → Prop := fun x lo hi H Q => (rSlL K x lo hi H Q ∨ rSlA K x lo hi H Q) ∨ rSlS x lo hi H Q
theorem sl_U : SlR X (rSlU X.K) := (SlR.or sl_list sl_tupA).or sl_str
def rLenU (K : PySem.W.Frag) : List V → Hp → VK → Prop := fun xs H Q => rLenS K xs H Q ∨ ∃ z, xs = [V.str z] ∧ z.length ≤ sizeLine ∧ Q (.int z.length) H
theorem call_lenU : CallR X (.builtin "len") (rLenU X.K) := CallR.or call_len_seq call_len_str
end
/-! ### the same, the written part told by name (a try's body and a comprehension's block have contexts of their own) -/
section
variable {X : Cx} (K : PySem.W.Frag)
theorem k_op {f : Value → Value → Sem Value} {r : PySem.W.Frag → R2} (h : OpR X f (r X.K)) (hK : X.K = K) : OpR X f (r K) := hK ▸ h
theorem op_addK (hK : X.K = K := by rfl) : OpR X (binaryOp .Add) (rAddU K) := k_op K op_addU hK
theorem op_eqK (hu : X.A.units + 65 < cLine) (hK : X.K = K := by rfl) : OpR X (compareOp .Eq) (rEqU K) := k_op K (op_eqU hu) hK
theorem op_neK (hu : X.A.units + 65 < cLine) (hK : X.K = K := by rfl) : OpR X (compareOp .NotEq) (rNeU K) := k_op K (op_neU hu) hK
theorem op_inK (hu : X.A.units + 65 < cLine) (hK : X.K = K := by rfl) : OpR X (compareOp .In) (rInU K) := k_op K (op_inU hu) hK
theorem ix_seqK (hK : X.K = K := by rfl) : IxR X (rIx K) := by subst hK; exact ix_seq
theorem sl_K (hK : X.K = K := by rfl) : SlR X (rSlU K) := by subst hK; exact sl_U
theorem call_lenK (hK : X.K = K := by rfl) : CallR X (.builtin "len") (rLenU K) := by subst hK; exact call_lenU
theorem cr_anyK (hc : X.calm = true) (hK : X.K = K := by rfl) : CallR X (.builtin "any") (rAny K) := by subst hK; exact cr_any hc
theorem cr_allK (hc : X.calm = true) (hK : X.K = K := by rfl) : CallR X (.builtin "all") (rAll K) := by subst hK; exact cr_all hc
def rIsiU (K : PySem.W.Frag) : List V → Hp → VK → Prop := fun xs H Q => rIsi K xs H Q ∨ rIsiT K xs H Q
theorem call_isiK' (hK : X.K = K := by rfl) : CallR X (.builtin "isinstance") (rIsiU K) := by subst hK; exact CallR.or call_isi call_isiT
theorem call_listK (hK : X.K = K := by rfl) : CallR X (.type "list") (rListS K) := by subst hK; exact call_list_of
def rJoin (K : PySem.W.Frag) : V → List V → Hp → VK → Prop := fun x xs H Q => ∃ a p, ∃ ys : List Str, x = .str a ∧ xs = [.ref p] ∧ (SqL K H p (ys.map V.str) ∨ SqT K H p (ys.map V.str)) ∧ (ys.map (·.length)).sum + ys.length * a.length ≤ 16777216 ∧ Q (.str (Txt.join a ys)) H
theorem mt_joinK (hK : X.K = K := by rfl) : MtR X "str.join" (rJoin K) := by subst hK; exact mt_join
theorem pi_listK {tg l : Expr} {tl : TE} (hl : PE X l tl) (hK : X.K = K := by rfl) : PI X tg l (iList K tl) := by subst hK; exact pi_list hl
theorem pi_enumK {e : Expr} {ta : TA} {p pos tpos : Pos} {elts : List Expr} {kk : Nat} (hg : Gl X "enumerate") (hm : X.mg "enumerate" = none) (ha : PA X [e] ta) (hs : starEach [e] X.env = [(false, eval e X.env)] := by rfl) (hK : X.K = K := by rfl) :
    PI X (.Tuple elts kk tpos) (.Call (.Name "enumerate" p) [e] [] pos) (iEnum K ta) := by subst hK; exact pi_enum hg hm ha hs
theorem pi_zipK {e e2 : Expr} {ta : TA} {p pos tpos : Pos} {elts : List Expr} {kk : Nat} (hg : Gl X "zip") (hm : X.mg "zip" = none) (ha : PA X [e, e2] ta)
    (hs : starEach [e, e2] X.env = (false, eval e X.env) :: starEach [e2] X.env := by rfl) (hpl : (backTo pos (starEach [e2] X.env)).any (·.1) = false := by rfl) (hK : X.K = K := by rfl) :
    PI X (.Tuple elts kk tpos) (.Call (.Name "zip" p) [e, e2] [] pos) (RZ.iZipA K ta) := by subst hK; exact RZ.pi_zipA hg hm ha hs hpl
theorem pg_tupK {es : List Expr} {k : Nat} {t : TGs} {n : Nat} {pos : Pos} (hc : X.calm = true) (h : PGs X es t)
    (hn : (assignEach es X.env).length = n := by rfl) (hst : (assignEach es X.env).findIdx? (·.1) = none := by rfl) (hK : X.K = K := by rfl) : PG X (.Tuple es k pos) (gTup K n t) := by subst hK; exact pg_tup hc h hn hst
theorem pe_fldK {e : Expr} {f : Str} {ta : TE} {pos : Pos} (he : PE X e ta) (hb : attributeBase e f X.env (eval e X.env) = eval e X.env := by rfl) (hK : X.K = K := by rfl) : PE X (.Attribute e f pos) (tFld K ta f) := by subst hK; exact pe_fld he hb
theorem pe_bmK {o e : Expr} {es : List Expr} {name : Str} {T id : String} {r : V → List V → Hp → VK → Prop} {to : TE} {t : TA} {apos cpos : Pos} (pa : PlainAttrs T) (slot : Slot T name id) (hty : typeOf (.builtin id) = pure (.type "method_descriptor")) (hm : MtR X id r) (ho : PE X o to) (ha : PA X (e :: es) t)
    (hbase : attributeBase o name X.env (eval o X.env) = eval o X.env := by rfl)
    (hfew : ((backTo cpos (starEach (e :: es) X.env)).all (fun x => !x.1) && (backToKw cpos (keywordEach [] X.env)).all (fun x => x.1.isSome)
      && decide ((e :: es).length + ([] : List Keyword).length + (if ([] : List Keyword).isEmpty then 0 else 1) < 30)) = true := by rfl)
    (hline : (apos.endLine == cpos.line) = true := by rfl) (hs : starEach (e :: es) X.env = (false, eval e X.env) :: starEach es X.env := by rfl) (hplain : (backTo cpos (starEach es X.env)).any (·.1) = false := by rfl) (hK : X.K = K := by rfl) :
    PE X (.Call (.Attribute o name apos) (e :: es) [] cpos) (tBM K T r to t) := by subst hK; exact pe_bm pa slot hty hm ho ha hbase hfew hline hs hplain
theorem ps_fldK {o value : Expr} {f : Str} {ta tv : TE} {pos pos' : Pos} (ha : PE X o ta) (hv : PE X value tv) (hs : swapsWith value (some (.Attribute o f pos')) pos.line X.env = pure false := by rfl) (hK : X.K = K := by rfl) : PS X (.Assign [.Attribute o f pos'] value pos) (sFld K ta tv f) := by subst hK; exact ps_fld ha hv hs
end
/-! ### room -/
theorem hu65 {A : Around} {k : Nat} (hr : Room k A) : A.units + 65 < cLine := by have := hr.un; omega
/-! ### builtin names that the text leaves as they are -/
structure Bt (mg : Str → Option Value) : Prop where
  abs : mg "abs" = none
  all : mg "all" = none
  any : mg "any" = none
  dict : mg "dict" = none
  enumerate : mg "enumerate" = none
  int : mg "int" = none
  isinstance : mg "isinstance" = none
  len : mg "len" = none
  list : mg "list" = none
  max : mg "max" = none
  min : mg "min" = none
  range : mg "range" = none
  sorted : mg "sorted" = none
  str : mg "str" = none
  sum : mg "sum" = none
  tuple : mg "tuple" = none
  zip : mg "zip" = none
  bool : mg "bool" = none
  set : mg "set" = none
theorem boot_b_all : bootBuiltins "all" = some (.builtin "all") := by decide +kernel
theorem boot_b_any : bootBuiltins "any" = some (.builtin "any") := by decide +kernel
theorem boot_b_len : bootBuiltins "len" = some (.builtin "len") := by decide +kernel
theorem boot_b_min : bootBuiltins "min" = some (.builtin "min") := by decide +kernel
theorem boot_b_isinstance : bootBuiltins "isinstance" = some (.builtin "isinstance") := by decide +kernel
theorem boot_ty_int : bootBuiltins "int" = some (.type "int") := by decide +kernel
theorem boot_ty_list : bootBuiltins "list" = some (.type "list") := by decide +kernel
theorem boot_ty_str : bootBuiltins "str" = some (.type "str") := by decide +kernel
theorem boot_ty_tuple : bootBuiltins "tuple" = some (.type "tuple") := by decide +kernel
theorem boot_ty_bool : bootBuiltins "bool" = some (.type "bool") := by decide +kernel
/-! ### defs by their promises -/
/-- the def that stands behind the name x keeps sp -/
structure Ok (P : Program) (w : World) (K : PySem.W.Frag) (mg : Str → Option Value) (base : Heap) (k : Nat) (x : Str) (ps : List Str) (sp : Sp) : Prop where
  ex : ∃ f fd, mg x = some (.ref f) ∧ PySem.W.keepIn K (.ref f) = true ∧ Binds K fd ps [] ∧ FnOk P w K mg base (L2.CX P w) k f fd ps sp ∧ ∃ oc od osl, K.lookup f = some ⟨oc, od, .func fd, osl⟩
/-- a def of the text -/
structure Df (K : PySem.W.Frag) (mg : Str → Option Value) (x : Str) (st : Stmt) (ps : List Str) : Prop where
  ex : ∃ f fd, mg x = some (.ref f) ∧ Fun K x x st f fd ∧ Binds K fd ps []
/-- the method m of the class at C keeps sp -/
structure OkM (P : Program) (w : World) (K : PySem.W.Frag) (mg : Str → Option Value) (base : Heap) (k : Nat) (C : Addr) (m : Str) (ps : List Str) (sp : Sp) : Prop where
  cls : Cls K C
  ex : ∃ f fd, Meth K C m f ∧ Binds K fd ps [] ∧ FnOk P w K mg base (L2.CX P w) k f fd ps sp
/-- a method of the text -/
structure Dm (K : PySem.W.Frag) (C : Addr) (m q : Str) (st : Stmt) (ps : List Str) : Prop where
  cls : Cls K C
  ex : ∃ f fd, Meth K C m f ∧ Fun K m q st f fd ∧ Binds K fd ps []
/-- the class behind the name x is made by an __init__ that keeps sp -/
structure OkC (P : Program) (w : World) (K : PySem.W.Frag) (mg : Str → Option Value) (base : Heap) (k : Nat) (C : Addr) (x : Str) (ps : List Str) (sp : Sp) : Prop where
  g : mg x = some (.ref C)
  ex : ∃ f fd, Mk K C f ∧ Binds K fd ps [] ∧ FnOk P w K mg base (L2.CX P w) k f fd ps sp
section
variable {P : Program} {w : World} {K : PySem.W.Frag} {mg : Str → Option Value} {base : Heap}
theorem Df.ok {x : Str} {st : Stmt} {N ps : List Str} {k : Nat} {sp : Sp} (D : Df K mg x st ps) (S : FnScope N ps (defScope st)) (len : ∀ vs H Q E, sp vs H Q E → vs.length = ps.length)
    (hbody : ∀ (f : Addr) (cdv : Value) (A : Around) (outer : List Env) (s : Shared) (H : Hp) (vs : List V) (Q : VK) (E : XK), Room k (A.deeper (envOfC x (defScope st) s.heap.objs.size f cdv)) → sp vs H Q E →
      ∃ t, PSs (cxOf (L2.CX P w) P w K mg base N x (defScope st) f cdv A outer s H E) (defBody st) t ∧ t { nx := fun _ H' => Q .non H', rt := Q } (start N vs) H) : Ok P w K mg base (k + 1) x ps sp := by
  obtain ⟨f, fd, g, F, b⟩ := D.ex
  obtain ⟨oc, od, kV, doc, pm, an, cdv, ct, osl, hfd, lk, hcd⟩ := F.ex
  exact ⟨f, fd, g, F.kp, b, F.okX S len fun cdv A outer s H vs Q E hr h => hbody f cdv A outer s H vs Q E hr h, oc, od, osl, lk⟩
theorem Dm.ok {C : Addr} {m q : Str} {st : Stmt} {N ps : List Str} {k : Nat} {sp : Sp} (D : Dm K C m q st ps) (S : FnScope N ps (defScope st)) (len : ∀ vs H Q E, sp vs H Q E → vs.length = ps.length)
    (hbody : ∀ (f : Addr) (cdv : Value) (A : Around) (outer : List Env) (s : Shared) (H : Hp) (vs : List V) (Q : VK) (E : XK), Room k (A.deeper (envOfC q (defScope st) s.heap.objs.size f cdv)) → sp vs H Q E →
      ∃ t, PSs (cxOf (L2.CX P w) P w K mg base N q (defScope st) f cdv A outer s H E) (defBody st) t ∧ t { nx := fun _ H' => Q .non H', rt := Q } (start N vs) H) : OkM P w K mg base (k + 1) C m ps sp := by
  obtain ⟨f, fd, g, F, b⟩ := D.ex
  exact ⟨D.cls, f, fd, g, b, F.okX S len fun cdv A outer s H vs Q E hr h => hbody f cdv A outer s H vs Q E hr h⟩
theorem OkM.make {C : Addr} {ps : List Str} {k : Nat} {sp : Sp} {x : Str} (O : OkM P w K mg base k C "__init__" ps sp) (g : mg x = some (.ref C)) (mk : PySem.W.makesIn K C = true) (kc : PySem.W.keepIn K (.ref C) = true) : OkC P w K mg base k C x ps sp := by
  obtain ⟨f, fd, m, b, F⟩ := O.ex
  exact ⟨g, f, fd, ⟨mk, m.at_, m.fn, kc⟩, b, F⟩
theorem Ok.mono {x : Str} {ps : List Str} {j k : Nat} {sp : Sp} (O : Ok P w K mg base j x ps sp) (h : j ≤ k) : Ok P w K mg base k x ps sp := by
  obtain ⟨f, fd, g, kp, b, F, l⟩ := O.ex
  exact ⟨f, fd, g, kp, b, F.mono h, l⟩
theorem Ok.imp {x : Str} {ps : List Str} {k : Nat} {sp sp' : Sp} (O : Ok P w K mg base k x ps sp) (h : ∀ vs H Q E, sp' vs H Q E → sp vs H Q E) : Ok P w K mg base k x ps sp' := by
  obtain ⟨f, fd, g, kp, b, F, l⟩ := O.ex
  exact ⟨f, fd, g, kp, b, F.imp h, l⟩
end
section
variable {X : Cx} {W : WX} {k : Nat} {C : Addr} {ps : List Str} {sp : Sp} {x m : Str} {p pos apos : Pos} {e o : Expr} {es : List Expr} {ta : TE} {t : TA}
/-- f(e, ..) -/
theorem pe_callO (O : Ok X.prog X.w X.K X.mg X.base k x ps sp) (hr : Room k X.A) (hg : Gl X x) (tk : Takes X W) (ha : PA X (e :: es) t) (hdb : (x == ("__debug__" : Str)) = false := by decide)
    (he : starEach (e :: es) X.env = (false, eval e X.env) :: starEach es X.env := by rfl) (hpl : (backTo pos (starEach es X.env)).any (·.1) = false := by rfl) :
    PE X (.Call (.Name x p) (e :: es) [] pos) (tCallS sp (WE W) t) := by
  obtain ⟨f, fd, g, kp, b, F, _⟩ := O.ex
  exact pe_callS F hr hg g kp b (fun σ => passAt tk σ) ha hdb he hpl
/-- o.m(e, ..) -/
def tMethS (C : Addr) (m : Str) (sp : Sp) (E : L2.St → XK) (ta : TE) (t : TA) : TE := fun σ H Q => ta σ H fun x H1 => ∃ a dx fs, x = .ref a ∧ H1 a = some (.ins C dx fs) ∧ fs.lookup m = none ∧ t σ H1 fun vs H2 => sp (x :: vs) H2 Q (E σ)
theorem pe_methO {pl : Sem Bool} (O : OkM X.prog X.w X.K X.mg X.base k C m ps sp) (he : PE X o ta) (hr : Room k X.A) (tk : Takes X W) (ha : PA X (e :: es) t)
    (hst : starEach (e :: es) X.env = (false, eval e X.env) :: starEach es X.env := by rfl) (hpl : (backTo pos (starEach es X.env)).any (·.1) = false := by rfl)
    (ht : eval (.Call (.Attribute o m apos) (e :: es) [] pos) X.env = (do
      let ov ← eval o X.env
      standAt apos.atName
      let (f, first) ← holding [ov] (getMethod ov m pl)
      callWith pos f first (backTo pos (starEach (e :: es) X.env)) (backToKw pos (keywordEach [] X.env))) := by rfl) :
    PE X (.Call (.Attribute o m apos) (e :: es) [] pos) (tMethS C m sp (WE W) ta t) := by
  obtain ⟨f, fd, hm, b, F⟩ := O.ex
  refine ⟨fun pins s σ H Q I h => ?_⟩
  refine PySem.W.methodCall_KW (pl := pl) (thn (he.run pins s σ H _ I h) fun u s1 ⟨x, H1, I1, rx, a, dx, fs, ex, ea, l, q⟩ => ?_) ht
  subst ex
  obtain rfl : u = Value.ref a := rx
  refine getmeth_ok I1 ea O.cls hm l ?_
  refine PySem.W.callWith_K (first := [.ref a]) (h₀ := X.base) I.ok.mod.kin hm.kp (thn (ha.run pos pins s1 σ H1 _ I1 q) fun us s2 ⟨vs, H2, I2, r, q2⟩ => ⟨I2.kIn, ?_⟩) hst hpl
  exact run_fnS (us := .ref a :: us) (vs := .ref a :: vs) F hr b (passAt tk σ) I2 (.cons rfl r) q2
theorem pe_methO0 {pl : Sem Bool} (O : OkM X.prog X.w X.K X.mg X.base k C m ps sp) (he : PE X o ta) (hr : Room k X.A) (tk : Takes X W)
    (ht : eval (.Call (.Attribute o m apos) [] [] pos) X.env = (do
      let ov ← eval o X.env
      standAt apos.atName
      let (f, first) ← holding [ov] (getMethod ov m pl)
      callWith pos f first (backTo pos (starEach [] X.env)) (backToKw pos (keywordEach [] X.env))) := by rfl) :
    PE X (.Call (.Attribute o m apos) [] [] pos) (tMethS C m sp (WE W) ta tNil) := by
  obtain ⟨f, fd, hm, b, F⟩ := O.ex
  refine ⟨fun pins s σ H Q I h => ?_⟩
  refine PySem.W.methodCall_KW (pl := pl) (thn (he.run pins s σ H _ I h) fun u s1 ⟨x, H1, I1, rx, a, dx, fs, ex, ea, l, q⟩ => ?_) ht
  subst ex
  obtain rfl : u = Value.ref a := rx
  refine getmeth_ok I1 ea O.cls hm l ?_
  exact PySem.W.callWith_K0 (first := [.ref a]) I1.kIn hm.kp (run_fnS (us := [.ref a]) (vs := [.ref a]) F hr b (passAt tk σ) I1 (.cons rfl .nil) q)
end
/-! ### a new instance, by an __init__ that may raise -/
section
variable {X : Cx} {W : WX} {k : Nat} {C : Addr} {ps : List Str} {sp : Sp} {x m : Str} {p pos apos : Pos} {e o : Expr} {es : List Expr} {ta : TE} {t : TA}
def tMakeS (C : Addr) (sp : Sp) (E : L2.St → XK) (t : TA) : TE := fun σ H Q => t σ H fun vs H1 => ∀ x dx, H1 x = none → H1 dx = none → dx ≠ x →
  sp (.ref x :: vs) (upd (upd H1 dx (.own x)) x (.ins C dx [])) (fun v H2 => v = .non ∧ Q (.ref x) H2) (E σ)
theorem run_makeS {pins : List (Addr × Obj)} {σ : L2.St} {H : Hp} {s : Shared} {Q : VK} {us : List Value} {vs : List V} {f : Addr} {fd : FuncData} (M : Mk X.K C f) (F : FnOk X.prog X.w X.K X.mg X.base (L2.CX X.prog X.w) k f fd ps sp) (hr : Room (k + 1) X.A) (hb : Binds X.K fd ps [])
    (tk : Takes X W) (I : Inv X pins σ H s) (r : Vals vs us)
    (h : ∀ x dx, H x = none → H dx = none → dx ≠ x → sp (.ref x :: vs) (upd (upd H dx (.own x)) x (.ins C dx [])) (fun v H2 => v = .non ∧ Q (.ref x) H2) (WE W σ)) :
    wpAny (model X.prog X.w) X.A (call (.ref C) us) (EP X pins σ Q) X.xe s := by
  have hq := h (s.heap.objs.size + 1) s.heap.objs.size (I.hok.fresh (Nat.le_succ _)) (I.hok.fresh (Nat.le_refl _)) (Nat.ne_of_lt (Nat.lt_succ_self _))
  have I2 := Inv.made (C := C) I
  have r2 : Vals (V.ref (s.heap.objs.size + 1) :: vs) (Value.ref (s.heap.objs.size + 1) :: us) := .cons rfl r
  have hl : (Value.ref (s.heap.objs.size + 1) :: us).length = ps.length := by
    have e := r2.length
    rw [F.len _ _ _ _ hq] at e
    exact e.symm
  refine wpAny_call (make_map (f := f) I.kIn M.makes M.init (beq_iff_eq.mp M.fn) (codeAny_mono (F.run _ X.stack _ _ ⟨Value.ref (s.heap.objs.size + 1) :: us, []⟩ (Value.ref (s.heap.objs.size + 1) :: us) _ _ (WE W σ) (hr.make C us [])
    (I2.env0.make C us []) (by have z := hb _ (Value.ref (s.heap.objs.size + 1) :: us) I2.kIn (by rw [List.append_nil]; exact hl); rw [List.append_nil] at z; exact z) r2 hq) fun r s' hq' => ?_))
  cases r with
  | error e => exact passAt tk σ pins _ _ e s' I2 hq'
  | ok fl =>
    cases fl with
    | ret u =>
      obtain ⟨v, H', I3, rv, ev, q3⟩ := I2.after hq'
      subst ev
      exact ⟨rv, ⟨V.ref (s.heap.objs.size + 1), H', I3, rfl, q3⟩⟩
    | next => exact False.elim hq'
    | brk => exact False.elim hq'
    | cont => exact False.elim hq'
theorem pe_makeO (O : OkC X.prog X.w X.K X.mg X.base k C x ps sp) (hr : Room (k + 1) X.A) (hg : Gl X x) (tk : Takes X W) (ha : PA X (e :: es) t) (hdb : (x == ("__debug__" : Str)) = false := by decide)
    (he : starEach (e :: es) X.env = (false, eval e X.env) :: starEach es X.env := by rfl) (hpl : (backTo pos (starEach es X.env)).any (·.1) = false := by rfl) :
    PE X (.Call (.Name x p) (e :: es) [] pos) (tMakeS C sp (WE W) t) := by
  obtain ⟨f, fd, M, b, F⟩ := O.ex
  refine ⟨fun pins s σ H Q I h => ?_⟩
  refine wpAny_Call_Name_kw (ld_glob I hg O.g ?_ hdb)
  refine PySem.W.callWith_K (h₀ := X.base) I.ok.mod.kin M.kp (thn (ha.run pos pins s σ H _ I h) fun us s1 ⟨vs, H1, I1, r, q⟩ => ⟨I1.kIn, ?_⟩) he hpl
  exact run_makeS M F hr b tk I1 r q
end
/-! ### own exceptions without an __init__ of their own -/
/-- x, at C, is an exception of one's own (under ValueError), made with a text -/
structure Xc (K : PySem.W.Frag) (mg : Str → Option Value) (x : Str) (C : Addr) : Prop where
  g : mg x = some (.ref C)
  xi : PySem.W.excIn K C [.type "ValueError", .type "Exception", .type "BaseException", .type "object"] "ValueError.__new__" = true
  kp : PySem.W.keepIn K (.ref C) = true
  sb : PySem.W.subIn K (.ref C) (.type "BaseException") = some true
  ty : PySem.W.typeIn K (.ref C) = some (.type "type")
theorem pmk_ex {X : Cx} {x m : Str} {C : Addr} {j : Nat} {p p2 pos : Pos} (c : Xc X.K X.mg x C) (hg : Gl X x) (hdb : (x == ("__debug__" : Str)) = false := by decide) : PMk X (.Call (.Name x p) [.Constant (.str m) j p2] [] pos) (fun _ H Q => Q (.ref C) none H) :=
  pmk_own PySem.F.excBase_ValueError c.xi c.g c.kp (raises_own c.sb c.ty) hg hdb
end Kj

/-! Kj1: what an expression is worth, with the new part of the heap that it makes; parts of the heap that stand apart. -/
namespace Kj
open PySem PySem.Spec PyProof.Rows L2 Evl
/-! ### parts of a heap -/
/-- all of N is new beside H -/
def Fr (H N : Hp) : Prop := ∀ a, N a ≠ none → H a = none
def emp : Hp := fun _ => none
def sing (p : Addr) (o : HO) : Hp := fun a => if a = p then some o else none
def uni (N M : Hp) : Hp := fun a => match M a with | some o => some o | none => N a
theorem sing_at {p : Addr} {o : HO} : sing p o p = some o := by unfold sing; rw [if_pos rfl]
theorem sing_ne {p a : Addr} {o : HO} (h : a ≠ p) : sing p o a = none := by unfold sing; rw [if_neg h]
theorem emp_ex {H : Hp} : Ex emp H := fun _ _ h => nomatch h
theorem emp_fr {H : Hp} : Fr H emp := fun _ h => absurd rfl h
theorem sing_ex {H : Hp} {p : Addr} {o : HO} (h : H p = some o) : Ex (sing p o) H := fun a u e => by
  by_cases q : a = p
  · subst q
    rw [sing_at] at e
    cases e
    exact h
  · rw [sing_ne q] at e
    cases e
theorem sing_fr {H : Hp} {p : Addr} {o : HO} (h : H p = none) : Fr H (sing p o) := fun a e => by
  by_cases q : a = p
  · subst q
    exact h
  · exact absurd (sing_ne q) e
theorem Fr.back {H H' N : Hp} (e : Ex H H') (f : Fr H' N) : Fr H N := fun a h => fresh_back e (f a h)
theorem Fr.of {H N M : Hp} (f : Fr H N) (e : Ex M N) : Fr H M := fun a h => f a fun z => by
  cases q : M a with
  | none => exact h q
  | some o => rw [e a o q] at z; cases z
theorem ex_none {N H : Hp} {a : Addr} (e : Ex N H) (h : H a = none) : N a = none := fresh_back e h
theorem uni_r {N M : Hp} : Ex M (uni N M) := fun a o h => by unfold uni; rw [h]
theorem uni_l {N M : Hp} (d : ∀ a, M a ≠ none → N a = none) : Ex N (uni N M) := fun a o h => by
  unfold uni
  cases q : M a with
  | none => exact h
  | some u => rw [d a (by rw [q]; exact fun z => nomatch z)] at h; cases h
theorem uni_ex {N M H : Hp} (h1 : Ex N H) (h2 : Ex M H) : Ex (uni N M) H := fun a o h => by
  unfold uni at h
  cases q : M a with
  | none => rw [q] at h; exact h1 a o h
  | some u => rw [q] at h; cases h; exact h2 a _ q
theorem uni_some {N M : Hp} {a : Addr} (h : uni N M a ≠ none) : N a ≠ none ∨ M a ≠ none := by
  unfold uni at h
  cases q : M a with
  | none => rw [q] at h; exact .inl h
  | some u => exact .inr (fun z => nomatch z)
theorem uni_fr {N M H : Hp} (h1 : Fr H N) (h2 : Fr H M) : Fr H (uni N M) := fun a h => (uni_some h).elim (h1 a) (h2 a)
/-! ### data -/
mutual
theorem dp_mono {K : PySem.W.Frag} {H H' : Hp} (e : Ex H H') : ∀ {v : V} {d : PyData}, Dp K H v d → Dp K H' v d
  | _, _, .non => .non
  | _, _, .bl b => .bl b
  | _, _, .int i => .int i
  | _, _, .str x => .str x
  | _, _, .lst h r => .lst (ex_l e h) (dpa_mono e r)
  | _, _, .tup h r => .tup (ex_t e h) (dpa_mono e r)
theorem dpa_mono {K : PySem.W.Frag} {H H' : Hp} (e : Ex H H') : ∀ {vs : List V} {ds : List PyData}, DpAll K H vs ds → DpAll K H' vs ds
  | _, _, .nil => .nil
  | _, _, .cons h r => .cons (dp_mono e h) (dpa_mono e r)
end
/-! ### how a call may end -/
inductive Res where
  | ok (P : Hp → V → Prop)
  | err (x : Str) (fs : List (Str × V))
def RetNew (H : Hp) (Q : VK) (P : Hp → V → Prop) : Prop := ∀ v H' N, Ex H H' → Ex N H' → Fr H N → P N v → Q v H'
def RaiseX (mg : Str → Option Value) (x : Str) (fs : List (Str × V)) (H : Hp) (E : XK) : Prop :=
  ∀ H' C d, Ex H H' → mg x = some (.ref C) → (fs = [] ∧ d = none ∨ ∃ a, d = some a ∧ H' a = some (.xd fs) ∧ H a = none ∧ fs ≠ []) → E (.ref C) d H'
def Out (mg : Str → Option Value) (r : Res) (H : Hp) (Q : VK) (E : XK) : Prop := match r with
  | .ok P => RetNew H Q P
  | .err x fs => RaiseX mg x fs H E
/-- a promise: from the arguments in a heap to the end; whatever else the heap holds -/
structure Rl where
  R : List V → Hp → Res → Prop
  mono : ∀ {vs H H' r}, Ex H H' → R vs H r → R vs H' r
def Rl.sp (S : Rl) (mg : Str → Option Value) : Sp := fun vs H Q E => ∃ r, S.R vs H r ∧ Out mg r H Q E
/-- what is told of a value alone -/
abbrev is (v : V) : Hp → V → Prop := fun _ x => x = v
/-! ### what an expression is worth -/
def EvP (te : TE) (σ : L2.St) (H : Hp) (P : Hp → V → Prop) : Prop := ∀ H1, Ex H H1 → ∀ Q : VK, RetNew H1 Q P → te σ H1 Q
def EvErr (mg : Str → Option Value) (W : WX) (x : Str) (fs : List (Str × V)) (te : TE) (σ : L2.St) (H : Hp) : Prop := ∀ H1, Ex H H1 → RaiseX mg x fs H1 (WE W σ) → ∀ Q : VK, te σ H1 Q
/-- arguments, each with its own new part -/
def All2 (H : Hp) : List (Hp → V → Prop) → List V → Prop := Paired fun P v => ∃ N, Ex N H ∧ P N v
def EvPs (ta : TA) (σ : L2.St) (H : Hp) (Ps : List (Hp → V → Prop)) : Prop := ∀ H1, Ex H H1 → ∀ Q : List V → Hp → Prop, (∀ vs H2, Ex H1 H2 → All2 H2 Ps vs → Q vs H2) → ta σ H1 Q
section
variable {K : PySem.W.Frag} {mg : Str → Option Value} {σ : L2.St} {H H' : Hp} {ta tb te tx : TE} {tr : TA} {t u : TT} {x y z v : V} {r : R2} {P P' : Hp → V → Prop} {S : Rl} {E : L2.St → XK} {W : WX} {vs : List V} {Ps : List (Hp → V → Prop)} {xn : Str} {fs : List (Str × V)}
theorem RetNew.fwd {Q : VK} (e : Ex H H') (k : RetNew H Q P) : RetNew H' Q P := fun v H1 N e1 e2 f p => k v H1 N (e.trans e1) e2 (f.back e) p
theorem RaiseX.fwd {E : XK} (e : Ex H H') (k : RaiseX mg xn fs H E) : RaiseX mg xn fs H' E := fun H1 C d e1 g c => k H1 C d (e.trans e1) g (c.imp id fun ⟨a, h1, h2, h3, h4⟩ => ⟨a, h1, h2, fresh_back e h3, h4⟩)
theorem EvP.mono (e : Ex H H') (h : EvP te σ H P) : EvP te σ H' P := fun H1 a Q q => h H1 (e.trans a) Q q
theorem EvErr.mono (e : Ex H H') (h : EvErr mg W xn fs te σ H) : EvErr mg W xn fs te σ H' := fun H1 a q Q => h H1 (e.trans a) q Q
theorem ep_v (h : Ev te σ H v) : EvP te σ H (is v) := fun H1 e Q q => h H1 e Q fun H2 e2 => q v H2 emp e2 emp_ex emp_fr rfl
theorem ev_p (h : EvP te σ H (is v)) : Ev te σ H v := fun H1 e Q q => h H1 e Q fun x H2 _ e2 _ _ p => by
  have p : x = v := p
  subst p
  exact q H2 e2
theorem ep_imp (h : EvP te σ H P) (i : ∀ N v, P N v → P' N v) : EvP te σ H P' := fun H1 e Q q => h H1 e Q fun v H2 N e2 e3 f p => q v H2 N e2 e3 f (i N v p)
theorem ep_l {xs : List V} (h : EvL te σ H xs) : EvP te σ H (fun N v => ∃ p, v = .ref p ∧ N p = some (.lst xs)) := fun H1 e Q q => h H1 e Q fun p H2 hp e2 h2 => q (.ref p) H2 (sing p (.lst xs)) e2 (sing_ex h2) (sing_fr hp) ⟨p, rfl, sing_at⟩
theorem ep_u {xs : List V} (h : EvU te σ H xs) : EvP te σ H (fun N v => ∃ p, v = .ref p ∧ N p = some (.tup xs)) := fun H1 e Q q => h H1 e Q fun p H2 hp e2 h2 => q (.ref p) H2 (sing p (.tup xs)) e2 (sing_ex h2) (sing_fr hp) ⟨p, rfl, sing_at⟩
theorem eps_nil : EvPs tNil σ H [] := fun H1 _ Q q => q [] H1 (Ex.refl H1) .nil
theorem All2.mono (e : Ex H H') (h : All2 H Ps vs) : All2 H' Ps vs := by
  unfold All2 at h ⊢
  induction h with
  | nil => exact .nil
  | cons h _ ih =>
    obtain ⟨N, h1, h2⟩ := h
    exact .cons ⟨N, h1.trans e, h2⟩ ih
theorem eps_cons (h : EvP te σ H P) (hr : EvPs tr σ H Ps) : EvPs (tCons te tr) σ H (P :: Ps) := fun H1 e Q q =>
  h H1 e _ fun v H2 N e2 e3 _ p => hr H2 (e.trans e2) _ fun vs H3 e4 a => q (v :: vs) H3 (e2.trans e4) (.cons ⟨N, e3.trans e4, p⟩ a)
/-! ### calls -/
theorem ep_call (ha : EvA tr σ H vs) (hR : S.R vs H (.ok P)) : EvP (tCallS (S.sp mg) E tr) σ H P := fun H1 e Q q => ha H1 e _ fun H2 e2 => ⟨.ok P, S.mono (e.trans e2) hR, q.fwd e2⟩
theorem ep_callN (ha : EvPs tr σ H Ps) (hR : ∀ vs H1, Ex H H1 → All2 H1 Ps vs → S.R vs H1 (.ok P)) : EvP (tCallS (S.sp mg) E tr) σ H P := fun H1 e Q q => ha H1 e _ fun vs H2 e2 a => ⟨.ok P, hR vs H2 (e.trans e2) a, q.fwd e2⟩
theorem ev_callO (ha : EvA tr σ H vs) (hR : S.R vs H (.ok (is v))) : Ev (tCallS (S.sp mg) E tr) σ H v := ev_p (ep_call ha hR)
theorem ev_callN (ha : EvPs tr σ H Ps) (hR : ∀ vs H1, Ex H H1 → All2 H1 Ps vs → S.R vs H1 (.ok (is v))) : Ev (tCallS (S.sp mg) E tr) σ H v := ev_p (ep_callN ha hR)
theorem er_call (ha : EvA tr σ H vs) (hR : S.R vs H (.err xn fs)) : EvErr mg W xn fs (tCallS (S.sp mg) (WE W) tr) σ H := fun H1 e q Q => ha H1 e _ fun H2 e2 => ⟨.err xn fs, S.mono (e.trans e2) hR, q.fwd e2⟩
/-- o.m(..) -/
theorem ep_meth {C a dx : Addr} {m : Str} {gs : List (Str × V)} (ho : Ev ta σ H (.ref a)) (h : H a = some (.ins C dx gs)) (hl : gs.lookup m = none) (ha : EvA tr σ H vs) (hR : S.R (.ref a :: vs) H (.ok P)) : EvP (tMethS C m (S.sp mg) E ta tr) σ H P :=
  fun H1 e Q q => ho H1 e _ fun H2 e2 => ⟨a, dx, gs, rfl, e2 _ _ (e _ _ h), hl, ha H2 (e.trans e2) _ fun H3 e3 => ⟨.ok P, S.mono ((e.trans e2).trans e3) hR, q.fwd (e2.trans e3)⟩⟩
/-! ### fields of an instance -/
theorem ev_fld {C a dx : Addr} {f : Str} {gs : List (Str × V)} (ho : Ev ta σ H (.ref a)) (h : H a = some (.ins C dx gs)) (c : Cls K C) (n : NoAttr K C f) (hl : gs.lookup f = some v) : Ev (tFld K ta f) σ H v := fun H1 e Q q =>
  ho H1 e _ fun H2 e2 => ⟨a, C, dx, gs, v, rfl, e2 _ _ (e _ _ h), c, n, hl, q H2 e2⟩
/-! ### operators -/
theorem rv_addI {i j : Int} : RV (rAddU K) (.int i) (.int j) H (.int (i + j)) := fun H1 _ _ q => .inl (.inl ⟨i, j, rfl, rfl, q H1 (Ex.refl H1)⟩)
theorem rv_addS {a b : Str} (h : a.length + b.length ≤ sizeLine) : RV (rAddU K) (.str a) (.str b) H (.str (a ++ b)) := fun H1 _ _ q => .inl (.inr ⟨a, b, rfl, rfl, h, q H1 (Ex.refl H1)⟩)
theorem rv_mulI {i j : Int} (h : CMulW i j) : RV rMulU (.int i) (.int j) H (.int (i * j)) := fun H1 _ _ q => .inl (.inl ⟨i, j, rfl, rfl, h, q H1 (Ex.refl H1)⟩)
theorem rv_eqS (h : scal x y = true) : RV (rEqU K) x y H (.bl (decide (x = y))) := fun H1 _ _ q => .inl ⟨h, q H1 (Ex.refl H1)⟩
theorem rv_neS (h : scal x y = true) : RV (rNeU K) x y H (.bl (!decide (x = y))) := fun H1 _ _ q => .inl ⟨h, q H1 (Ex.refl H1)⟩
theorem rv_eqI {i j : Int} : RV (rEqU K) (.int i) (.int j) H (.bl (decide (i = j))) := fun H1 _ _ q => .inl ⟨rfl, by
  have e : decide (V.int i = V.int j) = decide (i = j) := by
    by_cases h : i = j
    · subst h; simp
    · rw [decide_eq_false h, decide_eq_false (fun z => h (V.int.inj z))]
  rw [e]
  exact q H1 (Ex.refl H1)⟩
theorem rv_neI {i j : Int} : RV (rNeU K) (.int i) (.int j) H (.bl (!decide (i = j))) := fun H1 _ _ q => .inl ⟨rfl, by
  have e : decide (V.int i = V.int j) = decide (i = j) := by
    by_cases h : i = j
    · subst h; simp
    · rw [decide_eq_false h, decide_eq_false (fun z => h (V.int.inj z))]
  rw [e]
  exact q H1 (Ex.refl H1)⟩
theorem rv_eqT {a b : Str} : RV (rEqU K) (.str a) (.str b) H (.bl (decide (a = b))) := fun H1 _ _ q => .inl ⟨rfl, by
  have e : decide (V.str a = V.str b) = decide (a = b) := by
    by_cases h : a = b
    · subst h; simp
    · rw [decide_eq_false h, decide_eq_false (fun z => h (V.str.inj z))]
  rw [e]
  exact q H1 (Ex.refl H1)⟩
theorem rv_neT {a b : Str} : RV (rNeU K) (.str a) (.str b) H (.bl (!decide (a = b))) := fun H1 _ _ q => .inl ⟨rfl, by
  have e : decide (V.str a = V.str b) = decide (a = b) := by
    by_cases h : a = b
    · subst h; simp
    · rw [decide_eq_false h, decide_eq_false (fun z => h (V.str.inj z))]
  rw [e]
  exact q H1 (Ex.refl H1)⟩
theorem rv_eqD {d e : PyData} (h1 : Dp K H x d) (h2 : Dp K H y e) (s1 : SeqAt.shaped d = true) (s2 : SeqAt.shaped e = true) : RV (rEqU K) x y H (.bl (PyData.eqv d e)) := fun H1 a _ q => .inr ⟨d, e, dp_mono a h1, dp_mono a h2, s1, s2, q H1 (Ex.refl H1)⟩
theorem rv_neD {d e : PyData} (h1 : Dp K H x d) (h2 : Dp K H y e) (s1 : SeqAt.shaped d = true) (s2 : SeqAt.shaped e = true) : RV (rNeU K) x y H (.bl (!PyData.eqv d e)) := fun H1 a _ q => .inr ⟨d, e, dp_mono a h1, dp_mono a h2, s1, s2, q H1 (Ex.refl H1)⟩
/-- both sides new, or data: == by what they hold -/
theorem ev_opN {P1 P2 : Hp → V → Prop} (ha : EvP ta σ H P1) (hb : EvP tb σ H P2) (hr : ∀ v1 v2 N1 N2 H1, Ex H H1 → Ex N1 H1 → Ex N2 H1 → P1 N1 v1 → P2 N2 v2 → RV r v1 v2 H1 z) : Ev (tOp r ta tb) σ H z := fun H1 e Q q =>
  ha H1 e _ fun v1 H2 N1 e2 i1 _ p1 => hb H2 (e.trans e2) _ fun v2 H3 N2 e3 i2 _ p2 => hr v1 v2 N1 N2 H3 ((e.trans e2).trans e3) (i1.trans e3) i2 p1 p2 H3 (Ex.refl H3) Q fun H4 e4 => q H4 ((e2.trans e3).trans e4)
theorem rv_ixLs {p : Addr} {xs : List V} {i : Int} (h : SqL K H p xs) (ha : atI xs i = some v) : RV (rIx K) (.ref p) (.int i) H v := fun H1 e _ q => .inl ⟨p, xs, i, v, rfl, rfl, ex_l e h, ha, q H1 (Ex.refl H1)⟩
theorem rv_ixTs {p : Addr} {xs : List V} {i : Int} (h : SqT K H p xs) (ha : atI xs i = some v) : RV (rIx K) (.ref p) (.int i) H v := fun H1 e _ q => .inr (.inl ⟨p, xs, i, v, rfl, rfl, ex_t e h, ha, q H1 (Ex.refl H1)⟩)
theorem rv_ixSs {w : Str} {i : Int} {c : Nat} (h : w.length ≤ 100000) (ha : atI w.cps.toList i = some c) : RV (rIx K) (.str w) (.int i) H (.str ⟨#[c]⟩) := fun H1 _ _ q => .inr (.inr ⟨w, i, c, rfl, rfl, sz_of h, ha, q H1 (Ex.refl H1)⟩)
theorem rv_sign {c : Nat} {w : Str} : RV (rInU K) (.str ⟨#[c]⟩) (.str w) H (.bl (decide (c ∈ w.cps.toList))) := fun H1 _ _ q => .inl (.inr ⟨c, w, rfl, rfl, q H1 (Ex.refl H1)⟩)
theorem rv_isN : RV (fun x y H Q => y = .non ∧ Q (.bl (decide (x = .non))) H) x .non H (.bl (decide (x = .non))) := fun H1 _ _ q => ⟨rfl, q H1 (Ex.refl H1)⟩
theorem rv_isnN : RV (fun x y H Q => y = .non ∧ Q (.bl (!decide (x = .non))) H) x .non H (.bl (!decide (x = .non))) := fun H1 _ _ q => ⟨rfl, q H1 (Ex.refl H1)⟩
/-! ### slices, len -/
theorem el_sl' {tl th : TO} {a : Addr} {xs : List V} {lo hi : Option Int} (h : Ev te σ H (.ref a)) (h1 : EvO tl σ H lo) (h2 : EvO th σ H hi) (hs : SqL K H a xs) : EvL (tSl (rSlU K) te tl th) σ H (cutV xs lo hi) := fun H1 e _ q =>
  h H1 e _ fun H2 e2 => h1 H2 (e.trans e2) _ fun H3 e3 => h2 H3 ((e.trans e2).trans e3) _ fun H4 e4 =>
    .inl (.inl ⟨a, xs, rfl, ex_l (((e.trans e2).trans e3).trans e4) hs, fun p hp => q p _ (fresh_back ((e2.trans e3).trans e4) hp) (((e2.trans e3).trans e4).trans (Ex.new hp)) upd_same⟩)
theorem ev_slS {tl th : TO} {w : Str} {lo hi : Option Int} (h : Ev te σ H (.str w)) (h1 : EvO tl σ H lo) (h2 : EvO th σ H hi) (hz : w.length ≤ 100000) : Ev (tSl (rSlU K) te tl th) σ H (.str (cutS w lo hi)) := fun H1 e _ q =>
  h H1 e _ fun H2 e2 => h1 H2 (e.trans e2) _ fun H3 e3 => h2 H3 ((e.trans e2).trans e3) _ fun H4 e4 => .inr ⟨w, rfl, sz_of hz, q H4 ((e2.trans e3).trans e4)⟩
theorem rc_lenL {p : Addr} {xs : List V} (h : SqL K H p xs) : RC (rLenU K) [.ref p] H (.int (xs.length : Int)) := fun H1 e _ q => .inl ⟨p, xs, rfl, .inl (ex_l e h), q H1 (Ex.refl H1)⟩
theorem rc_lenT {p : Addr} {xs : List V} (h : SqT K H p xs) : RC (rLenU K) [.ref p] H (.int (xs.length : Int)) := fun H1 e _ q => .inl ⟨p, xs, rfl, .inr (ex_t e h), q H1 (Ex.refl H1)⟩
theorem rc_lenS {w : Str} (h : w.length ≤ 100000) : RC (rLenU K) [.str w] H (.int (w.length : Int)) := fun H1 _ _ q => .inr ⟨w, rfl, sz_of h, q H1 (Ex.refl H1)⟩
theorem rc_abs {i : Int} : RC (fun xs H Q => ∃ i, xs = [.int i] ∧ Q (.int (if i < 0 then -i else i)) H) [.int i] H (.int (i.natAbs : Int)) := fun H1 _ _ q => ⟨i, rfl, by
  have e : (if i < 0 then -i else i) = (i.natAbs : Int) := by
    split <;> omega
  rw [e]
  exact q H1 (Ex.refl H1)⟩
end
/-! ### parts that stand apart in a heap -/
def Dj (N M : Hp) : Prop := ∀ a, N a ≠ none → M a = none
theorem Dj.symm {N M : Hp} (d : Dj N M) : Dj M N := fun a h => by
  cases q : N a with
  | none => rfl
  | some o => exact absurd (d a (by rw [q]; exact fun z => nomatch z)) h
def Own : List Hp → Hp → Prop
  | [], _ => True
  | N :: r, H => Ex N H ∧ (∀ M ∈ r, Dj N M) ∧ Own r H
theorem Own.mono {H H' : Hp} (e : Ex H H') : ∀ {Ns : List Hp}, Own Ns H → Own Ns H'
  | [], _ => trivial
  | _ :: _, ⟨a, b, c⟩ => ⟨a.trans e, b, c.mono e⟩
theorem Own.exm {H N : Hp} : ∀ {Ns : List Hp}, Own Ns H → N ∈ Ns → Ex N H
  | _ :: _, ⟨a, b, c⟩, h => by
    rcases List.mem_cons.mp h with h | h
    · subst h; exact a
    · exact c.exm h
theorem Own.ix {H N : Hp} {i : Nat} {Ns : List Hp} (o : Own Ns H) (h : Ns[i]? = some N) : Ex N H := o.exm (List.mem_of_getElem? h)
theorem Own.e0 {H N : Hp} {r : List Hp} (o : Own (N :: r) H) : Ex N H := o.1
theorem Own.e1 {H N M : Hp} {r : List Hp} (o : Own (M :: N :: r) H) : Ex N H := o.2.2.1
theorem Own.e2 {H N M M2 : Hp} {r : List Hp} (o : Own (M2 :: M :: N :: r) H) : Ex N H := o.2.2.2.2.1
theorem Own.e3 {H N M M2 M3 : Hp} {r : List Hp} (o : Own (M3 :: M2 :: M :: N :: r) H) : Ex N H := o.2.2.2.2.2.2.1
theorem Own.e4 {H N M M2 M3 M4 : Hp} {r : List Hp} (o : Own (M4 :: M3 :: M2 :: M :: N :: r) H) : Ex N H := o.2.2.2.2.2.2.2.2.1
theorem Own.dj {H N M : Hp} {i j : Nat} : ∀ {Ns : List Hp}, Own Ns H → i < j → Ns[i]? = some N → Ns[j]? = some M → Dj N M
  | N' :: r, ⟨a, b, c⟩, hij, hi, hj => by
    cases j with
    | zero => exact absurd hij (Nat.not_lt_zero _)
    | succ j =>
      cases i with
      | zero =>
        have e : N' = N := Option.some.inj hi
        subst e
        exact b M (List.mem_of_getElem? hj)
      | succ i => exact c.dj (Nat.lt_of_succ_lt_succ hij) hi hj
theorem Own.add {H H' N : Hp} {Ns : List Hp} (o : Own Ns H) (e : Ex H H') (n : Ex N H') (f : Fr H N) : Own (N :: Ns) H' :=
  ⟨n, fun M hM a h => ex_none (o.exm hM) (f a h), o.mono e⟩
theorem Own.one (H : Hp) : Own [H] H := ⟨Ex.refl H, (fun _ h => nomatch h), trivial⟩
theorem Own.tail {H N : Hp} {r : List Hp} (o : Own (N :: r) H) : Own r H := o.2.2
theorem Own.set {H : Hp} {l : Addr} {u u' : HO} : ∀ {Ns : List Hp} {j : Nat}, Own Ns H → Ns[j]? = some (sing l u) → Own (Ns.set j (sing l u')) (upd H l u')
  | N :: r, 0, ⟨a, b, c⟩, h => by
    have e : N = sing l u := Option.some.inj h
    subst e
    have hl : ∀ M ∈ r, M l = none := fun M hM => b M hM l (by rw [sing_at]; exact fun z => nomatch z)
    refine ⟨sing_ex upd_same, fun M hM x hx => ?_, ?_⟩
    · by_cases q : x = l
      · subst q; exact hl M hM
      · exact absurd (sing_ne q) hx
    · clear a b h
      induction r with
      | nil => trivial
      | cons M r ih =>
        obtain ⟨c1, c2, c3⟩ := c
        refine ⟨fun x o' hx => ?_, c2, ih c3 fun M' hM' => hl M' (List.mem_cons_of_mem _ hM')⟩
        have ne : x ≠ l := fun z => by
          rw [z, hl M List.mem_cons_self] at hx
          cases hx
        rw [upd_ne ne]
        exact c1 x o' hx
  | N :: r, j + 1, ⟨a, b, c⟩, h => by
    have hN : N l = none := by
      have d := b (sing l u) (List.mem_of_getElem? h)
      exact d.symm l (by rw [sing_at]; exact fun z => nomatch z)
    refine ⟨fun x o' hx => ?_, fun M hM => ?_, c.set h⟩
    · have ne : x ≠ l := fun z => by
        rw [z, hN] at hx
        cases hx
      rw [upd_ne ne]
      exact a x o' hx
    · rcases List.mem_or_eq_of_mem_set hM with h1 | h1
      · exact b M h1
      · subst h1
        intro x hx
        by_cases q : x = l
        · subst q; exact absurd hN hx
        · exact sing_ne q
theorem Own.at {H : Hp} {l : Addr} {u : HO} {Ns : List Hp} {j : Nat} (o : Own Ns H) (h : Ns[j]? = some (sing l u)) : H l = some u := o.ix h _ _ sing_at
/-- the part N and the part M told as one -/
theorem Own.merge {H N M : Hp} {r : List Hp} (o : Own (N :: M :: r) H) : Own (uni M N :: r) H :=
  ⟨uni_ex o.2.2.1 o.1, fun M' hM' a h => (uni_some h).elim (o.2.2.2.1 M' hM' a) (o.2.1 M' (List.mem_cons_of_mem _ hM') a), o.2.2.2.2⟩
theorem Own.swap {H N M : Hp} {r : List Hp} (o : Own (N :: M :: r) H) : Own (M :: N :: r) H :=
  ⟨o.2.2.1, fun M' hM' => by
    rcases List.mem_cons.mp hM' with h | h
    · subst h; exact (o.2.1 M List.mem_cons_self).symm
    · exact o.2.2.2.1 M' h, o.1, fun M' hM' => o.2.1 M' (List.mem_cons_of_mem _ hM'), o.2.2.2.2⟩
/-- what is handed back: N is new beside G -/
theorem Own.ret {H N G : Hp} {Ns : List Hp} {i j : Nat} {Q : VK} {P : Hp → V → Prop} {v : V} (o : Own Ns H) (k : RetNew G Q P) (hi : Ns[i]? = some N) (hj : Ns[j]? = some G) (hp : P N v) (hij : i < j := by decide) : Q v H :=
  k v H N (o.ix hj) (o.ix hi) (o.dj hij hi hj) hp
theorem Own.retV {H G : Hp} {Ns : List Hp} {j : Nat} {Q : VK} {P : Hp → V → Prop} {v : V} (o : Own Ns H) (k : RetNew G Q P) (hj : Ns[j]? = some G) (hp : P emp v) : Q v H := k v H emp (o.ix hj) emp_ex emp_fr hp
end Kj
namespace Kj
open PySem PySem.Spec PyProof.Rows L2 Evl
abbrev pLst (xs : List V) : Hp → V → Prop := fun N v => ∃ p, v = .ref p ∧ N p = some (.lst xs)
section
variable {K : PySem.W.Frag} {mg : Str → Option Value} {σ : L2.St} {H H' : Hp} {ta tb te tx : TE} {tr : TA} {t u : TT} {x y z v : V} {P : Hp → V → Prop} {vs : List V}
theorem ep_lst (h : EvA tr σ H vs) (hl : vs.length ≤ 100000 := by exact Nat.le_of_ble_eq_true rfl) : EvP (tLst tr) σ H (pLst vs) := ep_l (el_lst h hl)
/-- the first operand, or the thing asked, is new -/
theorem ev_op1 {r : R2} (ha : EvP ta σ H P) (hb : Ev tb σ H y) (hr : ∀ v N H1, Ex H H1 → Ex N H1 → P N v → RV r v y H1 z) : Ev (tOp r ta tb) σ H z :=
  ev_opN ha (ep_v hb) fun v1 v2 N1 N2 H1 e i1 _ p1 p2 => by
    have p2 : v2 = y := p2
    subst p2
    exact hr v1 N1 H1 e i1 p1
theorem ev_cb1 {r : List V → Hp → VK → Prop} (ha : EvP ta σ H P) (hr : ∀ v N H1, Ex H H1 → Ex N H1 → P N v → RC r [v] H1 z) : Ev (tCB r (tCons ta tNil)) σ H z := fun H1 e Q q =>
  ha H1 e _ fun v H2 N e2 i1 _ p => hr v N H2 (e.trans e2) i1 p H2 (Ex.refl H2) Q fun H3 e3 => q H3 (e2.trans e3)
end
end Kj
namespace Kj
open PySem PySem.Spec PyProof.Rows L2 Evl
theorem cmul_small {i j : Int} (h1 : -18446744073709551616 < i ∧ i < 18446744073709551616) (h2 : -18446744073709551616 < j ∧ j < 18446744073709551616) : CMulW i j := by
  have a : i.natAbs < 2 ^ 64 := by
    have e : (2 : Nat) ^ 64 = 18446744073709551616 := by decide
    rw [e]
    omega
  have b : j.natAbs < 2 ^ 64 := by
    have e : (2 : Nat) ^ 64 = 18446744073709551616 := by decide
    rw [e]
    omega
  exact wide_mul a b (by decide) (by decide) (by decide)
theorem cutV_take {xs : List V} (n : Nat) : cutV xs none (some (n : Int)) = xs.take n := by
  unfold cutV
  rw [HT.sIx_none, HT.sIx_nat]
  by_cases h : n ≤ xs.length
  · rw [Nat.min_eq_left h]
    rfl
  · rw [Nat.min_eq_right (by omega)]
    show (xs.drop 0).take (xs.length - 0) = _
    rw [List.drop_zero, Nat.sub_zero, List.take_length, List.take_of_length_le (by omega)]
end Kj
namespace Kj
open PySem PySem.Spec PyProof.Rows L2 Evl
/-- the law's own promise -/
def spLaw (K : PySem.W.Frag) : Sp := fun vs H Q _ => ∃ (a : Addr) (ns : List Int), vs = [.ref a] ∧ SqL K H a (ns.map V.int) ∧ ns.length ≤ 63 ∧ ∀ H', Q (.bl true) H'
theorem cx_none {P : Program} {w : World} {o : List Env} {H : Hp} {s : Shared} {e : Value} {s' : Shared} (h : L2.CX P w o H s (fun _ _ _ => False) e s') : False := by
  obtain ⟨_, _, _, _, _, _, _, _, _, _, _, _, z⟩ := h
  exact z
/-- the promise of the very def that the name stands for -/
theorem Ok.fn {P : Program} {w : World} {K : PySem.W.Frag} {mg : Str → Option Value} {base : Heap} {k : Nat} {x : Str} {ps : List Str} {sp : Sp} {st : Stmt} {f : Addr} {fd : FuncData} (O : Ok P w K mg base k x ps sp) (g : mg x = some (.ref f)) (F : Fun K x x st f fd) : FnOk P w K mg base (L2.CX P w) k f fd ps sp := by
  obtain ⟨f', fd', g', kp, b, F', oc', od', osl', lk'⟩ := O.ex
  obtain ⟨oc, od, kV, doc, pm, an, cdv, ct, osl, hfd, lk, hcd⟩ := F.ex
  rw [g] at g'
  cases g'
  rw [lk] at lk'
  cases lk'
  exact F'
end Kj

/-! Kj2: statements, over parts of the heap that stand apart. s: the last of a block; q: something behind. -/
namespace Kj
open PySem PySem.Spec PyProof.Rows L2 Evl
section
variable {K : PySem.W.Frag} {mg : Str → Option Value} {σ : L2.St} {H G : Hp} {Ns : List Hp} {ta tb te tx : TE} {tr : TA} {t u : TT} {v : V} {P : Hp → V → Prop} {W : WX} {xn : Str} {fs : List (Str × V)} {D : Ends} {tu tw tz : TS} {g : TG}
theorem s_v {i : Nat} (o : Own Ns H) (h : Ev te σ H v) (k : ∀ H1, Own Ns H1 → D.nx (σ.set i (some v)) H1) : tAsg te (gName i) D σ H := h H (Ex.refl H) _ fun H1 e => k H1 (o.mono e)
theorem q_v {i : Nat} (o : Own Ns H) (h : Ev te σ H v) (k : ∀ H1, Own Ns H1 → tz D (σ.set i (some v)) H1) : tSeq (tAsg te (gName i)) tz D σ H := s_v (D := { D with nx := tz D }) o h k
theorem s_n {i : Nat} (o : Own Ns H) (h : EvP te σ H P) (k : ∀ v H1 N, Own (N :: Ns) H1 → P N v → D.nx (σ.set i (some v)) H1) : tAsg te (gName i) D σ H := h H (Ex.refl H) _ fun v H1 N e e2 f p => k v H1 N (o.add e e2 f) p
theorem q_n {i : Nat} (o : Own Ns H) (h : EvP te σ H P) (k : ∀ v H1 N, Own (N :: Ns) H1 → P N v → tz D (σ.set i (some v)) H1) : tSeq (tAsg te (gName i)) tz D σ H := s_n (D := { D with nx := tz D }) o h k
theorem s_l {i : Nat} {xs : List V} (o : Own Ns H) (h : EvL te σ H xs) (k : ∀ p H1, Own (sing p (.lst xs) :: Ns) H1 → D.nx (σ.set i (some (.ref p))) H1) : tAsg te (gName i) D σ H := h H (Ex.refl H) _ fun p H1 hp e h1 => k p H1 (o.add e (sing_ex h1) (sing_fr hp))
theorem q_l {i : Nat} {xs : List V} (o : Own Ns H) (h : EvL te σ H xs) (k : ∀ p H1, Own (sing p (.lst xs) :: Ns) H1 → tz D (σ.set i (some (.ref p))) H1) : tSeq (tAsg te (gName i)) tz D σ H := s_l (D := { D with nx := tz D }) o h k
theorem s_er (h : EvErr mg W xn fs te σ H) (k : RaiseX mg xn fs H (WE W σ)) : tAsg te g D σ H := h H (Ex.refl H) k _
theorem s_dv (o : Own Ns H) (h : EvP te σ H P) (k : ∀ H1, Own Ns H1 → D.nx σ H1) : tDrop te D σ H := h H (Ex.refl H) _ fun v H1 N e _ _ _ => k H1 (o.mono e)
theorem q_dv (o : Own Ns H) (h : EvP te σ H P) (k : ∀ H1, Own Ns H1 → tz D σ H1) : tSeq (tDrop te) tz D σ H := s_dv (D := { D with nx := tz D }) o h k
theorem s_der (h : EvErr mg W xn fs te σ H) (k : RaiseX mg xn fs H (WE W σ)) : tDrop te D σ H := h H (Ex.refl H) k _
theorem q_der (h : EvErr mg W xn fs te σ H) (k : RaiseX mg xn fs H (WE W σ)) : tSeq (tDrop te) tz D σ H := s_der (D := { D with nx := tz D }) h k
theorem s_fi {b : Bool} (o : Own Ns H) (h : EvT t σ H b) (h1 : b = true → ∀ H1, Own Ns H1 → tu D σ H1) (h2 : b = false → ∀ H1, Own Ns H1 → tw D σ H1) : tIfS t tu tw D σ H := h H (Ex.refl H) _ fun H1 e => by
  cases b with
  | true =>
    show tu D σ H1
    exact h1 rfl H1 (o.mono e)
  | false =>
    show tw D σ H1
    exact h2 rfl H1 (o.mono e)
theorem q_fi {b : Bool} (o : Own Ns H) (h : EvT t σ H b) (h1 : b = true → ∀ H1, Own Ns H1 → tu { D with nx := tz D } σ H1) (h2 : b = false → ∀ H1, Own Ns H1 → tw { D with nx := tz D } σ H1) : tSeq (tIfS t tu tw) tz D σ H := s_fi (D := { D with nx := tz D }) o h h1 h2
theorem q_wh {b : Bool} (o : Own Ns H) (h : EvT t σ H b) (h1 : b = true → ∀ H1, Own Ns H1 → tu { D with nx := tz D } σ H1) (h2 : b = false → ∀ H1, Own Ns H1 → tz D σ H1) : tSeq (tIfS t tu tNext) tz D σ H := s_fi (D := { D with nx := tz D }) o h h1 h2
theorem s_wh {b : Bool} (o : Own Ns H) (h : EvT t σ H b) (h1 : b = true → ∀ H1, Own Ns H1 → tu D σ H1) (h2 : b = false → ∀ H1, Own Ns H1 → D.nx σ H1) : tIfS t tu tNext D σ H := s_fi o h h1 h2
theorem s_rv (o : Own Ns H) (h : Ev te σ H v) (k : ∀ H1, Own Ns H1 → D.rt v H1) : tRet te D σ H := h H (Ex.refl H) _ fun H1 e => k H1 (o.mono e)
theorem s_rn (o : Own Ns H) (h : EvP te σ H P) (k : ∀ v H1 N, Own (N :: Ns) H1 → P N v → D.rt v H1) : tRet te D σ H := h H (Ex.refl H) _ fun v H1 N e e2 f p => k v H1 N (o.add e e2 f) p
theorem s_app {l : Addr} {xs : List V} {j : Nat} (o : Own Ns H) (hj : Ns[j]? = some (sing l (.lst xs))) (ha : Ev ta σ H (.ref l)) (h : Ev te σ H v) (hz : xs.length < 100000) (k : ∀ H1, Own (Ns.set j (sing l (.lst (xs ++ [v])))) H1 → D.nx σ H1) : tDrop (tBM K "list" rAppend ta (tCons te tNil)) D σ H := Evl.s_app (o.at hj) ha h hz fun H1 e => k _ ((o.mono e).set hj)
theorem q_app {l : Addr} {xs : List V} {j : Nat} (o : Own Ns H) (hj : Ns[j]? = some (sing l (.lst xs))) (ha : Ev ta σ H (.ref l)) (h : Ev te σ H v) (hz : xs.length < 100000) (k : ∀ H1, Own (Ns.set j (sing l (.lst (xs ++ [v])))) H1 → tz D σ H1) : tSeq (tDrop (tBM K "list" rAppend ta (tCons te tNil))) tz D σ H := s_app (D := { D with nx := tz D }) o hj ha h hz k
theorem s_appN {l : Addr} {xs : List V} {j : Nat} (o : Own Ns H) (hj : Ns[j]? = some (sing l (.lst xs))) (ha : Ev ta σ H (.ref l)) (h : EvP te σ H P) (hz : xs.length < 100000) (k : ∀ v H1 N, Own (N :: Ns.set j (sing l (.lst (xs ++ [v])))) H1 → P N v → D.nx σ H1) : tDrop (tBM K "list" rAppend ta (tCons te tNil)) D σ H := ha H (Ex.refl H) _ fun H1 e1 =>
  ⟨Or.inl ⟨rfl, xs, sq_of (e1 l _ (o.at hj))⟩, h H1 e1 _ fun v H2 N e2 e3 f p => ⟨l, xs, v, rfl, rfl, e2 l _ (e1 l _ (o.at hj)), sz_lt hz, k v _ N (((o.mono e1).add e2 e3 f).set (j := j + 1) hj) p⟩⟩
/-- for x in range(n) -/
theorem s_rg {j : Nat} {n : Int} (o : Own Ns H) (h : EvA tr σ H [.int n]) (hn : n ≤ 100000) (Pv : Nat → L2.St → Hp → Prop) (h0 : ∀ H1, Own Ns H1 → Pv 0 σ H1)
    (hs : ∀ (i : Nat) σ' H', (i : Int) < n → Pv i σ' H' → tu { D with nx := Pv (i + 1), ct := Pv (i + 1), bk := D.nx } (σ'.set j (some (.int (i : Int)))) H') (hd : ∀ σ' H', Pv n.toNat σ' H' → D.nx σ' H') (hm : -100000 ≤ n := by omega) : tFor (iRng1 tr) (gName j) tu D σ H :=
  h H (Ex.refl H) _ fun H1 e => ⟨n, rfl, by omega, by omega, for_range (lo := 0) (n := n.toNat) Pv (h0 H1 (o.mono e)) (fun i σ' H' hi p => by
    have e0 : (0 : Int) + (i : Int) = (i : Int) := Int.zero_add _
    show tu { D with nx := Pv (i + 1), ct := Pv (i + 1), bk := D.nx } (σ'.set j (some (.int ((0 : Int) + (i : Int))))) H'
    rw [e0]
    exact hs i σ' H' (by omega) p) hd⟩
/-- for x in a new list -/
theorem s_fn {xs : List V} {tl : TE} {j : Nat} (o : Own Ns H) (h : EvL tl σ H xs) (Pv : Nat → Addr → L2.St → Hp → Prop) (h0 : ∀ p H1, Own (sing p (.lst xs) :: Ns) H1 → Pv 0 p σ H1) (hl : ∀ i p σ' H', i ≤ xs.length → Pv i p σ' H' → H' p = some (.lst xs))
    (hs : ∀ i p x σ' H', xs[i]? = some x → Pv i p σ' H' → tu { D with nx := Pv (i + 1) p, ct := Pv (i + 1) p, bk := D.nx } (σ'.set j (some x)) H') (hd : ∀ p σ' H', Pv xs.length p σ' H' → D.nx σ' H') : tFor (iList K tl) (gName j) tu D σ H :=
  h H (Ex.refl H) _ fun p H1 hp e h1 => ⟨p, rfl, ⟨xs, sq_of h1⟩, for_list (fun i σ' H' => Pv i p σ' H') (h0 p H1 (o.add e (sing_ex h1) (sing_fr hp))) (fun i σ' H' hi q => sq_of (hl i p σ' H' hi q)) (fun i x σ' H' hx q => hs i p x σ' H' hx q) (fun σ' H' q => hd p σ' H' q)⟩
theorem q_fn {xs : List V} {tl : TE} {j : Nat} (o : Own Ns H) (h : EvL tl σ H xs) (Pv : Nat → Addr → L2.St → Hp → Prop) (h0 : ∀ p H1, Own (sing p (.lst xs) :: Ns) H1 → Pv 0 p σ H1) (hl : ∀ i p σ' H', i ≤ xs.length → Pv i p σ' H' → H' p = some (.lst xs))
    (hs : ∀ i p x σ' H', xs[i]? = some x → Pv i p σ' H' → tu { D with nx := Pv (i + 1) p, ct := Pv (i + 1) p, bk := tz D } (σ'.set j (some x)) H') (hd : ∀ p σ' H', Pv xs.length p σ' H' → tz D σ' H') : tSeq (tFor (iList K tl) (gName j) tu) tz D σ H :=
  s_fn (D := { D with nx := tz D }) o h Pv h0 hl hs hd
/-- while, by a word and a measure -/
theorem q_wl (Pv : Nat → L2.St → Hp → Prop) (m0 : Nat) (h0 : Pv m0 σ H)
    (hs : ∀ m σ' H', Pv m σ' H' → ∃ b, EvT t σ' H' b ∧ (b = true → ∀ H1, Ex H' H1 → tu { D with nx := fun σ2 H2 => ∃ m', m' < m ∧ Pv m' σ2 H2, ct := fun σ2 H2 => ∃ m', m' < m ∧ Pv m' σ2 H2, bk := tz D } σ' H1) ∧ (b = false → ∀ H1, Ex H' H1 → tz D σ' H1)) : tSeq (tWhile t tu) tz D σ H :=
  q_while Pv m0 h0 fun m σ' H' p => by
    obtain ⟨b, h1, h2, h3⟩ := hs m σ' H' p
    exact ⟨b, h1, fun hb H1 e => ⟨_, fun _ _ q => q, h2 hb H1 e⟩, h3⟩
end
end Kj
namespace Kj
open PySem PySem.Spec PyProof.Rows L2 Evl
section
variable {K : PySem.W.Frag} {mg : Str → Option Value} {Wout : WX} {D : Ends} {l : List (Value × (Addr → Value → Option Addr → TS))} {ts : Addr → Value → Option Addr → TS} {σ : L2.St} {H : Hp} {xn : Str} {fs : List (Str × V)} {C : Addr} {c : Value}
end
end Kj

/-! Kj3: what is walked: an iterator by what it draws; loops and comprehensions over it. -/
namespace Kj
open PySem PySem.Spec PyProof.Rows L2 Evl
/-- J draws n items, the i-th told by Y, in every heap that holds G -/
structure Drw (J : L2.It) (G : Hp) (n : Nat) (Y : Nat → V → Hp → Prop) : Prop where
  go : ∀ i H', Ex G H' → i < n → J.go i H'
  stop : ∀ H', Ex G H' → J.stop n H'
  yld : ∀ i H' x H'', Ex G H' → i < n → J.yld i H' x H'' → Ex H' H'' ∧ Y i x H''
theorem Drw.mono {J : L2.It} {G G' : Hp} {n : Nat} {Y : Nat → V → Hp → Prop} (e : Ex G G') (d : Drw J G n Y) : Drw J G' n Y :=
  ⟨fun i H' a h => d.go i H' (e.trans a) h, fun H' a => d.stop H' (e.trans a), fun i H' x H'' a h y => d.yld i H' x H'' (e.trans a) h y⟩
/-- the iterable is worth an iterator that draws so; G: the part that it reads -/
def EvI (wi : TI) (σ : L2.St) (H G : Hp) (n : Nat) (Y : Nat → V → Hp → Prop) : Prop := ∀ H1, Ex H H1 → ∀ R : L2.It → Hp → Prop, (∀ J H2, Ex H1 H2 → Drw J G n Y → R J H2) → wi σ H1 R
theorem drw_list {K : PySem.W.Frag} {G : Hp} {a : Addr} {xs : List V} (h : SqL K G a xs) : Drw (Itl K a) G xs.length fun i x _ => xs[i]? = some x where
  go := fun i H' e hi => ⟨xs, xs[i], ex_l e h, by simp [hi]⟩
  stop := fun H' e => ⟨xs, ex_l e h, Nat.le_refl _⟩
  yld := fun i H' x H'' e hi y => by
    obtain ⟨e1, y⟩ := y
    subst e1
    exact ⟨Ex.refl _, y xs (ex_l e h)⟩
theorem drw_rng {G : Hp} {lo : Int} {n : Nat} : Drw (Itr lo n) G n fun i x _ => x = .int (lo + i) where
  go := fun i H' _ hi => hi
  stop := fun H' _ => Nat.le_refl _
  yld := fun i H' x H'' _ hi y => by
    obtain ⟨e1, y⟩ := y
    subst e1
    exact ⟨Ex.refl _, y⟩
theorem drw_str {G : Hp} {w : Str} : Drw (Its w) G w.cps.size fun i x _ => ∃ c, w.cps[i]? = some c ∧ x = .str ⟨#[c]⟩ where
  go := fun i H' _ hi => hi
  stop := fun H' _ => Nat.le_refl _
  yld := fun i H' x H'' _ hi y => by
    obtain ⟨e1, y⟩ := y
    subst e1
    exact ⟨Ex.refl _, y⟩
theorem drw_enum {K : PySem.W.Frag} {G : Hp} {a : Addr} {xs : List V} (h : SqL K G a xs) : Drw (Ite K a) G xs.length fun i x H' => ∃ T y, x = .ref T ∧ H' T = some (.tup [.int (i : Nat), y]) ∧ xs[i]? = some y where
  go := fun i H' e hi => ⟨xs, xs[i], ex_l e h, by simp [hi]⟩
  stop := fun H' e => ⟨xs, ex_l e h, Nat.le_refl _⟩
  yld := fun i H' x H'' e hi y => by
    obtain ⟨T, z, e1, e2, e3, y⟩ := y
    subst e3
    exact ⟨Ex.new e2, T, z, e1, upd_same, y xs (ex_l e h)⟩
theorem drw_zip {K : PySem.W.Frag} {G : Hp} {a b : Addr} {xs ys : List V} (h : SqL K G a xs) (h2 : SqL K G b ys) (hl : xs.length = ys.length) : Drw (Itz K a b) G xs.length fun i x H' => ∃ T y z, x = .ref T ∧ H' T = some (.tup [y, z]) ∧ xs[i]? = some y ∧ ys[i]? = some z where
  go := fun i H' e hi => ⟨xs, ys, xs[i], ys[i], ex_l e h, ex_l e h2, by simp [hi], by simp⟩
  stop := fun H' e => ⟨xs, ys, ex_l e h, ex_l e h2, .inl (Nat.le_refl _)⟩
  yld := fun i H' x H'' e hi y => by
    obtain ⟨T, z, z2, e1, e2, e3, y, y2⟩ := y
    subst e3
    exact ⟨Ex.new e2, T, z, z2, e1, upd_same, y xs (ex_l e h), y2 ys (ex_l e h2)⟩
theorem drw_zipT {K : PySem.W.Frag} {G : Hp} {a b : Addr} {xs ys : List V} (h : SqT K G a xs) (h2 : SqT K G b ys) (hl : xs.length = ys.length) : Drw (RZ.ItzT K a b) G xs.length fun i x H' => ∃ T y z, x = .ref T ∧ H' T = some (.tup [y, z]) ∧ xs[i]? = some y ∧ ys[i]? = some z where
  go := fun i H' e hi => ⟨xs, ys, xs[i], ys[i], ex_t e h, ex_t e h2, by simp [hi], by simp⟩
  stop := fun H' e => ⟨xs, ys, ex_t e h, ex_t e h2, .inl (Nat.le_refl _)⟩
  yld := fun i H' x H'' e hi y => by
    obtain ⟨T, z, z2, e1, e2, e3, y, y2⟩ := y
    subst e3
    exact ⟨Ex.new e2, T, z, z2, e1, upd_same, y xs (ex_t e h), y2 ys (ex_t e h2)⟩
section
variable {K : PySem.W.Frag} {mg : Str → Option Value} {σ : L2.St} {H G : Hp} {Ns : List Hp} {ta tb te tx : TE} {tr : TA} {t tt : TT} {v : V} {P : Hp → V → Prop} {W : WX} {D : Ends} {tu tw tz : TS} {g : TG} {wi : TI} {n : Nat} {Y : Nat → V → Hp → Prop}
theorem ei_list {a : Addr} {xs : List V} (h : Ev te σ H (.ref a)) (hx : SqL K G a xs) (eg : Ex G H) : EvI (iList K te) σ H G xs.length fun i x _ => xs[i]? = some x := fun H1 e R q => h H1 e _ fun H2 e2 => ⟨a, rfl, ⟨xs, ex_l ((eg.trans e).trans e2) hx⟩, q _ H2 e2 (drw_list hx)⟩
theorem ei_rng1 {m : Int} (h : EvA tr σ H [.int m]) (hm : -100000 ≤ m ∧ m ≤ 100000) : EvI (iRng1 tr) σ H G m.toNat fun i x _ => x = .int (i : Nat) := fun H1 e R q => h H1 e _ fun H2 e2 => ⟨m, rfl, by omega, by omega, q _ H2 e2 ⟨drw_rng.go, drw_rng.stop (G := G), fun i H' x H'' a hi y => by
  obtain ⟨z1, z2⟩ := (drw_rng (G := G)).yld i H' x H'' a hi y
  exact ⟨z1, by rw [z2, Int.zero_add]⟩⟩⟩
theorem ei_rng2 {l m : Int} (h : EvA tr σ H [.int l, .int m]) (hm : -100000 ≤ m ∧ m ≤ 100000) (hl : -100000 ≤ l ∧ l ≤ 100000) : EvI (iRng2 tr) σ H G (m - l).toNat fun i x _ => x = .int (l + (i : Nat)) := fun H1 e R q => h H1 e _ fun H2 e2 => ⟨l, m, rfl, ⟨by omega, by omega, by omega, by omega⟩, q _ H2 e2 drw_rng⟩
theorem ei_str {w : Str} (h : Ev te σ H (.str w)) : EvI (iStr te) σ H G w.cps.size fun i x _ => ∃ c, w.cps[i]? = some c ∧ x = .str ⟨#[c]⟩ := fun H1 e R q => h H1 e _ fun H2 e2 => ⟨w, rfl, q _ H2 e2 drw_str⟩
theorem ei_enum {a : Addr} {xs : List V} (h : EvA tr σ H [.ref a]) (hx : SqL K G a xs) (eg : Ex G H) : EvI (iEnum K tr) σ H G xs.length fun i x H' => ∃ T y, x = .ref T ∧ H' T = some (.tup [.int (i : Nat), y]) ∧ xs[i]? = some y := fun H1 e R q => h H1 e _ fun H2 e2 => ⟨a, xs, rfl, ex_l ((eg.trans e).trans e2) hx, q _ H2 e2 (drw_enum hx)⟩
theorem ei_zip {a b : Addr} {xs ys : List V} (h : EvA tr σ H [.ref a, .ref b]) (hx : SqL K G a xs) (hy : SqL K G b ys) (hl : xs.length = ys.length) (eg : Ex G H) : EvI (RZ.iZipA K tr) σ H G xs.length fun i x H' => ∃ T y z, x = .ref T ∧ H' T = some (.tup [y, z]) ∧ xs[i]? = some y ∧ ys[i]? = some z := fun H1 e R q =>
  h H1 e _ fun H2 e2 => ⟨a, b, xs, ys, rfl, .inl ⟨ex_l ((eg.trans e).trans e2) hx, ex_l ((eg.trans e).trans e2) hy, q _ H2 e2 (drw_zip hx hy hl)⟩⟩
theorem ei_zipT {a b : Addr} {xs ys : List V} (h : EvA tr σ H [.ref a, .ref b]) (hx : SqT K G a xs) (hy : SqT K G b ys) (hl : xs.length = ys.length) (eg : Ex G H) : EvI (RZ.iZipA K tr) σ H G xs.length fun i x H' => ∃ T y z, x = .ref T ∧ H' T = some (.tup [y, z]) ∧ xs[i]? = some y ∧ ys[i]? = some z := fun H1 e R q =>
  h H1 e _ fun H2 e2 => ⟨a, b, xs, ys, rfl, .inr ⟨ex_t ((eg.trans e).trans e2) hx, ex_t ((eg.trans e).trans e2) hy, q _ H2 e2 (drw_zipT hx hy hl)⟩⟩
/-! ### loops -/
theorem for_drw {J : L2.It} (d : Drw J G n Y) (Pv : Nat → L2.St → Hp → Prop) (h0 : Pv 0 σ H) (hG : ∀ i σ' H', i ≤ n → Pv i σ' H' → Ex G H')
    (hs : ∀ i x σ' H' H'', i < n → Pv i σ' H' → Ex H' H'' → Y i x H'' → g x σ' H'' fun σ2 H2 => tu { D with nx := Pv (i + 1), ct := Pv (i + 1), bk := D.nx } σ2 H2) (hd : ∀ σ' H', Pv n σ' H' → D.nx σ' H') :
    ∃ W : Nat → Nat → L2.St → Hp → Prop, (∃ m, W 0 m σ H) ∧ ∀ i m σ H, W i m σ H →
      (J.stop i H ∧ D.nx σ H) ∨ (J.go i H ∧ ∃ N : L2.St → Hp → Prop, (∀ σ' H', N σ' H' → ∃ m', m' < m ∧ W (i + 1) m' σ' H') ∧ ∀ x H', J.yld i H x H' → g x σ H' fun σ2 H2 => tu { D with nx := N, ct := N, bk := D.nx } σ2 H2) := by
  refine ⟨fun i m σ H => m = n - i ∧ i ≤ n ∧ Pv i σ H, ⟨n, by simp, Nat.zero_le _, h0⟩, ?_⟩
  rintro i m σ H ⟨rfl, hi, p⟩
  have eG := hG i σ H hi p
  by_cases hlt : i < n
  · refine .inr ⟨d.go i H eG hlt, Pv (i + 1), fun σ' H' p' => ⟨n - (i + 1), by omega, rfl, hlt, p'⟩, fun x H' y => ?_⟩
    obtain ⟨e, y⟩ := d.yld i H x H' eG hlt y
    exact hs i x σ H H' hlt p e y
  · have e : i = n := by omega
    subst e
    exact .inl ⟨d.stop H eG, hd σ H p⟩
theorem s_for (o : Own Ns H) (hi : EvI wi σ H G n Y) (Pv : Nat → L2.St → Hp → Prop) (h0 : ∀ H1, Own Ns H1 → Pv 0 σ H1) (hG : ∀ i σ' H', i ≤ n → Pv i σ' H' → Ex G H')
    (hs : ∀ i x σ' H' H'', i < n → Pv i σ' H' → Ex H' H'' → Y i x H'' → g x σ' H'' fun σ2 H2 => tu { D with nx := Pv (i + 1), ct := Pv (i + 1), bk := D.nx } σ2 H2) (hd : ∀ σ' H', Pv n σ' H' → D.nx σ' H') : tFor wi g tu D σ H :=
  hi H (Ex.refl H) _ fun J H1 e d => for_drw d Pv (h0 H1 (o.mono e)) hG hs hd
theorem q_for (o : Own Ns H) (hi : EvI wi σ H G n Y) (Pv : Nat → L2.St → Hp → Prop) (h0 : ∀ H1, Own Ns H1 → Pv 0 σ H1) (hG : ∀ i σ' H', i ≤ n → Pv i σ' H' → Ex G H')
    (hs : ∀ i x σ' H' H'', i < n → Pv i σ' H' → Ex H' H'' → Y i x H'' → g x σ' H'' fun σ2 H2 => tu { D with nx := Pv (i + 1), ct := Pv (i + 1), bk := tz D } σ2 H2) (hd : ∀ σ' H', Pv n σ' H' → tz D σ' H') : tSeq (tFor wi g tu) tz D σ H :=
  s_for (D := { D with nx := tz D }) o hi Pv h0 hG hs hd
/-! ### comprehensions -/
theorem lc_drw {J : L2.It} {vs : List Nat} {H1 : Hp} {Dl : Addr} {Qd : Hp → Prop} (d : Drw J G n Y) (Pv : Nat → Hp → Prop) (h0 : Pv 0 (upd H1 Dl (.lst []))) (hG : ∀ i H', i ≤ n → Pv i H' → Ex G H')
    (hs : ∀ i x H' H'', i < n → Pv i H' → Ex H' H'' → Y i x H'' → g x (wipe σ vs) H'' fun σ2 H2 => wipe σ2 vs = wipe σ vs ∧ tt σ2 H2 fun b H3 =>
      if b = true then te σ2 H3 fun y H4 => ∃ acc, H4 Dl = some (.lst acc) ∧ acc.length < sizeLine ∧ Pv (i + 1) (upd H4 Dl (.lst (acc ++ [y]))) else Pv (i + 1) H3) (hd : ∀ H', Pv n H' → Qd H') :
    ∃ W : Nat → Nat → Hp → Prop, (∃ m, W 0 m (upd H1 Dl (.lst []))) ∧ ∀ i m H, W i m H →
      (J.stop i H ∧ Qd H) ∨ (J.go i H ∧ ∃ Nx : Hp → Prop, (∀ H', Nx H' → ∃ m', m' < m ∧ W (i + 1) m' H') ∧ ∀ x H', J.yld i H x H' → g x (wipe σ vs) H' fun σ2 H2 => wipe σ2 vs = wipe σ vs ∧ tt σ2 H2 fun b H3 =>
        if b = true then te σ2 H3 fun y H4 => ∃ acc, H4 Dl = some (.lst acc) ∧ acc.length < sizeLine ∧ Nx (upd H4 Dl (.lst (acc ++ [y]))) else Nx H3) := by
  refine ⟨fun i m H => m = n - i ∧ i ≤ n ∧ Pv i H, ⟨n, by simp, Nat.zero_le _, h0⟩, ?_⟩
  rintro i m H ⟨rfl, hi, p⟩
  have eG := hG i H hi p
  by_cases hlt : i < n
  · refine .inr ⟨d.go i H eG hlt, Pv (i + 1), fun H' p' => ⟨n - (i + 1), by omega, rfl, hlt, p'⟩, fun x H' y => ?_⟩
    obtain ⟨e, y⟩ := d.yld i H x H' eG hlt y
    exact hs i x H H' hlt p e y
  · have e : i = n := by omega
    subst e
    exact .inl ⟨d.stop H eG, hd H p⟩
/-- the places that are taken -/
def picks (n : Nat) (f : Nat → Bool) : List Nat := (List.range n).filter f
theorem picks_yes {i : Nat} {f : Nat → Bool} (h : f i = true) : picks (i + 1) f = picks i f ++ [i] := by
  unfold picks
  rw [List.range_succ, List.filter_append, List.filter_cons, if_pos h]
  rfl
theorem picks_no {i : Nat} {f : Nat → Bool} (h : f i = false) : picks (i + 1) f = picks i f := by
  unfold picks
  rw [List.range_succ, List.filter_append, List.filter_cons, if_neg (by rw [h]; decide)]
  exact List.append_nil _
theorem picks_len (n : Nat) (f : Nat → Bool) : (picks n f).length ≤ n := by
  have h := List.length_filter_le f (List.range n)
  rw [List.length_range] at h
  exact h
theorem paired_snoc {α β : Type} {R : α → β → Prop} : ∀ {xs : List α} {ys : List β} {x : α} {y : β}, Paired R xs ys → R x y → Paired R (xs ++ [x]) (ys ++ [y])
  | _, _, _, _, .nil, h => .cons h .nil
  | _, _, _, _, .cons a r, h => .cons a (paired_snoc r h)
theorem paired_imp {α β : Type} {R R' : α → β → Prop} (i : ∀ x y, R x y → R' x y) : ∀ {xs : List α} {ys : List β}, Paired R xs ys → Paired R' xs ys
  | _, _, .nil => .nil
  | _, _, .cons a r => .cons (i _ _ a) (paired_imp i r)
/-- flat values -/
theorem el_lc {vs : List Nat} (S : Nat → L2.St) (f : Nat → Bool) (v : Nat → V) (hi : EvI wi σ H G n Y) (eG : Ex G H) (hn : n ≤ 50000) (hg : ∀ i x H', i < n → Y i x H' → ∀ Q : L2.St → Hp → Prop, Q (S i) H' → g x (wipe σ vs) H' Q) (hw : ∀ i, i < n → wipe (S i) vs = wipe σ vs)
    (ht : ∀ i H1, Ex H H1 → i < n → EvT tt (S i) H1 (f i)) (he : ∀ i H1, Ex H H1 → i < n → f i = true → Ev te (S i) H1 (v i)) : EvL (tLc wi g tt te vs) σ H ((picks n f).map v) := fun H0 e Q q =>
  hi H0 e _ fun J H1 e1 d Dl hD => lc_drw d (fun i H' => Ex H1 H' ∧ H' Dl = some (.lst ((picks i f).map v))) ⟨Ex.new hD, upd_same⟩ (fun i H' _ p => ((eG.trans e).trans e1).trans p.1) (fun i x H' H'' hlt p e2 hy => hg i x H'' hlt hy _ ⟨hw i hlt, by
    refine ht i H'' (((e.trans e1).trans p.1).trans e2) hlt H'' (Ex.refl _) _ fun H3 e3 => ?_
    cases hf : f i with
    | true =>
      show te (S i) H3 _
      refine he i H3 ((((e.trans e1).trans p.1).trans e2).trans e3) hlt hf H3 (Ex.refl _) _ fun H4 e4 => ⟨_, e4 _ _ (e3 _ _ (e2 _ _ p.2)), ?_, Ex.mut (((p.1.trans e2).trans e3).trans e4) hD, ?_⟩
      · rw [List.length_map]
        exact sz_lt (by have := picks_len i f; omega)
      · rw [upd_same, picks_yes hf, List.map_append]
        rfl
    | false =>
      show Ex H1 H3 ∧ H3 Dl = _
      refine ⟨(p.1.trans e2).trans e3, ?_⟩
      rw [picks_no hf]
      exact e3 _ _ (e2 _ _ p.2)⟩) (fun H' p => q Dl H' (fresh_back e1 hD) (e1.trans p.1) p.2)
/-- new values: the list and its items are one new part -/
theorem ep_lc {vs : List Nat} (S : Nat → L2.St) (f : Nat → Bool) (Pe : Nat → Hp → V → Prop) (pm : ∀ i N N' v, Ex N N' → Pe i N v → Pe i N' v) (hi : EvI wi σ H G n Y) (eG : Ex G H) (hn : n ≤ 50000) (hg : ∀ i x H', i < n → Y i x H' → ∀ Q : L2.St → Hp → Prop, Q (S i) H' → g x (wipe σ vs) H' Q) (hw : ∀ i, i < n → wipe (S i) vs = wipe σ vs)
    (ht : ∀ i H1, Ex H H1 → i < n → EvT tt (S i) H1 (f i)) (he : ∀ i H1, Ex H H1 → i < n → f i = true → EvP te (S i) H1 (Pe i)) :
    EvP (tLc wi g tt te vs) σ H (fun N v => ∃ p xs, v = .ref p ∧ N p = some (.lst xs) ∧ Paired (fun i x => Pe i N x) (picks n f) xs) := fun H0 e Q q =>
  hi H0 e _ fun J H1 e1 d Dl hD => lc_drw d (fun i H' => ∃ N xs, Own [sing Dl (.lst xs), N, H1] H' ∧ Paired (fun i x => Pe i N x) (picks i f) xs ∧ xs.length ≤ i)
    ⟨emp, [], ⟨sing_ex upd_same, fun M hM a ha => by
      rcases List.mem_cons.mp hM with z | z
      · subst z; rfl
      · have z : M = H1 := by simpa using z
        subst z
        by_cases qa : a = Dl
        · subst qa; exact hD
        · exact absurd (sing_ne qa) ha, emp_ex, (fun _ _ a ha => absurd rfl ha), Ex.new hD, (fun _ h => nomatch h), trivial⟩, .nil, Nat.le_refl _⟩
    (fun i H' _ ⟨N, xs, o, _⟩ => ((eG.trans e).trans e1).trans o.e2) (fun i x H' H'' hlt ⟨N, xs, o, pr, hl⟩ e2 hy => hg i x H'' hlt hy _ ⟨hw i hlt, by
      have o2 := o.mono e2
      refine ht i H'' ((e.trans e1).trans o2.e2) hlt H'' (Ex.refl _) _ fun H3 e3 => ?_
      have o3 := o2.mono e3
      cases hf : f i with
      | true =>
        show te (S i) H3 _
        refine he i H3 ((e.trans e1).trans o3.e2) hlt hf H3 (Ex.refl _) _ fun y H4 N2 e4 i2 f2 py => ?_
        have o4 : Own [N2, sing Dl (.lst xs), N, H1] H4 := o3.add e4 i2 f2
        refine ⟨xs, o4.at (j := 1) rfl, sz_lt (by omega), uni N N2, xs ++ [y], ?_, ?_, ?_⟩
        · have o5 : Own [N2, sing Dl (.lst (xs ++ [y])), N, H1] (upd H4 Dl (.lst (xs ++ [y]))) := o4.set (j := 1) rfl
          have o6 : Own [sing Dl (.lst (xs ++ [y])), N2, N, H1] (upd H4 Dl (.lst (xs ++ [y]))) := o5.swap
          have o7 : Own [uni N N2, H1] (upd H4 Dl (.lst (xs ++ [y]))) := o6.tail.merge
          refine ⟨o6.1, fun M hM a ha => ?_, o7⟩
          rcases List.mem_cons.mp hM with z | z
          · subst z
            have d1 := o6.dj (i := 0) (j := 1) (by decide) rfl rfl
            have d2 := o6.dj (i := 0) (j := 2) (by decide) rfl rfl
            unfold uni
            rw [d1 a ha]
            exact d2 a ha
          · exact o6.2.1 M (List.mem_cons_of_mem _ (List.mem_cons_of_mem _ z)) a ha
        · rw [picks_yes hf]
          have dN : ∀ a, N2 a ≠ none → N a = none := o4.dj (i := 0) (j := 2) (by decide) rfl rfl
          exact paired_snoc (paired_imp (fun j z h => pm j _ _ _ (uni_l dN) h) pr) (pm i _ _ _ uni_r py)
        · rw [List.length_append, List.length_singleton]
          omega
      | false =>
        show ∃ N xs, _
        refine ⟨N, xs, o3, ?_, by omega⟩
        rw [picks_no hf]
        exact pr⟩) (fun H' ⟨N, xs, o, pr, _⟩ => q (.ref Dl) H' (uni N (sing Dl (.lst xs))) (e1.trans o.e2) (uni_ex o.e1 o.e0) (uni_fr (Fr.back e1 (o.dj (i := 1) (j := 2) (by decide) rfl rfl)) (sing_fr (fresh_back e1 hD))) ⟨Dl, xs, rfl, uni_r _ _ sing_at, paired_imp (fun j z h => pm j _ _ _ (uni_l (o.dj (i := 0) (j := 1) (by decide) rfl rfl)) h) pr⟩)
end
end Kj
namespace Kj
open PySem PySem.Spec PyProof.Rows L2 Evl
/-! ### by the items themselves -/
theorem picks_items {α β : Type} (d : α) (t : α → Bool) (f : α → β) : ∀ xs : List α, (picks xs.length fun i => t (xs.getD i d)).map (fun i => f (xs.getD i d)) = (xs.filter t).map f := by
  intro xs
  have key : ∀ n, n ≤ xs.length → (picks n fun i => t (xs.getD i d)).map (fun i => f (xs.getD i d)) = ((xs.take n).filter t).map f := by
    intro n
    induction n with
    | zero => intro _; rfl
    | succ n ih =>
      intro hn
      have hlt : n < xs.length := hn
      have e1 : xs.take (n + 1) = xs.take n ++ [xs[n]] := List.take_succ_eq_append_getElem hlt
      have e2 : xs.getD n d = xs[n] := by
        rw [List.getD_eq_getElem?_getD, List.getElem?_eq_getElem hlt]
        rfl
      cases ht : t (xs.getD n d) with
      | true =>
        rw [picks_yes (f := fun i => t (xs.getD i d)) ht, List.map_append, ih (by omega), e1, List.filter_append, List.map_append]
        congr 1
        rw [List.filter_cons, if_pos (by rw [← e2]; exact ht), ← e2]
        rfl
      | false =>
        rw [picks_no (f := fun i => t (xs.getD i d)) ht, ih (by omega), e1, List.filter_append, List.map_append]
        rw [List.filter_cons, if_neg (by rw [← e2, ht]; decide)]
        exact (List.append_nil _).symm
  have h := key xs.length (Nat.le_refl _)
  rw [List.take_length] at h
  exact h
section
variable {K : PySem.W.Frag} {mg : Str → Option Value} {σ : L2.St} {H G : Hp} {te : TE} {tr : TA} {tt : TT} {g : TG} {wi : TI}
theorem getD_of {xs : List V} {i : Nat} {x : V} (h : xs[i]? = some x) : xs.getD i .non = x := by
  rw [List.getD_eq_getElem?_getD, h]
  rfl
theorem get_of {xs : List V} {i : Nat} (h : i < xs.length) : xs[i]? = some (xs.getD i .non) := by
  rw [List.getD_eq_getElem?_getD, List.getElem?_eq_getElem h]
  rfl
theorem el_lcX {xs : List V} {vs : List Nat} (S : V → L2.St) (t : V → Bool) (f : V → V) (hi : EvI wi σ H G xs.length fun i x _ => xs[i]? = some x) (eG : Ex G H) (hn : xs.length ≤ 50000) (hg : ∀ x H', x ∈ xs → ∀ Q : L2.St → Hp → Prop, Q (S x) H' → g x (wipe σ vs) H' Q) (hw : ∀ x, wipe (S x) vs = wipe σ vs)
    (ht : ∀ x H1, Ex H H1 → x ∈ xs → EvT tt (S x) H1 (t x)) (he : ∀ x H1, Ex H H1 → x ∈ xs → t x = true → Ev te (S x) H1 (f x)) : EvL (tLc wi g tt te vs) σ H ((xs.filter t).map f) := by
  have m : ∀ {i}, i < xs.length → xs.getD i .non ∈ xs := fun h => List.mem_of_getElem? (get_of h)
  have h := el_lc (fun i => S (xs.getD i .non)) (fun i => t (xs.getD i .non)) (fun i => f (xs.getD i .non)) hi eG hn (fun i x H' hlt hx Q q => by rw [getD_of hx] at q; exact hg x H' (List.mem_of_getElem? hx) Q q) (fun i _ => hw _) (fun i H1 e hlt => ht _ H1 e (m hlt)) (fun i H1 e hlt h => he _ H1 e (m hlt) h)
  rw [picks_items] at h
  exact h
theorem paired_picks {R : V → V → Prop} {t : V → Bool} : ∀ {xs ys : List V}, Paired (fun (i : Nat) y => R (xs.getD i .non) y) (picks xs.length fun i => t (xs.getD i .non)) ys → Paired R (xs.filter t) ys := by
  intro xs ys h
  have e : xs.filter t = (picks xs.length fun i => t (xs.getD i .non)).map fun i => xs.getD i .non := by
    rw [picks_items (f := fun x : V => x)]
    simp
  rw [e]
  generalize (picks xs.length fun i => t (xs.getD i .non)) = is at h
  induction h with
  | nil => exact .nil
  | cons a _ ih => exact .cons a ih
theorem ep_lcX {xs : List V} {vs : List Nat} (S : V → L2.St) (t : V → Bool) (Pe : V → Hp → V → Prop) (pm : ∀ x N N' v, Ex N N' → Pe x N v → Pe x N' v) (hi : EvI wi σ H G xs.length fun i x _ => xs[i]? = some x) (eG : Ex G H) (hn : xs.length ≤ 50000) (hg : ∀ x H', x ∈ xs → ∀ Q : L2.St → Hp → Prop, Q (S x) H' → g x (wipe σ vs) H' Q) (hw : ∀ x, wipe (S x) vs = wipe σ vs)
    (ht : ∀ x H1, Ex H H1 → x ∈ xs → EvT tt (S x) H1 (t x)) (he : ∀ x H1, Ex H H1 → x ∈ xs → t x = true → EvP te (S x) H1 (Pe x)) :
    EvP (tLc wi g tt te vs) σ H (fun N v => ∃ p ys, v = .ref p ∧ N p = some (.lst ys) ∧ Paired (fun x y => Pe x N y) (xs.filter t) ys) := by
  have m : ∀ {i}, i < xs.length → xs.getD i .non ∈ xs := fun h => List.mem_of_getElem? (get_of h)
  refine ep_imp (ep_lc (fun i => S (xs.getD i .non)) (fun i => t (xs.getD i .non)) (fun i => Pe (xs.getD i .non)) (fun i N N' v e h => pm _ N N' v e h) hi eG hn (fun i x H' hlt hx Q q => by rw [getD_of hx] at q; exact hg x H' (List.mem_of_getElem? hx) Q q) (fun i _ => hw _) (fun i H1 e hlt => ht _ H1 e (m hlt)) (fun i H1 e hlt h => he _ H1 e (m hlt) h)) ?_
  rintro N v ⟨p, ys, e, h1, h2⟩
  exact ⟨p, ys, e, h1, paired_picks h2⟩
def signs (w : Str) : List V := w.cps.toList.map fun c => .str ⟨#[c]⟩
theorem signs_len (w : Str) : (signs w).length = w.length := by
  unfold signs
  rw [List.length_map]
  simp [Str.length]
theorem ei_strX {w : Str} (h : Ev te σ H (.str w)) : EvI (iStr te) σ H G (signs w).length fun i x _ => (signs w)[i]? = some x := fun H1 e R q => ei_str (G := G) h H1 e R fun J H2 e2 d => q J H2 e2 ⟨fun i H' a hi => d.go i H' a (by rw [signs_len] at hi; exact hi), fun H' a => by rw [signs_len]; exact d.stop H' a, fun i H' x H'' a hi y => by
  obtain ⟨e3, c, hc, rfl⟩ := d.yld i H' x H'' a (by rw [signs_len] at hi; exact hi) y
  refine ⟨e3, ?_⟩
  unfold signs
  rw [List.getElem?_map, Array.getElem?_toList, hc]
  rfl⟩
def rngV (n : Nat) : List V := (List.range n).map fun i => .int (i : Nat)
theorem rngV_len (n : Nat) : (rngV n).length = n := by simp [rngV]
theorem ei_rngX {m : Int} (h : EvA tr σ H [.int m]) (hm : -100000 ≤ m ∧ m ≤ 100000) : EvI (iRng1 tr) σ H G (rngV m.toNat).length fun i x _ => (rngV m.toNat)[i]? = some x := fun H1 e R q => ei_rng1 (G := G) h hm H1 e R fun J H2 e2 d => q J H2 e2 ⟨fun i H' a hi => d.go i H' a (by rw [rngV_len] at hi; exact hi), fun H' a => by rw [rngV_len]; exact d.stop H' a, fun i H' x H'' a hi y => by
  rw [rngV_len] at hi
  obtain ⟨e3, rfl⟩ := d.yld i H' x H'' a hi y
  refine ⟨e3, ?_⟩
  unfold rngV
  rw [List.getElem?_map, List.getElem?_range hi]
  rfl⟩
def rngV2 (l : Int) (n : Nat) : List V := (List.range n).map fun i => .int (l + (i : Nat))
theorem rngV2_len (l : Int) (n : Nat) : (rngV2 l n).length = n := by simp [rngV2]
theorem ei_rngX2 {l m : Int} (h : EvA tr σ H [.int l, .int m]) (hm : -100000 ≤ m ∧ m ≤ 100000) (hl : -100000 ≤ l ∧ l ≤ 100000) : EvI (iRng2 tr) σ H G (rngV2 l (m - l).toNat).length fun i x _ => (rngV2 l (m - l).toNat)[i]? = some x := fun H1 e R q => ei_rng2 (G := G) h hm hl H1 e R fun J H2 e2 d => q J H2 e2 ⟨fun i H' a hi => d.go i H' a (by rw [rngV2_len] at hi; exact hi), fun H' a => by rw [rngV2_len]; exact d.stop H' a, fun i H' x H'' a hi y => by
  rw [rngV2_len] at hi
  obtain ⟨e3, rfl⟩ := d.yld i H' x H'' a hi y
  refine ⟨e3, ?_⟩
  unfold rngV2
  rw [List.getElem?_map, List.getElem?_range hi]
  rfl⟩
theorem et_yes : EvT tYes σ H true := fun H1 _ _ q => q H1 (Ex.refl H1)
end
end Kj
namespace Kj
open PySem PySem.Spec PyProof.Rows L2 Evl
section
variable {K : PySem.W.Frag} {σ : L2.St} {H G : Hp} {Ns : List Hp} {D : Ends} {tu tz : TS} {wi : TI} {n j : Nat} {Y : Nat → V → Hp → Prop}
/-! ### the loop's target is a name -/
theorem s_forN (o : Own Ns H) (hi : EvI wi σ H G n Y) (Pv : Nat → L2.St → Hp → Prop) (h0 : ∀ H1, Own Ns H1 → Pv 0 σ H1) (hG : ∀ i σ' H', i ≤ n → Pv i σ' H' → Ex G H')
    (hs : ∀ i x σ' H' H'', i < n → Pv i σ' H' → Ex H' H'' → Y i x H'' → tu { D with nx := Pv (i + 1), ct := Pv (i + 1), bk := D.nx } (σ'.set j (some x)) H'') (hd : ∀ σ' H', Pv n σ' H' → D.nx σ' H') : tFor wi (gName j) tu D σ H := s_for o hi Pv h0 hG hs hd
theorem q_forN (o : Own Ns H) (hi : EvI wi σ H G n Y) (Pv : Nat → L2.St → Hp → Prop) (h0 : ∀ H1, Own Ns H1 → Pv 0 σ H1) (hG : ∀ i σ' H', i ≤ n → Pv i σ' H' → Ex G H')
    (hs : ∀ i x σ' H' H'', i < n → Pv i σ' H' → Ex H' H'' → Y i x H'' → tu { D with nx := Pv (i + 1), ct := Pv (i + 1), bk := tz D } (σ'.set j (some x)) H'') (hd : ∀ σ' H', Pv n σ' H' → tz D σ' H') : tSeq (tFor wi (gName j) tu) tz D σ H := q_for o hi Pv h0 hG hs hd
end
end Kj

/-! Kj4: data: items, kinds, depth; isinstance. -/
namespace Kj
open PySem PySem.Spec PyProof.Rows L2 Evl
section
variable {K : PySem.W.Frag} {H H' : Hp}
theorem dpa_len : ∀ {xs : List V} {ds : List PyData}, DpAll K H xs ds → xs.length = ds.length
  | _, _, .nil => rfl
  | _, _, .cons _ r => by rw [List.length_cons, List.length_cons, dpa_len r]
theorem dpa_get : ∀ {xs : List V} {ds : List PyData} {i : Nat} {x : V}, DpAll K H xs ds → xs[i]? = some x → ∃ d, ds[i]? = some d ∧ Dp K H x d
  | _, _, _, _, .nil, e => by simp at e
  | _, _, 0, _, .cons h _, e => by
    simp at e
    subst e
    exact ⟨_, rfl, h⟩
  | _, _, i + 1, _, .cons _ r, e => by
    obtain ⟨d, h1, h2⟩ := dpa_get (i := i) r (by simpa using e)
    exact ⟨d, by simpa using h1, h2⟩
theorem depthAll_get : ∀ {ds : List PyData} {i : Nat} {d : PyData}, ds[i]? = some d → d.depth ≤ PyData.depthAll ds
  | [], _, _, e => by simp at e
  | x :: r, 0, _, e => by
    simp at e
    subst e
    simp only [PyData.depthAll]
    omega
  | x :: r, i + 1, _, e => by
    have h := depthAll_get (ds := r) (i := i) (by simpa using e)
    simp only [PyData.depthAll]
    omega
/-- the kind of a datum -/
def kindS : PyData → String
  | .none => "NoneType"
  | .bool _ => "bool"
  | .int _ => "int"
  | .str _ => "str"
  | .list _ => "list"
  | .tuple _ => "tuple"
  | .dict _ => "dict"
theorem ty_sqL {a : Addr} {xs : List V} (h : SqL K H a xs) : TyX K H (.ref a) (.type "list") := by
  rcases h with (h | ⟨o, h⟩) | ⟨o, its, n, h1, h2, _⟩
  · exact .base (.lst h)
  · exact .base (.frz h)
  · exact .kList h1 h2
theorem ty_sqT {a : Addr} {xs : List V} (h : SqT K H a xs) : TyX K H (.ref a) (.type "tuple") := by
  rcases h with (h | ⟨o, h⟩) | ⟨o, its, n, h1, h2, _⟩
  · exact .base (.tup h)
  · exact .fTuple h
  · exact .kTuple h1 h2
theorem ty_dp {x : V} {d : PyData} (h : Dp K H x d) : TyX K H x (.type (kindS d)) := by
  cases h with
  | non => exact .base .non
  | bl b => exact .base (.bl b)
  | int i => exact .base (.int i)
  | str s => exact .base (.str s)
  | lst h _ => exact ty_sqL h
  | tup h _ => exact ty_sqT h
/-- isinstance(x, T) of a datum -/
theorem ev_isi {σ : L2.St} {te : TE} {x : V} {d : PyData} {n : String} {b : Bool} (h : Ev te σ H x) (hd : Dp K H x d) (hk : kitB (kindS d) n = some b) : Ev (tCB (rIsiU K) (tCons te (tCons (tC (.ty n)) tNil))) σ H (.bl b) := fun H1 e Q q =>
  h H1 e _ fun H2 e2 => .inl ⟨x, .ty n, .type (kindS d), .type n, b, rfl, .ty n, ty_dp (dp_mono (e.trans e2) hd), kit_ty hk, q H2 e2⟩
/-- isinstance(x, (T1, T2)) -/
theorem ev_isi2 {σ : L2.St} {te : TE} {x : V} {d : PyData} {n1 n2 : String} {b1 b2 : Bool} (h : Ev te σ H x) (hd : Dp K H x d) (hk1 : kitB (kindS d) n1 = some b1) (hk2 : kitB (kindS d) n2 = some b2) :
    Ev (tCB (rIsiU K) (tCons te (tCons (tTup (tCons (tC (.ty n1)) (tCons (tC (.ty n2)) tNil))) tNil))) σ H (.bl (b1 || b2)) := fun H1 e Q q =>
  h H1 e _ fun H2 e2 => ⟨by show 2 ≤ sizeLine; decide, fun p hp => .inr ⟨x, p, [.ty n1, .ty n2], .type (kindS d), [.type n1, .type n2], b1 || b2, rfl, upd_same, .cons (.ty n1) (.cons (.ty n2) .nil), ty_dp (dp_mono ((e.trans e2).trans (Ex.new hp)) hd), by
    refine kitAny_cons (kit_ty hk1) (fun h1 => kitAny_cons (kit_ty hk2) (fun h2 => ?_) (fun h2 => ?_)) (fun h1 => ?_)
    · rw [kitAny_nil, h1, h2]; rfl
    · rw [h2, Bool.or_true]
    · rw [h1, Bool.true_or], q _ (e2.trans (Ex.new hp))⟩⟩
end
mutual
/-- no list in it is too long -/
def smD : PyData → Prop
  | .list ds => ds.length ≤ 40000 ∧ smA ds
  | .tuple ds => ds.length ≤ 40000 ∧ smA ds
  | .none | .bool _ | .int _ | .str _ | .dict _ => True
def smA : List PyData → Prop
  | [] => True
  | d :: r => smD d ∧ smA r
end
theorem smA_all : ∀ {ds : List PyData}, smA ds ↔ ∀ d ∈ ds, smD d
  | [] => by simp [smA]
  | d :: r => by simp [smA, smA_all (ds := r)]
theorem smD_list {ds : List PyData} : smD (.list ds) ↔ ds.length ≤ 40000 ∧ ∀ d ∈ ds, smD d := by simp only [smD, smA_all]
theorem smD_tuple {ds : List PyData} : smD (.tuple ds) ↔ ds.length ≤ 40000 ∧ ∀ d ∈ ds, smD d := by simp only [smD, smA_all]
theorem all_true {α : Type} (l : List α) : (l.map fun _ => true).all id = true := by
  rw [List.all_eq_true]
  intro b hb
  obtain ⟨_, _, rfl⟩ := List.mem_map.mp hb
  rfl
theorem rc_all {K : PySem.W.Frag} {H : Hp} {p : Addr} {bs : List Bool} (h : SqL K H p (bs.map V.bl)) : RC (rAll K) [.ref p] H (.bl (bs.all id)) := fun H1 e _ q => ⟨p, bs, rfl, ex_l e h, q H1 (Ex.refl H1)⟩
end Kj
namespace Kj
open PySem PySem.Spec PyProof.Rows L2 Evl
section
variable {K : PySem.W.Frag} {σ : L2.St} {H G : Hp} {te : TE} {tt : TT} {g : TG} {wi : TI}
theorem filter_all {α : Type} (l : List α) : l.filter (fun _ => true) = l := List.filter_eq_self.mpr fun _ _ => rfl
/-- all([e for x in ..]), any([..]) -/
theorem ev_allX {xs : List V} {vs : List Nat} (S : V → L2.St) (b : V → Bool) (hi : EvI wi σ H G xs.length fun i x _ => xs[i]? = some x) (eG : Ex G H) (hn : xs.length ≤ 50000) (hg : ∀ x H', x ∈ xs → ∀ Q : L2.St → Hp → Prop, Q (S x) H' → g x (wipe σ vs) H' Q) (hw : ∀ x, wipe (S x) vs = wipe σ vs)
    (he : ∀ x H1, Ex H H1 → x ∈ xs → Ev te (S x) H1 (.bl (b x))) : Ev (tCB (rAll K) (tCons (tLc wi g tYes te vs) tNil)) σ H (.bl (xs.all b)) :=
  ev_cb1 (ep_l (el_lcX S (fun _ => true) (fun x => .bl (b x)) hi eG hn hg hw (fun _ _ _ _ => et_yes) fun x H1 e hx _ => he x H1 e hx)) fun v N H2 e2 i2 ⟨p, ev, hp⟩ => by
    subst ev
    have e : xs.map (fun x => V.bl (b x)) = (xs.map b).map V.bl := by rw [List.map_map]; rfl
    rw [filter_all, e] at hp
    have z := rc_all (K := K) (sq_of (i2 _ _ hp))
    rw [List.all_map] at z
    exact z
end
end Kj

/-! Kj5: own errors with fields, new instances, chains of comparisons, texts. -/
namespace Kj
open PySem PySem.Spec PyProof.Rows L2 Evl
/-! ### own errors whose __init__ lays fields -/
/-- what an __init__ that lays the fields fsn promises -/
def spXi (C : Addr) (fsn : List Str) : Sp := fun vs H Q _ => ∃ (a : Addr) (us : List V) (G : Hp), vs = .ref a :: us ∧ us.length = fsn.length ∧ H = upd G a (exo a C none) ∧ G a = none ∧
  ∀ d H2, G d = none → d ≠ a → H2 a = some (exo a C (some d)) → H2 d = some (exd d (fsn.zip us).reverse) → (∀ b, b ≠ a → b ≠ d → H2 b = G b) → Q .non H2
structure Xi (P : Program) (w : World) (K : PySem.W.Frag) (mg : Str → Option Value) (base : Heap) (x : Str) (C : Addr) (fsn : List Str) : Prop where
  g : mg x = some (.ref C)
  T : OexC K C
  ex : ∃ fI fd ps, PySem.W.findIn K (.ref C) "__init__" = some (some (.ref fI)) ∧ PySem.W.typeIn K (.ref fI) = some (.type "function") ∧ Binds K fd ps [] ∧ FnOk P w K mg base (L2.CX P w) 1 fI fd ps (spXi C fsn)
theorem pmk_exI {X : Cx} {x : Str} {C : Addr} {fsn : List Str} {k : Nat} {e : Expr} {es : List Expr} {p pos : Pos} {ta : TA} (c : Xi X.prog X.w X.K X.mg X.base x C fsn) (hr : Room k X.A) (hk : 2 ≤ k) (hg : Gl X x) (ha : PA X (e :: es) ta)
    (hdb : (x == ("__debug__" : Str)) = false := by decide) (he : starEach (e :: es) X.env = (false, eval e X.env) :: starEach es X.env := by rfl) (hpl : (backTo pos (starEach es X.env)).any (·.1) = false := by rfl) :
    PMk X (.Call (.Name x p) (e :: es) [] pos) (tMkO C (spXi C fsn) [] ta) := by
  obtain ⟨fI, fd, ps, h1, h2, b, F⟩ := c.ex
  exact pmk_oex c.T h1 h2 F (hr.mono hk) b .nil passL hg c.g ha hdb he hpl
theorem mk_xi {σ : L2.St} {H : Hp} {ta : TA} {vs : List V} {C : Addr} {fsn : List Str} {Q : XK} (ha : EvA ta σ H vs) (hl : vs.length = fsn.length) (hs : vs.length ≤ 1000) (k : ∀ H1 d, Ex H H1 → H1 d = none → Q (.ref C) (some d) (upd H1 d (.xd (fsn.zip vs).reverse))) : tMkO C (spXi C fsn) [] ta σ H Q :=
  ha H (Ex.refl H) _ fun H1 e => ⟨hs, fun a hn => ⟨a, vs, H1, by rw [List.append_nil], hl, rfl, hn, fun d H2 hd hne h1 h2 h3 => ⟨rfl, d, _, h1, h2, hd, by
    have z : upd (del H2 a) d (.xd (fsn.zip vs).reverse) = upd H1 d (.xd (fsn.zip vs).reverse) := by
      funext b
      by_cases q : b = d
      · subst q
        rw [upd_same, upd_same]
      · rw [upd_ne q, upd_ne q]
        by_cases qa : b = a
        · subst qa
          rw [del_same, hn]
        · rw [del_ne qa]
          exact h3 b qa q
    rw [z]
    exact k H1 d e hd⟩⟩⟩
/-- a raise with fields, to what is wished of it -/
theorem raise_xi {σ : L2.St} {H G : Hp} {Ns : List Hp} {j : Nat} {ta : TA} {vs : List V} {C : Addr} {fsn : List Str} {mg : Str → Option Value} {x : Str} {E : XK} (o : Own Ns H) (hj : Ns[j]? = some G) (ha : EvA ta σ H vs) (hl : vs.length = fsn.length) (hs : vs.length ≤ 1000) (hn : fsn ≠ []) (g : mg x = some (.ref C)) (k : RaiseX mg x (fsn.zip vs).reverse G E) :
    tMkO C (spXi C fsn) [] ta σ H E := mk_xi ha hl hs fun H1 d e hd => k _ C (some d) (((o.ix hj).trans e).trans (Ex.new hd)) g (.inr ⟨d, rfl, upd_same, ex_none ((o.ix hj).trans e) hd, by
  cases fsn with
  | nil => exact absurd rfl hn
  | cons f r =>
    cases vs with
    | nil => exact absurd hl (by simp)
    | cons v t => intro z; simp at z⟩)
theorem ps_ostK {X : Cx} (K : PySem.W.Frag) {o e : Expr} {f : Str} {to te : TE} {p' pos : Pos} (ho : PE X o to) (he : PE X e te) (hs : swapsWith e (some (.Attribute o f p')) pos.line X.env = pure false := by rfl) (hK : X.K = K := by rfl) : PS X (.Assign [.Attribute o f p'] e pos) (tOst K f to te) := by subst hK; exact ps_ost ho he hs
/-! ### a new instance -/
/-- S: what the class's call promises of its arguments; the __init__'s own promise -/
def Rl.spI (S : Rl) (mg : Str → Option Value) (C : Addr) : Sp := fun vs H Q E => ∃ (x dx : Addr) (us : List V) (G : Hp) (r : Res), vs = .ref x :: us ∧ H = upd (upd G dx (.own x)) x (.ins C dx []) ∧ G x = none ∧ G dx = none ∧ dx ≠ x ∧ S.R us G r ∧
  match r with
  | .ok P => ∀ H' N, Ex G H' → Ex N H' → Fr G N → P N (.ref x) → Q .non H'
  | .err xn fs => RaiseX mg xn fs G E
section
variable {K : PySem.W.Frag} {mg : Str → Option Value} {σ : L2.St} {H G : Hp} {ta tb te tc : TE} {tr : TA} {t u : TT} {x y z v : V} {P : Hp → V → Prop} {S : Rl} {E : L2.St → XK} {W : WX} {vs : List V} {Ps : List (Hp → V → Prop)} {xn : Str} {fs : List (Str × V)} {C : Addr}
/-- the heap in which an __init__ begins -/
theorem own_init {x dx : Addr} {o : HO} (hx : G x = none) (hdx : G dx = none) (hne : dx ≠ x) : Own [sing x o, G] (upd (upd G dx (.own x)) x o) :=
  ⟨sing_ex upd_same, fun M hM a ha => by
    have z : M = G := by simpa using hM
    subst z
    by_cases q : a = x
    · subst q; exact hx
    · exact absurd (sing_ne q) ha, fun a u e => by
    rw [upd_ne (ne_of_none e hx), upd_ne (ne_of_none e hdx)]
    exact e, (fun _ h => nomatch h), trivial⟩
/-- self.f = e, self a part of its own -/
theorem s_fld {Ns : List Hp} {D : Ends} {a dx : Addr} {gs : List (Str × V)} {f : Str} {j : Nat} (o : Own Ns H) (hj : Ns[j]? = some (sing a (.ins C dx gs))) (ho : Ev ta σ H (.ref a)) (h : EvP te σ H P) (c : Cls K C) (n : NoAttr K C f) (hl : gs.length < 1000) (k : ∀ v H1 N, Own (N :: Ns.set j (sing a (.ins C dx (putF f v gs)))) H1 → P N v → D.nx σ H1) : sFld K ta te f D σ H :=
  h H (Ex.refl H) _ fun v H1 N e e2 fr p => ho H1 e _ fun H2 e3 => ⟨a, C, dx, gs, rfl, e3 _ _ (e _ _ (o.at hj)), c, n, hl, k v _ N ((((o.add e e2 fr).mono e3)).set (j := j + 1) hj) p⟩
/-! ### chains -/
theorem ev_chain {p q : Int → Int → Bool} {a b c : Int} (h1 : Ev ta σ H (.int a)) (h2 : Ev tb σ H (.int b)) (h3 : Ev tc σ H (.int c)) : Ev (tChain (rI0 fun i j => .bl (p i j)) (rI0 fun i j => .bl (q i j)) ta tb tc) σ H (.bl (p a b && q b c)) := fun H1 e Q k =>
  h1 H1 e _ fun H2 e2 => h2 H2 (e.trans e2) _ fun H3 e3 => ⟨a, b, rfl, rfl, p a b, rfl, by
    cases hp : p a b with
    | true =>
      show tc σ H3 _
      exact h3 H3 ((e.trans e2).trans e3) _ fun H4 e4 => ⟨b, c, rfl, rfl, by
        have z := k H4 ((e2.trans e3).trans e4)
        rw [hp, Bool.true_and] at z
        exact z⟩
    | false =>
      show Q (.bl false) H3
      have z := k H3 (e2.trans e3)
      rw [hp, Bool.false_and] at z
      exact z⟩
end
end Kj
namespace Kj
open PySem PySem.Spec PyProof.Rows L2 Evl
/-! ### data of texts and numbers -/
/-- a text that may be handed about: not too long, of plain signs -/
def TxtOk (s : Str) : Prop := s.length ≤ 1000 ∧ ∀ c ∈ s.cps.toList, c < 128
abbrev eLine (l : List Str) : PyData := .list (l.map .str)
abbrev eBook (ls : List (List Str)) : PyData := .list (ls.map eLine)
abbrev eInts (ns : List Int) : PyData := .list (ns.map .int)
section
variable {K : PySem.W.Frag} {H : Hp}
theorem dpa_strs : ∀ {l : List Str} {xs : List V}, DpAll K H xs (l.map .str) ↔ xs = l.map V.str
  | [], xs => ⟨fun h => by cases h; rfl, fun h => by subst h; exact .nil⟩
  | s :: l, xs => ⟨fun h => by
      cases h with
      | cons h1 h2 =>
        cases h1
        rw [dpa_strs.mp h2]
        rfl, fun h => by subst h; exact .cons (.str s) (dpa_strs.mpr rfl)⟩
theorem dpa_ints : ∀ {l : List Int} {xs : List V}, DpAll K H xs (l.map .int) ↔ xs = l.map V.int
  | [], xs => ⟨fun h => by cases h; rfl, fun h => by subst h; exact .nil⟩
  | s :: l, xs => ⟨fun h => by
      cases h with
      | cons h1 h2 =>
        cases h1
        rw [dpa_ints.mp h2]
        rfl, fun h => by subst h; exact .cons (.int s) (dpa_ints.mpr rfl)⟩
theorem dp_line {x : V} {l : List Str} : Dp K H x (eLine l) ↔ ∃ q, x = .ref q ∧ SqL K H q (l.map V.str) :=
  ⟨fun h => by
    cases h with
    | lst h1 h2 => exact ⟨_, rfl, dpa_strs.mp h2 ▸ h1⟩, fun ⟨q, e, h⟩ => by subst e; exact .lst h (dpa_strs.mpr rfl)⟩
theorem dp_ints {x : V} {l : List Int} : Dp K H x (eInts l) ↔ ∃ q, x = .ref q ∧ SqL K H q (l.map V.int) :=
  ⟨fun h => by
    cases h with
    | lst h1 h2 => exact ⟨_, rfl, dpa_ints.mp h2 ▸ h1⟩, fun ⟨q, e, h⟩ => by subst e; exact .lst h (dpa_ints.mpr rfl)⟩
/-- rows by their places -/
def Rows (K : PySem.W.Frag) (H : Hp) (xs : List V) (ls : List (List Str)) : Prop := Paired (fun x l => ∃ q, x = V.ref q ∧ SqL K H q (l.map V.str)) xs ls
theorem dpa_rows : ∀ {ls : List (List Str)} {xs : List V}, DpAll K H xs (ls.map eLine) ↔ Rows K H xs ls
  | [], xs => ⟨fun h => by cases h; exact .nil, fun h => by cases h; exact .nil⟩
  | s :: l, xs => ⟨fun h => by
      cases h with
      | cons h1 h2 => exact .cons (dp_line.mp h1) (dpa_rows.mp h2), fun h => by
      cases h with
      | cons h1 h2 => exact .cons (dp_line.mpr h1) (dpa_rows.mpr h2)⟩
theorem dp_book {x : V} {ls : List (List Str)} : Dp K H x (eBook ls) ↔ ∃ q xs, x = .ref q ∧ SqL K H q xs ∧ Rows K H xs ls :=
  ⟨fun h => by
    cases h with
    | lst h1 h2 => exact ⟨_, _, rfl, h1, dpa_rows.mp h2⟩, fun ⟨q, xs, e, h, r⟩ => by subst e; exact .lst h (dpa_rows.mpr r)⟩
theorem Rows.len {xs : List V} {ls : List (List Str)} (r : Rows K H xs ls) : xs.length = ls.length := Paired.length r
theorem Rows.get : ∀ {xs : List V} {ls : List (List Str)} {i : Nat} {l : List Str}, Rows K H xs ls → ls[i]? = some l → ∃ q, xs[i]? = some (.ref q) ∧ SqL K H q (l.map V.str)
  | _, _, _, _, .nil, e => by simp at e
  | _, _, 0, _, .cons h _, e => by
    simp at e
    subst e
    obtain ⟨q, h1, h2⟩ := h
    exact ⟨q, by simp [h1], h2⟩
  | _, _, i + 1, _, .cons _ r, e => by
    obtain ⟨q, h1, h2⟩ := Rows.get (i := i) r (by simpa using e)
    exact ⟨q, by simpa using h1, h2⟩
theorem Rows.mono {H' : Hp} {xs : List V} {ls : List (List Str)} (e : Ex H H') (r : Rows K H xs ls) : Rows K H' xs ls := paired_imp (fun _ _ ⟨q, h1, h2⟩ => ⟨q, h1, ex_l e h2⟩) r
end
theorem eqvAll_strs : ∀ a b : List Str, PyData.eqvAll (a.map .str) (b.map .str) = decide (a = b)
  | [], [] => by simp [PyData.eqvAll]
  | [], _ :: _ => by simp [PyData.eqvAll]
  | _ :: _, [] => by simp [PyData.eqvAll]
  | x :: a, y :: b => by
    simp only [List.map_cons, PyData.eqvAll, PyData.eqv, eqvAll_strs a b]
    by_cases h : x = y
    · subst h
      by_cases h2 : a = b <;> simp [h2]
    · have e : (x == y) = false := by simpa using h
      simp [h]
theorem eqv_line (a b : List Str) : PyData.eqv (eLine a) (eLine b) = decide (a = b) := by simp only [PyData.eqv, eqvAll_strs]
theorem eqvAll_rows : ∀ a b : List (List Str), PyData.eqvAll (a.map eLine) (b.map eLine) = decide (a = b)
  | [], [] => by simp [PyData.eqvAll]
  | [], _ :: _ => by simp [PyData.eqvAll]
  | _ :: _, [] => by simp [PyData.eqvAll]
  | x :: a, y :: b => by
    simp only [List.map_cons, PyData.eqvAll, eqv_line, eqvAll_rows a b]
    by_cases h : x = y <;> by_cases h2 : a = b <;> simp [h, h2]
theorem eqv_book (a b : List (List Str)) : PyData.eqv (eBook a) (eBook b) = decide (a = b) := by simp only [PyData.eqv, eqvAll_rows]
theorem strOk_of {s : Str} (h : TxtOk s) : PyData.strOk s = true := by
  unfold PyData.strOk
  rw [← Array.all_toList]
  exact List.all_eq_true.mpr fun c hc => decide_eq_true (by have := h.2 c hc; omega)
theorem lay_strs {l : List Str} (h : ∀ s ∈ l, TxtOk s) : PyData.canLayAll0 (l.map .str) = true := by
  induction l with
  | nil => simp [PyData.canLayAll0]
  | cons s l ih =>
    simp only [List.map_cons, PyData.canLayAll0, PyData.canLay0, strOk_of (h s List.mem_cons_self), ih fun t ht => h t (List.mem_cons_of_mem _ ht), Bool.and_self]
theorem depth_strs (l : List Str) : PyData.depthAll (l.map .str) = 0 := by
  induction l with
  | nil => simp [PyData.depthAll]
  | cons s l ih => simp [PyData.depthAll, PyData.depth, ih]
theorem depth_rows (ls : List (List Str)) : PyData.depthAll (ls.map eLine) ≤ 1 := by
  induction ls with
  | nil => simp [PyData.depthAll]
  | cons l ls ih =>
    simp only [List.map_cons, PyData.depthAll, PyData.depth, depth_strs]
    omega
theorem shaped_line {l : List Str} (h : ∀ s ∈ l, TxtOk s) : SeqAt.shaped (eLine l) = true := by
  show ((eLine l).canLay0 && decide ((eLine l).depth ≤ 64)) = true
  simp only [PyData.canLay0, lay_strs h, PyData.depth, depth_strs]
  decide
theorem shaped_book {ls : List (List Str)} (h : ∀ l ∈ ls, ∀ s ∈ l, TxtOk s) : SeqAt.shaped (eBook ls) = true := by
  have h1 : PyData.canLayAll0 (ls.map eLine) = true := by
    induction ls with
    | nil => simp [PyData.canLayAll0]
    | cons l ls ih =>
      simp only [List.map_cons, PyData.canLayAll0, PyData.canLay0, lay_strs (h l List.mem_cons_self), ih fun t ht => h t (List.mem_cons_of_mem _ ht), Bool.and_self]
  have h2 := depth_rows ls
  show ((eBook ls).canLay0 && decide ((eBook ls).depth ≤ 64)) = true
  rw [Bool.and_eq_true]
  exact ⟨by simp only [PyData.canLay0, h1], decide_eq_true (by simp only [PyData.depth]; omega)⟩
theorem smD_line {l : List Str} (h : l.length ≤ 40000) : smD (eLine l) := smD_list.mpr ⟨by rw [List.length_map]; exact h, fun d hd => by
  obtain ⟨s, _, rfl⟩ := List.mem_map.mp hd
  simp [smD]⟩
theorem smD_book {ls : List (List Str)} (h : ls.length ≤ 40000) (h2 : ∀ l ∈ ls, l.length ≤ 40000) : smD (eBook ls) := smD_list.mpr ⟨by rw [List.length_map]; exact h, fun d hd => by
  obtain ⟨l, hl, rfl⟩ := List.mem_map.mp hd
  exact smD_line (h2 l hl)⟩
theorem paired_get {α β : Type} {R : α → β → Prop} : ∀ {xs : List α} {ys : List β} {i : Nat} {x : α}, Paired R xs ys → xs[i]? = some x → ∃ y, ys[i]? = some y ∧ R x y
  | _, _, _, _, .nil, e => by simp at e
  | _, _, 0, _, .cons h _, e => by
    simp at e
    subst e
    exact ⟨_, rfl, h⟩
  | _, _, i + 1, _, .cons _ r, e => by
    obtain ⟨y, h1, h2⟩ := paired_get (i := i) r (by simpa using e)
    exact ⟨y, by simpa using h1, h2⟩
theorem paired_of {α β : Type} {R : α → β → Prop} : ∀ {xs : List α} {ys : List β}, xs.length = ys.length → (∀ (i : Nat) (x : α) (y : β), xs[i]? = some x → ys[i]? = some y → R x y) → Paired R xs ys
  | [], [], _, _ => .nil
  | [], _ :: _, h, _ => by simp at h
  | _ :: _, [], h, _ => by simp at h
  | x :: xs, y :: ys, h, k => .cons (k 0 x y rfl rfl) (paired_of (by simpa using h) fun i a b h1 h2 => k (i + 1) a b (by simpa using h1) (by simpa using h2))
theorem picks_all (n : Nat) : picks n (fun _ => true) = List.range n := List.filter_eq_self.mpr fun _ _ => rfl
theorem el_is {te : TE} {σ : L2.St} {H : Hp} {xs ys : List V} (h : EvL te σ H xs) (e : xs = ys) : EvL te σ H ys := e ▸ h
/-- xs + ys, a new list -/
theorem ep_catN {K : PySem.W.Frag} {σ : L2.St} {H : Hp} {ta tb : TE} {P1 P2 P : Hp → V → Prop} (h1 : EvP ta σ H P1) (h2 : EvP tb σ H P2)
    (hp : ∀ N1 N2 H1 v1 v2, Ex H H1 → Ex N1 H1 → Ex N2 H1 → P1 N1 v1 → P2 N2 v2 → ∃ a b xs ys, v1 = .ref a ∧ v2 = .ref b ∧ H1 a = some (.lst xs) ∧ H1 b = some (.lst ys) ∧ xs.length + ys.length ≤ 100000 ∧ ∀ p, P (sing p (.lst (xs ++ ys))) (.ref p)) : EvP (tOp (rAddU K) ta tb) σ H P := fun H1 e Q q =>
  h1 H1 e _ fun v1 H2 N1 e2 i1 _ p1 => h2 H2 (e.trans e2) _ fun v2 H3 N2 e3 i2 _ p2 => by
    obtain ⟨a, b, xs, ys, rfl, rfl, h3, h4, h5, h6⟩ := hp N1 N2 H3 v1 v2 ((e.trans e2).trans e3) (i1.trans e3) i2 p1 p2
    exact .inr (.inl ⟨a, b, xs, ys, rfl, rfl, h3, h4, sz_of h5, fun p hp0 => q (.ref p) _ (sing p (.lst (xs ++ ys))) ((e2.trans e3).trans (Ex.new hp0)) (sing_ex upd_same) (sing_fr (fresh_back (e2.trans e3) hp0)) (h6 p)⟩)
theorem ep_cat {K : PySem.W.Frag} {σ : L2.St} {H : Hp} {ta tb : TE} {P2 P : Hp → V → Prop} {a : Addr} {xs : List V} (h1 : Ev ta σ H (.ref a)) (ha : H a = some (.lst xs)) (h2 : EvP tb σ H P2)
    (hp : ∀ N v, P2 N v → ∃ b ys, v = .ref b ∧ N b = some (.lst ys) ∧ xs.length + ys.length ≤ 100000 ∧ ∀ p, P (sing p (.lst (xs ++ ys))) (.ref p)) : EvP (tOp (rAddU K) ta tb) σ H P :=
  ep_catN (ep_v h1) h2 fun N1 N2 H1 v1 v2 e i1 i2 p1 p2 => by
    obtain ⟨b, ys, e1, e2, e3, e4⟩ := hp N2 v2 p2
    exact ⟨a, b, xs, ys, p1, e1, e _ _ ha, i2 _ _ e2, e3, e4⟩
section
variable {K : PySem.W.Frag} {σ : L2.St} {H G : Hp} {te : TE} {g : TG} {wi : TI} {n : Nat} {Y : Nat → V → Hp → Prop}
/-- all([..]), any([..]), by places -/
theorem ev_allI {vs : List Nat} (S : Nat → L2.St) (b : Nat → Bool) (hi : EvI wi σ H G n Y) (eG : Ex G H) (hn : n ≤ 50000) (hg : ∀ i x H', i < n → Y i x H' → ∀ Q : L2.St → Hp → Prop, Q (S i) H' → g x (wipe σ vs) H' Q) (hw : ∀ i, i < n → wipe (S i) vs = wipe σ vs)
    (he : ∀ i H1, Ex H H1 → i < n → Ev te (S i) H1 (.bl (b i))) : Ev (tCB (rAll K) (tCons (tLc wi g tYes te vs) tNil)) σ H (.bl ((List.range n).all b)) :=
  ev_cb1 (ep_l (el_lc S (fun _ => true) (fun i => .bl (b i)) hi eG hn hg hw (fun _ _ _ _ => et_yes) fun i H1 e hlt _ => he i H1 e hlt)) fun v N H2 e2 i2 ⟨p, ev, hp⟩ => by
    subst ev
    have e : (List.range n).map (fun i => V.bl (b i)) = ((List.range n).map b).map V.bl := by rw [List.map_map]; rfl
    rw [picks_all, e] at hp
    have z := rc_all (K := K) (sq_of (i2 _ _ hp))
    rw [List.all_map] at z
    exact z
end
/-- the first, second, .. of the parts is moved to the head -/
theorem Own.pull {H N : Hp} : ∀ {Ns : List Hp} {i : Nat}, Own Ns H → Ns[i]? = some N → Own (N :: Ns.eraseIdx i) H
  | M :: r, 0, o, h => by
    have e : M = N := Option.some.inj h
    subst e
    exact o
  | M :: r, i + 1, o, h => by
    have z : Own (N :: r.eraseIdx i) H := Own.pull o.2.2 h
    refine ⟨z.1, fun M' hM' => ?_, o.1, fun M' hM' => ?_, z.2.2⟩
    · rcases List.mem_cons.mp hM' with q | q
      · subst q
        exact (o.2.1 N (List.mem_of_getElem? h)).symm
      · exact z.2.1 M' q
    · exact o.2.1 M' (List.mem_of_mem_eraseIdx hM')
/-- a slice of a new list -/
theorem ep_slN {K : PySem.W.Frag} {σ : L2.St} {H : Hp} {te : TE} {tl th : TO} {xs ys : List V} {lo hi : Option Int} (h : EvP te σ H (pLst xs)) (h1 : EvO tl σ H lo) (h2 : EvO th σ H hi) (e0 : cutV xs lo hi = ys) : EvP (tSl (rSlU K) te tl th) σ H (pLst ys) := fun H1 e Q q =>
  h H1 e _ fun v H2 N e2 i2 _ ⟨a, ev, ha⟩ => h1 H2 (e.trans e2) _ fun H3 e3 => h2 H3 ((e.trans e2).trans e3) _ fun H4 e4 => by
    subst ev
    refine .inl (.inl ⟨a, xs, rfl, sq_of (e4 _ _ (e3 _ _ (i2 _ _ ha))), fun p hp => ?_⟩)
    rw [e0]
    exact q (.ref p) _ (sing p (.lst ys)) (((e2.trans e3).trans e4).trans (Ex.new hp)) (sing_ex upd_same) (sing_fr (fresh_back ((e2.trans e3).trans e4) hp)) ⟨p, rfl, sing_at⟩
theorem own_merge2 {H L N M : Hp} {r : List Hp} (o : Own (L :: N :: M :: r) H) : Own (L :: uni M N :: r) H :=
  ⟨o.1, fun M' hM' a ha => by
    rcases List.mem_cons.mp hM' with z | z
    · subst z
      have d1 := o.2.1 N List.mem_cons_self
      have d2 := o.2.1 M (List.mem_cons_of_mem _ List.mem_cons_self)
      unfold uni
      rw [d1 a ha]
      exact d2 a ha
    · exact o.2.1 M' (List.mem_cons_of_mem _ (List.mem_cons_of_mem _ z)) a ha, o.2.2.merge⟩
/-- a slice of a new list, of which not all is told -/
theorem ep_slP {K : PySem.W.Frag} {σ : L2.St} {H : Hp} {te : TE} {tl th : TO} {lo hi : Option Int} {P P' : Hp → V → Prop} (h : EvP te σ H P) (h1 : EvO tl σ H lo) (h2 : EvO th σ H hi) (hp : ∀ N v, P N v → ∃ a xs, v = .ref a ∧ N a = some (.lst xs) ∧ ∀ p, P' (sing p (.lst (cutV xs lo hi))) (.ref p)) : EvP (tSl (rSlU K) te tl th) σ H P' := fun H1 e Q q =>
  h H1 e _ fun v H2 N e2 i2 _ pv => h1 H2 (e.trans e2) _ fun H3 e3 => h2 H3 ((e.trans e2).trans e3) _ fun H4 e4 => by
    obtain ⟨a, xs, ev, ha, k⟩ := hp N v pv
    subst ev
    refine .inl (.inl ⟨a, xs, rfl, sq_of (e4 _ _ (e3 _ _ (i2 _ _ ha))), fun p hp => ?_⟩)
    exact q (.ref p) _ (sing p (.lst (cutV xs lo hi))) (((e2.trans e3).trans e4).trans (Ex.new hp)) (sing_ex upd_same) (sing_fr (fresh_back ((e2.trans e3).trans e4) hp)) (k p)
theorem own_emp {H L : Hp} {r : List Hp} (o : Own (L :: r) H) : Own (L :: emp :: r) H := ⟨o.1, fun M hM => by
  rcases List.mem_cons.mp hM with z | z
  · subst z; exact fun _ _ => rfl
  · exact o.2.1 M z, emp_ex, (fun _ _ a ha => absurd rfl ha), o.2.2⟩
/-! ### calls that change what they are handed: a part is given away, all else stays -/
def Hv (N H H' : Hp) : Prop := ∀ a o, H a = some o → N a = none → H' a = some o
theorem Hv.own {N H H' : Hp} (h : Hv N H H') : ∀ {Ns : List Hp}, Own Ns H → (∀ M ∈ Ns, Dj N M) → Own Ns H'
  | [], _, _ => trivial
  | M :: r, o, d => ⟨fun a u hu => h a u (o.1 a u hu) (by
      cases q : N a with
      | none => rfl
      | some z =>
        have := d M List.mem_cons_self a (by rw [q]; exact fun z => nomatch z)
        rw [this] at hu
        cases hu), o.2.1, Hv.own h o.2.2 fun M hM => d M (List.mem_cons_of_mem _ hM)⟩
section
variable {σ : L2.St} {H : Hp} {Ns : List Hp} {ta : TA} {te : TE} {tz : TS} {D : Ends} {R : List V → Hp → Prop} {E : L2.St → XK} {vs us : List V} {N : Hp} {P : Hp → V → Prop}
end
theorem Hv.refl {N H : Hp} : Hv N H H := fun _ _ h _ => h
theorem Hv.ex {N H H1 H2 : Hp} (h : Hv N H H1) (e : Ex H1 H2) : Hv N H H2 := fun a o h1 h2 => e _ _ (h a o h1 h2)
theorem Hv.upd {N H H1 : Hp} {q : Addr} {u : HO} (h : Hv N H H1) (hq : N q ≠ none) : Hv N H (upd H1 q u) := fun a o h1 h2 => by
  unfold L2.upd
  split
  · rename_i e
    subst e
    exact absurd h2 hq
  · exact h a o h1 h2
section
variable {K : PySem.W.Frag} {σ : L2.St} {H : Hp} {ta : TE} {D : Ends}
end
end Kj

/-! Kj6: what is told of a value in the heap that holds it (nothing is changed behind it): no new part is named. -/
namespace Kj
open PySem PySem.Spec PyProof.Rows L2 Evl
def EvH (te : TE) (σ : L2.St) (H : Hp) (C : Hp → V → Prop) : Prop := ∀ H1, Ex H H1 → ∀ Q : VK, (∀ v H2, Ex H1 H2 → C H2 v → Q v H2) → te σ H1 Q
/-- a promise of such a kind -/
structure Rh where
  R : List V → Hp → (Hp → V → Prop) → Prop
  mono : ∀ {vs H H' C}, Ex H H' → R vs H C → R vs H' C
def Rh.sp (S : Rh) : Sp := fun vs H Q _ => ∃ C, S.R vs H C ∧ ∀ v H', Ex H H' → C H' v → Q v H'
section
variable {K : PySem.W.Frag} {mg : Str → Option Value} {σ : L2.St} {H H' : Hp} {ta tb te tx : TE} {tr : TA} {x y z v : V} {r : R2} {P : Hp → V → Prop} {C C1 C2 : Hp → V → Prop} {S : Rl} {E : L2.St → XK} {vs : List V}
theorem EvH.mono (e : Ex H H') (h : EvH te σ H C) : EvH te σ H' C := fun H1 a Q q => h H1 (e.trans a) Q q
end
section
variable {K : PySem.W.Frag} {σ : L2.St} {H : Hp} {te : TE} {tz : TS} {D : Ends} {C : Hp → V → Prop}
end
end Kj

/-! Kj7: several except clauses, some of which name the exception. -/
namespace Kj
open PySem PySem.Spec PyProof.Rows L2 Evl
abbrev Suite := Addr → Value → Option Addr → TS
/-- the ends of a suite behind which slot i is unset -/
def unE (D : Ends) (i : Nat) : Ends := { nx := fun τ G => D.nx (τ.set i none) G, rt := D.rt, bk := fun τ G => D.bk (τ.set i none) G, ct := fun τ G => D.ct (τ.set i none) G }
def wMix (K : PySem.W.Frag) (Wo : WX) (D : Ends) : List (Value × Option Nat × Suite) → WX
  | [] => Wo
  | (c, none, ts) :: r => fun cl dd τ G => ∃ b, PySem.W.exmOne K cl c = some b ∧ (b = true → ∀ a, G a = none → ts a cl dd D τ G) ∧ (b = false → wMix K Wo D r cl dd τ G)
  | (c, some i, ts) :: r => fun cl dd τ G => ∃ b, PySem.W.exmOne K cl c = some b ∧ (b = true → ∀ a, G a = none → ts a cl dd (unE D i) (τ.set i (some (.ref a))) G) ∧ (b = false → wMix K Wo D r cl dd τ G)
inductive HdA (X : Cx) : List ExceptHandler → List (Value × Option Nat × Suite) → Prop
  | nil : HdA X [] []
  | cons {x : Str} {c : Value} {ts : Suite} {s1 : Stmt} {su : List Stmt} {p1 p2 : Pos} {hr : List ExceptHandler} {lr : List (Value × Option Nat × Suite)} (hc : Names X x c)
      (hsu : ∀ (a : Addr) (oe : Obj) (cls : Value) (d : Option Addr) (pn : List (Addr × Obj)), Zc cls d oe → (∃ fv, oe.data = .fields fv) → PSs (X.suite a ((a, oe) :: pn)) (s1 :: su) (ts a cls d)) (r : HdA X hr lr) :
      HdA X (.ExceptHandler (some (.Name x p1)) none (s1 :: su) p2 :: hr) ((c, none, ts) :: lr)
  | named {x n : Str} {i : Nat} {c : Value} {ts : Suite} {s1 : Stmt} {su : List Stmt} {p1 p2 : Pos} {hr : List ExceptHandler} {lr : List (Value × Option Nat × Suite)} (hN : X.N.Nodup) (hi : X.N[i]? = some n) (hln : X.env.kindOf n = some .local) (hc : Names X x c)
      (hsu : ∀ (a : Addr) (oe : Obj) (cls : Value) (d : Option Addr) (pn : List (Addr × Obj)), Zc cls d oe → (∃ fv, oe.data = .fields fv) → PSs (X.suite a ((a, oe) :: pn)) (s1 :: su) (ts a cls d)) (r : HdA X hr lr) :
      HdA X (.ExceptHandler (some (.Name x p1)) (some n) (s1 :: su) p2 :: hr) ((c, some i, ts) :: lr)
section
variable {X : Cx} {bd : List Stmt} {h1 : ExceptHandler} {hr : List ExceptHandler} {lr : List (Value × Option Nat × Suite)} {pos : Pos} {tb : WX → TS} {Wo : WX}
theorem ps_try_mix (hst : X.stack = X.env :: X.outer) (hfl : X.env.frame = some X.env.locals) (tk : Takes X Wo)
    (hbd : ∀ (W : WX) (qn : List (Addr × Obj)) (xe : Value → Shared → Prop), Takes (X.tr qn xe) W → PassesOwn (model X.prog X.w) X.A X.env xe → PSs (X.tr qn xe) bd (tb W))
    (hhd : HdA X (h1 :: hr) lr) : PS X (.Try bd (h1 :: hr) [] [] pos) (fun D τ G => tb (wMix X.K Wo D lr) D τ G) := by
  refine ⟨fun ps0 s0 τ0 G0 D I0 z0 => ?_⟩
  have okX := I0.ok
  have hfrs : X.A.frames = some (X.env :: X.outer) := by rw [okX.frames, hst]
  refine wpAny_Try_except ?_
  refine wpAny_mono ((hbd (wMix X.K Wo D lr) (X.pn ++ ps0) (fun ev t1 => wpAny (model X.prog X.w) X.A (noteFrame ev X.env) (fun _ t2 => wpAny (model X.prog X.w) X.A (setFlight ev none) (fun _ t3 => wpAny (model X.prog X.w) X.A (handleBy ev X.env (h1 :: hr)) (SP X ps0 D) X.xe t3) X.xe t2) X.xe t1) (fun u0 t0 xx => ?_) PassesOwn.looking).run [] s0 τ0 G0 D (I0.toTry _) z0) (fun fl t1 sp1 => ?_) (fun _ _ he => he)
  · obtain ⟨a, B0, sJ, psJ, τ1, G1, cl, dd, rfl, J0, nb, up, sky, na, os, ag, wm⟩ := xx
    have J1 : Inv X ps0 τ1 G1 sJ := J0.ofTry okX
    have skyX : Sky B0 (X.env :: X.outer) a (Zc cl dd) X.env.locals t0.heap := by rw [← hst]; exact sky
    show wpAny (model X.prog X.w) X.A (noteFrame (.ref a) X.env) _ _ _
    refine Sky.land Zc.steady hfrs hfl skyX fun g3 fg3 ug3 => ?_
    have J3 : Inv X ps0 τ1 G1 { t0 with heap := g3 } := J1.landed nb fg3.1 (up.trans ug3) os ag
    obtain ⟨ob3, fv3, at3, zc3, dt3⟩ := fg3.there
    have outF : a ∉ frs (X.env :: X.outer) := fun hm => by
      obtain ⟨_, ob', at', hnf⟩ := fg3.2.2.1.mem hm
      rw [at3] at at'
      cases at'
      exact hnf _ dt3
    have outL : a ≠ X.env.locals := fun z => outF (List.mem_filterMap.mpr ⟨X.env, List.mem_cons_self, by rw [hfl, z]⟩)
    have outS : a ∉ X.fs := fun hm => by
      obtain ⟨en, hen, q⟩ := List.mem_filterMap.mp hm
      exact outF (List.mem_filterMap.mpr ⟨en, List.mem_cons_of_mem _ hen, q⟩)
    have S3 := J3.suite at3 dt3 na outL outS
    have tst : ∀ {x : Str} {c : Value} {np : Pos} {Q E : Value → Shared → Prop}, Names X x c → Q c { t0 with heap := g3 } → wpAny (model X.prog X.w) (X.A.mark (some (.ref a))) (eval (.Name x np) X.env) Q E { t0 with heap := g3 } := fun {x c np Q E} hc q => by
      obtain ⟨hgl, hdb, hm | ⟨hm, hv, hnn⟩⟩ := hc
      · exact ld_glob (X := X.suite a ((a, ob3) :: (X.pn ++ ps0))) S3 hgl hm q hdb
      · exact ld_blt (X := X.suite a ((a, ob3) :: (X.pn ++ ps0))) S3 hgl hm hv q hnn hdb
    have LT : PySem.W.Looks (model X.prog X.w) g3 (typeOf (.ref a)) cl := fun _ _ _ _ kk q => wpAny_typeOf_ref (kk _ _ at3) (by rw [zc3.1]; exact q)
    have go : ∀ {hx : List ExceptHandler} {lx : List (Value × Option Nat × Suite)}, HdA X hx lx → wMix X.K Wo D lx cl dd τ1 G1 → wpAny (model X.prog X.w) X.A (handleBy (.ref a) X.env hx) (SP X ps0 D) X.xe { t0 with heap := g3 } := by
      intro hx lx hk
      induction hk with
      | nil =>
        intro wm
        refine wpAny_handleBy_nil ?_
        obtain ⟨_, _, _, _, _, T0, _, _, atT, _, dtT, f1, _⟩ := id fg3
        unfold PySem.passOn
        refine wpAny_bind (wpAny_field atT dtT f1 ?_)
        rw [if_neg (show ¬ ((Value.ref T0 == Value.none) = true) from by simp)]
        have fin : wpAny (model X.prog X.w) X.A (setFlight (.ref a) X.env.frame) (fun _ t4 => wpAny (model X.prog X.w) X.A (throw (.ref a) : Sem Flow) (SP X ps0 D) X.xe t4) X.xe { t0 with heap := g3 } := by
          rw [hfl]
          refine HandSPX.setFlight_upZ fg3 fun g4 hg4 ug4 => wpAny_throw (tk _ _ ?_)
          exact ⟨a, B0, sJ, ps0, τ1, G1, cl, dd, rfl, J1, nb, (up.trans ug3).trans ug4, .inr (.inr (by rw [hst]; exact hg4)), na, os, ag, wm⟩
        first
          | exact wpAny_bind (wpAny_pure (wpAny_bind fin))
          | exact wpAny_bind fin
      | cons hc hsu r ih =>
        intro wm
        obtain ⟨b, hb1, yes, no⟩ := wm
        refine wpAny_handleBy_cons (codeAny_handlers_test ?_) (by intro q; cases q)
        refine tst hc ((PySem.W.exm_one (M := model X.prog X.w) (J3.kIn) LT hb1).here ?_)
        cases b with
        | true =>
          refine codeAny_handlers_suite ?_
          refine HandSPX.lands_againZ fg3 fun g4 fg4 ug4 => ?_
          have J4 : Inv X ps0 τ1 G1 { t0 with heap := g4 } := J1.landed nb fg4.1 ((up.trans ug3).trans ug4) os ag
          obtain ⟨ob4, fv4, at4, zc4, dt4⟩ := fg4.there
          refine wpAny_mono ((hsu a ob4 cl dd (X.pn ++ ps0) zc4 ⟨_, dt4⟩).run [] _ _ G1 _ (J4.suite at4 dt4 na outL outS) (yes rfl a na)) (fun fl t6 sp6 => ?_) (fun _ _ z => False.elim z)
          cases fl with
          | next => obtain ⟨_, _, S6, q6⟩ := sp6; exact ⟨_, _, S6.unsuite okX, q6⟩
          | brk => obtain ⟨_, _, S6, q6⟩ := sp6; exact ⟨_, _, S6.unsuite okX, q6⟩
          | cont => obtain ⟨_, _, S6, q6⟩ := sp6; exact ⟨_, _, S6.unsuite okX, q6⟩
          | ret _ => obtain ⟨_, _, _, S6, r6, q6⟩ := sp6; exact ⟨_, _, _, S6.unsuite okX, r6, q6⟩
        | false => exact ih (no rfl)
      | named hN hi hln hc hsu r ih =>
        rename_i n0 i0 _ _ _ _ _ pp0 _ _
        intro wm
        obtain ⟨b, hb1, yes, no⟩ := wm
        refine wpAny_handleBy_cons (codeAny_handlers_test ?_) (by intro q; cases q)
        refine tst hc ((PySem.W.exm_one (M := model X.prog X.w) (J3.kIn) LT hb1).here ?_)
        cases b with
        | true =>
          refine codeAny_handlers_suite_as ?_
          refine HandSPX.lands_againZ fg3 fun g4 fg4 ug4 => ?_
          have J4 : Inv X ps0 τ1 G1 { t0 with heap := g4 } := J1.landed nb fg4.1 ((up.trans ug3).trans ug4) os ag
          obtain ⟨ob4, fv4, at4, zc4, dt4⟩ := fg4.there
          refine store_ok (X := X.suite a ((a, ob4) :: (X.pn ++ ps0))) (v := .ref a) (J4.suite at4 dt4 na outL outS) hN hi (.inl hln) rfl (fun t5 S5 => ?_) (.inr hln)
          refine wpAny_mono ((hsu a ob4 cl dd (X.pn ++ ps0) zc4 ⟨_, dt4⟩).run [] t5 _ G1 _ S5 (yes rfl a na)) (fun fl t6 sp6 => ?_) (fun _ _ z => False.elim z)
          have fin : ∀ {τ6 : L2.St} {G6 : Hp} {Q : Shared → Prop}, Inv (X.suite a ((a, ob4) :: (X.pn ++ ps0))) [] τ6 G6 t6 → (∀ t7, Inv X ps0 (τ6.set i0 none) G6 t7 → Q t7) →
              wpAny (model X.prog X.w) X.A (do bindName X.env n0 .none; unbindBehindTheSuite X.env n0 pp0) (fun _ t7 => Q t7) X.xe t6 := fun S6 hq => gone_ok (S6.unsuite okX) hN hi hln hq
          cases fl with
          | next => obtain ⟨_, _, S6, q6⟩ := sp6; exact fin S6 fun _ J7 => ⟨_, _, J7, q6⟩
          | brk => obtain ⟨_, _, S6, q6⟩ := sp6; exact fin S6 fun _ J7 => ⟨_, _, J7, q6⟩
          | cont => obtain ⟨_, _, S6, q6⟩ := sp6; exact fin S6 fun _ J7 => ⟨_, _, J7, q6⟩
          | ret _ => obtain ⟨_, _, _, S6, r6, q6⟩ := sp6; exact fin S6 fun _ J7 => ⟨_, _, _, J7, r6, q6⟩
        | false => exact ih (no rfl)
    exact go hhd wm
  · cases fl with
    | next => obtain ⟨_, _, Jz, qz⟩ := sp1; exact wpAny_execs_nil ⟨_, _, Jz.ofTry okX, qz⟩
    | brk => obtain ⟨_, _, Jz, qz⟩ := sp1; exact ⟨_, _, Jz.ofTry okX, qz⟩
    | cont => obtain ⟨_, _, Jz, qz⟩ := sp1; exact ⟨_, _, Jz.ofTry okX, qz⟩
    | ret _ => obtain ⟨_, _, _, Jz, rz, qz⟩ := sp1; exact ⟨_, _, _, Jz.ofTry okX, rz, qz⟩
end
section
variable {K : PySem.W.Frag} {mg : Str → Option Value} {xn : Str} {fs : List (Str × V)} {H : Hp} {C : Addr} {c : Value} {D : Ends} {ts : Suite} {σ : L2.St} {Wo : WX} {l : List (Value × Option Nat × Suite)}
def XdAt (fs : List (Str × V)) (H H' : Hp) (d : Option Addr) : Prop := fs = [] ∧ d = none ∨ ∃ a, d = some a ∧ H' a = some (.xd fs) ∧ H a = none ∧ fs ≠ []
theorem mix_hitN {i : Nat} (hC : mg xn = some (.ref C)) (h : PySem.W.exmOne K (.ref C) c = some true) (k : ∀ H' d a, Ex H H' → H' a = none → XdAt fs H H' d → ts a (.ref C) d (unE D i) (σ.set i (some (.ref a))) H') : RaiseX mg xn fs H (WE (wMix K Wo D ((c, some i, ts) :: l)) σ) := fun H' C' d e g cc => by
  rw [hC] at g
  cases g
  exact ⟨true, h, fun _ a ha => k H' d a e ha cc, fun z => nomatch z⟩
/-- e.f of the exception at hand -/
theorem ev_xf {te : TE} {a dd : Addr} {f : Str} {v : V} (he : Ev te σ H (.ref a)) (hd : H dd = some (.xd fs)) (hl : fs.lookup f = some v) : Ev (tXf a (.ref C) (some dd) C f te) σ H v := fun H1 e Q q => he H1 e _ fun H2 e2 => ⟨rfl, rfl, dd, fs, v, rfl, e2 _ _ (e _ _ hd), hl, q H2 e2⟩
end
theorem pe_xfK {X : Cx} (K : PySem.W.Frag) {a C : Addr} {oe : Obj} {cls : Value} {d : Option Addr} {pn : List (Addr × Obj)} {e : Expr} {te : TE} {pos : Pos} {n : Str} (T : XfC K C) (hno : PySem.W.findIn K (.ref C) n = some none)
    (hz : Zc cls d oe) (hf : ∃ vs, oe.data = .fields vs) (he : PE (X.suite a ((a, oe) :: pn)) e te) (hK : X.K = K := by rfl) (hb : attributeBase e n X.env (eval e X.env) = eval e X.env := by rfl) : PE (X.suite a ((a, oe) :: pn)) (.Attribute e n pos) (tXf a cls d C n te) := by
  subst hK
  exact pe_xf T hno hz hf he hb
end Kj

/-! Kj8: dicts; comprehensions over something new; slices from behind. -/
namespace Kj
open PySem PySem.Spec PyProof.Rows L2 Evl
section
variable {K : PySem.W.Frag} {σ : L2.St} {H G : Hp} {td ty tx te tv : TE} {d : Addr} {kvs : List (Key × V)} {k : Key} {z v : V} {P : Hp → V → Prop} {t : TE} {n : Nat} {Y : Nat → V → Hp → Prop} {Ns : List Hp} {D : Ends} {wi : TI} {g : TG} {tt : TT} {vs : List Nat}
end
/-! ### the shape of data: may be laid, is not too deep, not too long -/
structure Ly (n : Nat) (d : PyData) : Prop where
  lay : d.canLay0 = true
  dep : d.depth ≤ n
  sm : smD d
theorem ly_int (n : Nat) (i : Int) : Ly n (.int i) := ⟨by simp [PyData.canLay0], by simp [PyData.depth], by simp [smD]⟩
theorem layAll {ds : List PyData} (h : ∀ d ∈ ds, d.canLay0 = true) : PyData.canLayAll0 ds = true := by
  induction ds with
  | nil => simp [PyData.canLayAll0]
  | cons d r ih => simp only [PyData.canLayAll0, h d List.mem_cons_self, ih fun t ht => h t (List.mem_cons_of_mem _ ht), Bool.and_self]
theorem depAll {n : Nat} {ds : List PyData} (h : ∀ d ∈ ds, d.depth ≤ n) : PyData.depthAll ds ≤ n := by
  induction ds with
  | nil => simp [PyData.depthAll]
  | cons d r ih =>
    have h1 := h d List.mem_cons_self
    have h2 := ih fun t ht => h t (List.mem_cons_of_mem _ ht)
    simp only [PyData.depthAll]
    omega
theorem ly_list {n : Nat} {ds : List PyData} (hl : ds.length ≤ 40000) (h : ∀ d ∈ ds, Ly n d) : Ly (n + 1) (.list ds) := ⟨by simp only [PyData.canLay0, layAll fun d hd => (h d hd).lay], by have := depAll fun d hd => (h d hd).dep; simp only [PyData.depth]; omega, smD_list.mpr ⟨hl, fun d hd => (h d hd).sm⟩⟩
theorem Ly.up {n m : Nat} {d : PyData} (h : Ly n d) (hm : n ≤ m) : Ly m d := ⟨h.lay, Nat.le_trans h.dep hm, h.sm⟩
theorem ly_ints {l : List Int} (hl : l.length ≤ 40000) : Ly 1 (eInts l) := ly_list (by rw [List.length_map]; exact hl) fun d hd => by
  obtain ⟨x, hx, rfl⟩ := List.mem_map.mp hd
  exact ly_int 0 x
end Kj

/-! Kj9: max(xs, default=d) of ints. -/
namespace Kj
open PySem PySem.Spec PyProof.Rows L2 Evl
end Kj

/-! Kj10: list(zip(a, b)). -/
namespace Kj
open PySem PySem.Spec PyProof.Rows L2 Evl
/-- the places of a zip at work -/
structure ZA where
  (z TI TO i1 i2 l1 l2 : Addr)
/-- the pairs that are handed out, as tuples behind lo -/
structure ZG (xs ys : Array Value) (lo : Addr) (h : Heap) (as : List Addr) : Prop where
  up : as.Pairwise (· < ·)
  behind : ∀ a ∈ as, lo < a
  tup : ∀ (j : Nat) (a : Addr), as[j]? = some a → ∃ x y, xs[j]? = some x ∧ ys[j]? = some y ∧ IsPair h a x y
section
variable {prog : Program} {w : World} {A : Around} {E : Value → Shared → Prop} {s : Shared} {c : ZA} {S : Addr} {xs ys : Array Value} {i : Nat}
end
section
variable {prog : Program} {w : World} {A : Around} {s : Shared} {c : ZA} {S : Addr} {xs ys : Array Value} {R : Result → Shared → Prop}
end
section
variable {prog : Program} {w : World} {A : Around} {E : Value → Shared → Prop} {s : Shared} {c : ZA} {S : Addr} {xs ys : Array Value}
end
section
variable {K : PySem.W.Frag} {σ : L2.St} {H : Hp} {ta tb te ti : TE} {tr : TA} {a b : Addr} {xs ys : List V} {Ns : List Hp} {D : Ends} {tz : TS}
end
end Kj

/-! Kj12: values told by kinds: what a value stands for in a heap; expressions, loops and comprehensions over such kinds. -/
namespace Kj
open PySem PySem.Spec PyProof.Rows L2 Evl
/-! ### kinds -/
structure Tp (α : Type) where
  R : Hp → V → α → Prop
  up : ∀ {H H' v x}, Ex H H' → R H v x → R H' v x
theorem up {α : Type} {T : Tp α} {H H' : Hp} {v : V} {x : α} (e : Ex H H') (h : T.R H v x) : T.R H' v x := T.up e h
theorem paired_up {α : Type} {T : Tp α} {H H' : Hp} {xs : List V} {l : List α} (e : Ex H H') (h : Paired (T.R H) xs l) : Paired (T.R H') xs l := paired_imp (fun _ _ z => T.up e z) h
def tI : Tp Int := ⟨fun _ v x => v = .int x, fun _ h => h⟩
def tB : Tp Bool := ⟨fun _ v x => v = .bl x, fun _ h => h⟩
def tS : Tp Str := ⟨fun _ v x => v = .str x ∧ PyData.strOk x = true, fun _ h => h⟩
/-- a short text of plain signs -/
def tX : Tp Str := ⟨fun _ v x => v = .str x ∧ TxtOk x, fun _ h => h⟩
def tN : Tp Unit := ⟨fun _ v _ => v = .non, fun _ h => h⟩
def tO {α : Type} (T : Tp α) : Tp (Option α) := ⟨fun H v x => match x with | none => v = .non | some y => T.R H v y ∧ v ≠ .non, fun {H H' v x} e h => by
  cases x with
  | none => exact h
  | some y => exact ⟨T.up e h.1, h.2⟩⟩
/-- a list, perhaps one that must not be changed | one of the heap's own -/
def tL (K : PySem.W.Frag) {α : Type} (T : Tp α) : Tp (List α) := ⟨fun H v l => ∃ p xs, v = .ref p ∧ SqL K H p xs ∧ Paired (T.R H) xs l ∧ l.length ≤ 40000, fun e ⟨p, xs, h1, h2, h3, h4⟩ => ⟨p, xs, h1, ex_l e h2, paired_up e h3, h4⟩⟩
def tW {α : Type} (T : Tp α) : Tp (List α) := ⟨fun H v l => ∃ p xs, v = .ref p ∧ H p = some (.lst xs) ∧ Paired (T.R H) xs l ∧ l.length ≤ 40000, fun e ⟨p, xs, h1, h2, h3, h4⟩ => ⟨p, xs, h1, e _ _ h2, paired_up e h3, h4⟩⟩
def tP (K : PySem.W.Frag) {α β : Type} (T : Tp α) (S : Tp β) : Tp (α × β) := ⟨fun H v x => ∃ p a b, v = .ref p ∧ SqT K H p [a, b] ∧ T.R H a x.1 ∧ S.R H b x.2, fun e ⟨p, a, b, h1, h2, h3, h4⟩ => ⟨p, a, b, h1, ex_t e h2, T.up e h3, S.up e h4⟩⟩
structure T3 (α β γ : Type) where
  a : α
  b : β
  c : γ
deriving DecidableEq, Inhabited
structure T4 (α β γ δ : Type) where
  a : α
  b : β
  c : γ
  d : δ
deriving DecidableEq, Inhabited
def tT3 (K : PySem.W.Frag) {α β γ : Type} (T : Tp α) (S : Tp β) (U : Tp γ) : Tp (T3 α β γ) := ⟨fun H v x => ∃ p a b c, v = .ref p ∧ SqT K H p [a, b, c] ∧ T.R H a x.a ∧ S.R H b x.b ∧ U.R H c x.c, fun e ⟨p, a, b, c, h1, h2, h3, h4, h5⟩ => ⟨p, a, b, c, h1, ex_t e h2, T.up e h3, S.up e h4, U.up e h5⟩⟩
def tT4 (K : PySem.W.Frag) {α β γ δ : Type} (T : Tp α) (S : Tp β) (U : Tp γ) (W : Tp δ) : Tp (T4 α β γ δ) := ⟨fun H v x => ∃ p a b c d, v = .ref p ∧ SqT K H p [a, b, c, d] ∧ T.R H a x.a ∧ S.R H b x.b ∧ U.R H c x.c ∧ W.R H d x.d, fun e ⟨p, a, b, c, d, h1, h2, h3, h4, h5, h6⟩ => ⟨p, a, b, c, d, h1, ex_t e h2, T.up e h3, S.up e h4, U.up e h5, W.up e h6⟩⟩
/-- a kind that does not look at the heap -/
class Flt {α : Type} (T : Tp α) : Prop where
  any : ∀ {H H' v x}, T.R H v x → T.R H' v x

instance : Flt tI := ⟨fun h => h⟩
instance : Flt tB := ⟨fun h => h⟩
instance : Flt tS := ⟨fun h => h⟩
instance : Flt tX := ⟨fun h => h⟩
instance : Flt tN := ⟨fun h => h⟩
instance {α : Type} {T : Tp α} [F : Flt T] : Flt (tO T) := ⟨fun {H H' v x} h => by
  cases x with
  | none => exact h
  | some y => exact ⟨F.any h.1, h.2⟩⟩
theorem paired_any {α : Type} {T : Tp α} [F : Flt T] {H H' : Hp} {xs : List V} {l : List α} (h : Paired (T.R H) xs l) : Paired (T.R H') xs l := paired_imp (fun _ _ z => F.any z) h
/-- one kind is another one, too -/
class Sub {α : Type} (T S : Tp α) : Prop where
  to : ∀ {H v x}, T.R H v x → S.R H v x
instance (priority := low) {α : Type} {T : Tp α} : Sub T T := ⟨fun h => h⟩
instance {K : PySem.W.Frag} {α : Type} {T S : Tp α} [Z : Sub T S] : Sub (tW T) (tL K S) := ⟨fun ⟨p, xs, h1, h2, h3, h4⟩ => ⟨p, xs, h1, sq_of h2, paired_imp (fun _ _ z => Z.to z) h3, h4⟩⟩
instance {K : PySem.W.Frag} {α : Type} {T S : Tp α} [Z : Sub T S] : Sub (tL K T) (tL K S) := ⟨fun ⟨p, xs, h1, h2, h3, h4⟩ => ⟨p, xs, h1, h2, paired_imp (fun _ _ z => Z.to z) h3, h4⟩⟩
instance {α : Type} {T S : Tp α} [Z : Sub T S] : Sub (tW T) (tW S) := ⟨fun ⟨p, xs, h1, h2, h3, h4⟩ => ⟨p, xs, h1, h2, paired_imp (fun _ _ z => Z.to z) h3, h4⟩⟩
instance {K : PySem.W.Frag} {α β : Type} {T T' : Tp α} {S S' : Tp β} [Z : Sub T T'] [Y : Sub S S'] : Sub (tP K T S) (tP K T' S') := ⟨fun ⟨p, a, b, h1, h2, h3, h4⟩ => ⟨p, a, b, h1, h2, Z.to h3, Y.to h4⟩⟩
instance {α : Type} {T S : Tp α} [Z : Sub T S] : Sub (tO T) (tO S) := ⟨fun {H v x} h => by
  cases x with
  | none => exact h
  | some y => exact ⟨Z.to h.1, h.2⟩⟩
instance : Sub tX tS := ⟨fun h => ⟨h.1, strOk_of h.2⟩⟩
theorem to {α : Type} {T S : Tp α} [Z : Sub T S] {H : Hp} {v : V} {x : α} (h : T.R H v x) : S.R H v x := Z.to h
/-- never None -/
class NN {α : Type} (T : Tp α) : Prop where
  nn : ∀ {H v x}, T.R H v x → v ≠ .non
instance : NN tI := ⟨fun h z => by cases h; cases z⟩
instance : NN tB := ⟨fun h z => by cases h; cases z⟩
instance : NN tS := ⟨fun h z => by cases h.1; cases z⟩
instance : NN tX := ⟨fun h z => by cases h.1; cases z⟩
instance {K : PySem.W.Frag} {α : Type} {T : Tp α} : NN (tL K T) := ⟨fun ⟨_, _, h, _⟩ z => by cases h; cases z⟩
instance {α : Type} {T : Tp α} : NN (tW T) := ⟨fun ⟨_, _, h, _⟩ z => by cases h; cases z⟩
instance {K : PySem.W.Frag} {α β : Type} {T : Tp α} {S : Tp β} : NN (tP K T S) := ⟨fun ⟨_, _, _, h, _⟩ z => by cases h; cases z⟩
instance {K : PySem.W.Frag} {α β γ : Type} {T : Tp α} {S : Tp β} {U : Tp γ} : NN (tT3 K T S U) := ⟨fun ⟨_, _, _, _, h, _⟩ z => by cases h; cases z⟩
instance {K : PySem.W.Frag} {α β γ δ : Type} {T : Tp α} {S : Tp β} {U : Tp γ} {W : Tp δ} : NN (tT4 K T S U W) := ⟨fun ⟨_, _, _, _, _, h, _⟩ z => by cases h; cases z⟩
/-- plain data -/
class Pla (K : PySem.W.Frag) {α : Type} (T : Tp α) where
  enc : α → PyData
  dp : ∀ {H v x}, T.R H v x → Dp K H v (enc x)
  lay : ∀ {H v x}, T.R H v x → (enc x).canLay0 = true
  sm : ∀ {H v x}, T.R H v x → smD (enc x)
  dep : Nat
  depth : ∀ x, (enc x).depth ≤ dep
  inj : ∀ {H v x w y}, T.R H v x → T.R H w y → (PyData.eqv (enc x) (enc y) = true ↔ x = y)
section
variable {K : PySem.W.Frag}
instance : Pla K tI := ⟨.int, fun h => by cases h; exact .int _, fun _ => by simp [PyData.canLay0], fun _ => by simp [smD], 0, fun x => by simp [PyData.depth], fun _ _ => by simp [PyData.eqv]⟩
instance : Pla K tB := ⟨.bool, fun h => by cases h; exact .bl _, fun _ => by simp [PyData.canLay0], fun _ => by simp [smD], 0, fun x => by simp [PyData.depth], fun _ _ => by simp [PyData.eqv]⟩
instance : Pla K tS := ⟨.str, fun h => by cases h.1; exact .str _, fun h => by simp [PyData.canLay0, h.2], fun _ => by simp [smD], 0, fun x => by simp [PyData.depth], fun _ _ => by simp [PyData.eqv]⟩
instance : Pla K tX := ⟨.str, fun h => by cases h.1; exact .str _, fun h => by simp [PyData.canLay0, strOk_of h.2], fun _ => by simp [smD], 0, fun x => by simp [PyData.depth], fun _ _ => by simp [PyData.eqv]⟩
instance : Pla K tN := ⟨fun _ => .none, fun h => by cases h; exact .non, fun _ => by simp [PyData.canLay0], fun _ => by simp [smD], 0, fun x => by simp [PyData.depth], fun _ _ => by simp [PyData.eqv]⟩
theorem dpa_of {α : Type} {T : Tp α} [Q : Pla K T] {H : Hp} : ∀ {xs : List V} {l : List α}, Paired (T.R H) xs l → DpAll K H xs (l.map Q.enc)
  | _, _, .nil => .nil
  | _, _, .cons h r => .cons (Q.dp h) (dpa_of r)
theorem laya_of {α : Type} {T : Tp α} [Q : Pla K T] {H : Hp} : ∀ {xs : List V} {l : List α}, Paired (T.R H) xs l → PyData.canLayAll0 (l.map Q.enc) = true
  | _, _, .nil => by simp [PyData.canLayAll0]
  | _, _, .cons h r => by simp [PyData.canLayAll0, Q.lay h, laya_of r]
theorem sma_of {α : Type} {T : Tp α} [Q : Pla K T] {H : Hp} : ∀ {xs : List V} {l : List α}, Paired (T.R H) xs l → ∀ d ∈ l.map Q.enc, smD d
  | _, _, .nil => fun _ h => nomatch h
  | _, _, .cons h r => fun d hd => by
    rcases List.mem_cons.mp hd with z | z
    · subst z; exact Q.sm h
    · exact sma_of r d z
theorem eqva_of {α : Type} {T : Tp α} [Q : Pla K T] {H G : Hp} : ∀ {xs ys : List V} {l m : List α}, Paired (T.R H) xs l → Paired (T.R H) ys m → (PyData.eqvAll (l.map Q.enc) (m.map Q.enc) = true ↔ l = m)
  | _, _, _, _, .nil, .nil => by simp [PyData.eqvAll]
  | _, _, _, _, .nil, .cons _ _ => by simp [PyData.eqvAll]
  | _, _, _, _, .cons _ _, .nil => by simp [PyData.eqvAll]
  | _, _, _, _, .cons h r, .cons h2 r2 => by
    simp only [List.map_cons, PyData.eqvAll, Bool.and_eq_true, eqva_of (G := G) r r2, Q.inj h h2, List.cons.injEq]
theorem eqv_lst (a b : List PyData) : PyData.eqv (.list a) (.list b) = PyData.eqvAll a b := by simp [PyData.eqv]
theorem eqv_tup (a b : List PyData) : PyData.eqv (.tuple a) (.tuple b) = PyData.eqvAll a b := by simp [PyData.eqv]
instance {α : Type} {T : Tp α} [Q : Pla K T] : Pla K (tL K T) := ⟨fun l => .list (l.map Q.enc), fun ⟨p, xs, h1, h2, h3, _⟩ => by subst h1; exact .lst h2 (dpa_of h3), fun ⟨p, xs, h1, h2, h3, _⟩ => by simp only [PyData.canLay0, laya_of h3], fun ⟨p, xs, h1, h2, h3, h4⟩ => smD_list.mpr ⟨by rw [List.length_map]; exact h4, sma_of h3⟩, Q.dep + 1, fun l => by
  have := depAll (n := Q.dep) (ds := l.map Q.enc) fun d hd => by
    obtain ⟨x, _, rfl⟩ := List.mem_map.mp hd
    exact Q.depth x
  simp only [PyData.depth]
  omega, fun {H v x w y} ⟨p, xs, _, _, h3, _⟩ ⟨q, ys, _, _, g3, _⟩ => by rw [eqv_lst, eqva_of (G := H) h3 g3]⟩
instance {α : Type} {T : Tp α} [Q : Pla K T] : Pla K (tW T) := ⟨fun l => .list (l.map Q.enc), fun ⟨p, xs, h1, h2, h3, _⟩ => by subst h1; exact .lst (sq_of h2) (dpa_of h3), fun ⟨p, xs, h1, h2, h3, _⟩ => by simp only [PyData.canLay0, laya_of h3], fun ⟨p, xs, h1, h2, h3, h4⟩ => smD_list.mpr ⟨by rw [List.length_map]; exact h4, sma_of h3⟩, Q.dep + 1, fun l => by
  have := depAll (n := Q.dep) (ds := l.map Q.enc) fun d hd => by
    obtain ⟨x, _, rfl⟩ := List.mem_map.mp hd
    exact Q.depth x
  simp only [PyData.depth]
  omega, fun {H v x w y} ⟨p, xs, _, _, h3, _⟩ ⟨q, ys, _, _, g3, _⟩ => by rw [eqv_lst, eqva_of (G := H) h3 g3]⟩
instance {α β : Type} {T : Tp α} {S : Tp β} [Q : Pla K T] [Y : Pla K S] : Pla K (tP K T S) := ⟨fun x => .tuple [Q.enc x.1, Y.enc x.2], fun ⟨p, a, b, h1, h2, h3, h4⟩ => by subst h1; exact .tup h2 (.cons (Q.dp h3) (.cons (Y.dp h4) .nil)), fun ⟨p, a, b, h1, h2, h3, h4⟩ => by simp [PyData.canLay0, PyData.canLayAll0, Q.lay h3, Y.lay h4], fun ⟨p, a, b, h1, h2, h3, h4⟩ => by simp [smD, smA, Q.sm h3, Y.sm h4], max Q.dep Y.dep + 1, fun x => by
  have h1 := Q.depth x.1
  have h2 := Y.depth x.2
  simp only [PyData.depth, PyData.depthAll]
  omega, fun {H v x w y} ⟨p, a, b, _, _, h3, h4⟩ ⟨q, c, d, _, _, g3, g4⟩ => by
  obtain ⟨x1, x2⟩ := x
  obtain ⟨y1, y2⟩ := y
  simp only [eqv_tup, PyData.eqvAll, Bool.and_eq_true, Q.inj h3 g3, Y.inj h4 g4, Prod.mk.injEq, and_true]⟩
instance {α β γ : Type} {T : Tp α} {S : Tp β} {U : Tp γ} [Q : Pla K T] [Y : Pla K S] [Z : Pla K U] : Pla K (tT3 K T S U) := ⟨fun x => .tuple [Q.enc x.a, Y.enc x.b, Z.enc x.c], fun ⟨p, a, b, c, h1, h2, h3, h4, h5⟩ => by subst h1; exact .tup h2 (.cons (Q.dp h3) (.cons (Y.dp h4) (.cons (Z.dp h5) .nil))), fun ⟨p, a, b, c, h1, h2, h3, h4, h5⟩ => by simp [PyData.canLay0, PyData.canLayAll0, Q.lay h3, Y.lay h4, Z.lay h5], fun ⟨p, a, b, c, h1, h2, h3, h4, h5⟩ => by simp [smD, smA, Q.sm h3, Y.sm h4, Z.sm h5], max Q.dep (max Y.dep Z.dep) + 1, fun x => by
  have h1 := Q.depth x.a
  have h2 := Y.depth x.b
  have h3 := Z.depth x.c
  simp only [PyData.depth, PyData.depthAll]
  omega, fun {H v x w y} ⟨p, a, b, c, _, _, h3, h4, h5⟩ ⟨q, a', b', c', _, _, g3, g4, g5⟩ => by
  obtain ⟨x1, x2, x3⟩ := x
  obtain ⟨y1, y2, y3⟩ := y
  simp only [eqv_tup, PyData.eqvAll, Bool.and_eq_true, Q.inj h3 g3, Y.inj h4 g4, Z.inj h5 g5, T3.mk.injEq, and_true]⟩
instance {α β γ δ : Type} {T : Tp α} {S : Tp β} {U : Tp γ} {W : Tp δ} [Q : Pla K T] [Y : Pla K S] [Z : Pla K U] [O : Pla K W] : Pla K (tT4 K T S U W) := ⟨fun x => .tuple [Q.enc x.a, Y.enc x.b, Z.enc x.c, O.enc x.d], fun ⟨p, a, b, c, d, h1, h2, h3, h4, h5, h6⟩ => by subst h1; exact .tup h2 (.cons (Q.dp h3) (.cons (Y.dp h4) (.cons (Z.dp h5) (.cons (O.dp h6) .nil)))), fun ⟨p, a, b, c, d, h1, h2, h3, h4, h5, h6⟩ => by simp [PyData.canLay0, PyData.canLayAll0, Q.lay h3, Y.lay h4, Z.lay h5, O.lay h6], fun ⟨p, a, b, c, d, h1, h2, h3, h4, h5, h6⟩ => by simp [smD, smA, Q.sm h3, Y.sm h4, Z.sm h5, O.sm h6], max Q.dep (max Y.dep (max Z.dep O.dep)) + 1, fun x => by
  have h1 := Q.depth x.a
  have h2 := Y.depth x.b
  have h3 := Z.depth x.c
  have h4 := O.depth x.d
  simp only [PyData.depth, PyData.depthAll]
  omega, fun {H v x w y} ⟨p, a, b, c, d, _, _, h3, h4, h5, h6⟩ ⟨q, a', b', c', d', _, _, g3, g4, g5, g6⟩ => by
  obtain ⟨x1, x2, x3, x4⟩ := x
  obtain ⟨y1, y2, y3, y4⟩ := y
  simp only [eqv_tup, PyData.eqvAll, Bool.and_eq_true, Q.inj h3 g3, Y.inj h4 g4, Z.inj h5 g5, O.inj h6 g6, T4.mk.injEq, and_true]⟩
theorem eqv_none {d : PyData} (h : PyData.eqv .none d = true) : d = .none := by cases d <;> simp [PyData.eqv] at h ⊢
theorem eqv_none2 {d : PyData} (h : PyData.eqv d .none = true) : d = .none := by cases d <;> simp [PyData.eqv] at h ⊢
theorem dp_is_non {H : Hp} {v : V} (h : Dp K H v .none) : v = .non := by cases h; rfl
instance {α : Type} {T : Tp α} [Q : Pla K T] : Pla K (tO T) := ⟨fun x => match x with | none => .none | some y => Q.enc y, fun {H v x} h => by
  cases x with
  | none => cases h; exact .non
  | some y => exact Q.dp h.1, fun {H v x} h => by
  cases x with
  | none => simp [PyData.canLay0]
  | some y => exact Q.lay h.1, fun {H v x} h => by
  cases x with
  | none => simp [smD]
  | some y => exact Q.sm h.1, Q.dep, fun x => by
  cases x with
  | none => simp [PyData.depth]
  | some y => exact Q.depth y, fun {H v x w y} h g => by
  cases x with
  | none =>
    cases y with
    | none => simp [PyData.eqv]
    | some y =>
      refine ⟨fun z => ?_, fun z => nomatch z⟩
      have e : Q.enc y = .none := eqv_none z
      have := Q.dp g.1
      rw [e] at this
      exact absurd (dp_is_non this) g.2
  | some x =>
    cases y with
    | none =>
      refine ⟨fun z => ?_, fun z => nomatch z⟩
      have e : Q.enc x = .none := eqv_none2 z
      have := Q.dp h.1
      rw [e] at this
      exact absurd (dp_is_non this) h.2
    | some y => rw [Option.some.injEq]; exact Q.inj h.1 g.1⟩
end
/-! ### what an expression is worth, told in B and the new part -/
def EvB (te : TE) (σ : L2.St) (H B : Hp) (P : Hp → V → Prop) : Prop := ∀ H1, Ex H H1 → ∀ Q : VK, (∀ v H2 N, Ex H1 H2 → Ex N H2 → Fr H1 N → P (uni B N) v → Q v H2) → te σ H1 Q
/-- an argument: its kind and what it stands for -/
structure Arg where
  {α : Type}
  T : Tp α
  x : α
def ArgsR (G : Hp) : List V → List Arg → Prop
  | [], [] => True
  | v :: vs, a :: as => a.T.R G v a.x ∧ ArgsR G vs as
  | _, _ => False
theorem ArgsR.up {G G' : Hp} (e : Ex G G') : ∀ {vs : List V} {as : List Arg}, ArgsR G vs as → ArgsR G' vs as
  | [], [], h => h
  | _ :: _, _ :: _, h => ⟨Tp.up _ e h.1, ArgsR.up e h.2⟩
  | [], _ :: _, h => h.elim
  | _ :: _, [], h => h.elim
theorem ArgsR.len {G : Hp} : ∀ {vs : List V} {as : List Arg}, ArgsR G vs as → vs.length = as.length
  | [], [], _ => rfl
  | _ :: _, _ :: _, h => by rw [List.length_cons, List.length_cons, ArgsR.len h.2]
  | [], _ :: _, h => h.elim
  | _ :: _, [], h => h.elim
theorem args0 {G : Hp} {vs : List V} (h : ArgsR G vs []) : vs = [] := by
  cases vs with
  | nil => rfl
  | cons _ _ => exact h.elim
theorem argsC {G : Hp} {vs : List V} {a : Arg} {as : List Arg} (h : ArgsR G vs (a :: as)) : ∃ v us, vs = v :: us ∧ a.T.R G v a.x ∧ ArgsR G us as := by
  cases vs with
  | nil => exact h.elim
  | cons v us => exact ⟨v, us, rfl, h.1, h.2⟩
theorem args1 {G : Hp} {vs : List V} {a : Arg} (h : ArgsR G vs [a]) : ∃ v, vs = [v] ∧ a.T.R G v a.x := by
  obtain ⟨v, us, rfl, h1, h2⟩ := argsC h
  cases args0 h2
  exact ⟨v, rfl, h1⟩
theorem args2 {G : Hp} {vs : List V} {a b : Arg} (h : ArgsR G vs [a, b]) : ∃ v w, vs = [v, w] ∧ a.T.R G v a.x ∧ b.T.R G w b.x := by
  obtain ⟨v, us, rfl, h1, h2⟩ := argsC h
  obtain ⟨w, rfl, h3⟩ := args1 h2
  exact ⟨v, w, rfl, h1, h3⟩
def EvBs (ta : TA) (σ : L2.St) (H B : Hp) (as : List Arg) : Prop := ∀ H1, Ex H H1 → ∀ Q : List V → Hp → Prop, (∀ vs H2 N, Ex H1 H2 → Ex N H2 → Fr H1 N → ArgsR (uni B N) vs as → Q vs H2) → ta σ H1 Q
/-- a value of a kind -/
abbrev Ed {α : Type} (T : Tp α) (te : TE) (σ : L2.St) (H B : Hp) (x : α) : Prop := EvB te σ H B fun G v => T.R G v x
theorem uni_ass (A B C : Hp) : uni (uni A B) C = uni A (uni B C) := by
  funext a
  unfold uni
  cases C a <;> cases B a <;> rfl
theorem uni_exl {B N H : Hp} (e : Ex B H) (f : Fr H N) : Ex B (uni B N) := uni_l fun a ha => ex_none e (f a ha)
theorem uni_up2 {B N N' H : Hp} (e : Ex N N') (e' : Ex B H) (f : Fr H N') : Ex (uni B N) (uni B N') := fun a o h => by
  unfold uni at h ⊢
  cases q : N a with
  | some u => rw [q] at h; cases h; rw [e _ _ q]
  | none =>
    rw [q] at h
    have : N' a = none := by
      cases z : N' a with
      | none => rfl
      | some u => rw [ex_none e' (f a (by rw [z]; exact fun z => nomatch z))] at h; cases h
    rw [this]
    exact h
section
variable {K : PySem.W.Frag} {mg : Str → Option Value} {σ : L2.St} {H B B' : Hp} {ta tb te tx ti : TE} {tr : TA} {t u : TT} {v w : V} {P P' : Hp → V → Prop} {Ps : Hp → List V → Prop} {E : L2.St → XK} {W : WX} {α β γ δ : Type} {T : Tp α} {S : Tp β} {x : α} {y : β} {l m : List α}
theorem eb_ev (h : Ev te σ H v) (f : P B v) : EvB te σ H B P := fun H1 e Q q => h H1 e Q fun H2 e2 => q v H2 emp e2 emp_ex emp_fr f
theorem eb_var {i : Nat} (h : σ[i]? = some (some v)) (f : P B v) : EvB (tVar i) σ H B P := eb_ev (ev_var h) f
theorem ev_b (h : EvB te σ H B fun _ x => x = v) : Ev te σ H v := fun H1 e Q q => h H1 e Q fun x H2 _ e2 _ _ p => by
  have p : x = v := p
  subst p
  exact q H2 e2
theorem eb_imp (h : EvB te σ H B P) (i : ∀ G v, P G v → P' G v) : EvB te σ H B P' := fun H1 e Q q => h H1 e Q fun v H2 N e2 e3 f p => q v H2 N e2 e3 f (i _ v p)
theorem EvB.mono {H' : Hp} (e : Ex H H') (h : EvB te σ H B P) : EvB te σ H' B P := fun H1 a Q q => h H1 (e.trans a) Q q
theorem ed_flt [F : Flt T] (h : Ed T te σ H B x) : Ed T te σ H B' x := fun H1 a Q q => h H1 a Q fun v H2 N e2 e3 f p => q v H2 N e2 e3 f (F.any p)
theorem ed_to {S : Tp α} [Z : Sub T S] (h : Ed T te σ H B x) : Ed S te σ H B x := eb_imp h fun _ _ p => Z.to p
/-- what a call tells of a new thing -/
theorem ed_p (h : EvP te σ H P) (eB : Ex B H) (i : ∀ N v, P N v → T.R N v x) : Ed T te σ H B x := fun H1 a Q q => h H1 a Q fun v H2 N e2 e3 f p => q v H2 N e2 e3 f (T.up uni_r (i N v p))
/-- .. of which not all is told -/
theorem eb_pE {Z : α → Prop} (h : EvP te σ H P) (i : ∀ N v, P N v → ∃ x, T.R N v x ∧ Z x) : EvB te σ H B fun G v => ∃ x, T.R G v x ∧ Z x := fun H1 a Q q => h H1 a Q fun v H2 N e2 e3 f p => q v H2 N e2 e3 f (by
  obtain ⟨x, h1, h2⟩ := i N v p
  exact ⟨x, T.up uni_r h1, h2⟩)
theorem ed_x {s : Str} (h : Ev te σ H (.str s)) (hs : TxtOk s) : Ed tX te σ H B s := eb_ev h ⟨rfl, hs⟩
theorem ev_x {s : Str} (h : Ed tX te σ H B s) : Ev te σ H (.str s) := ev_b (eb_imp h fun _ _ p => p.1)
theorem ed_i {i : Int} (h : Ev te σ H (.int i)) : Ed tI te σ H B i := eb_ev h rfl
theorem ed_bl {b : Bool} (h : Ev te σ H (.bl b)) : Ed tB te σ H B b := eb_ev h rfl
theorem ed_s {s : Str} (h : Ev te σ H (.str s)) (hs : PyData.strOk s = true) : Ed tS te σ H B s := eb_ev h ⟨rfl, hs⟩
theorem ev_i {i : Int} (h : Ed tI te σ H B i) : Ev te σ H (.int i) := ev_b h
/-! ### arguments -/
theorem ebs_nil : EvBs tNil σ H B [] := fun H1 _ Q q => q [] H1 emp (Ex.refl H1) emp_ex emp_fr trivial
theorem two_parts {H1 H2 H3 N N' : Hp} (eB : Ex B H1) (e2 : Ex H1 H2) (e3 : Ex N H2) (f : Fr H1 N) (f' : Fr H2 N') (e4 : Ex H2 H3) (e5 : Ex N' H3) : Fr H1 (uni N N') ∧ Ex (uni N N') H3 ∧ Ex (uni B N) (uni B (uni N N')) ∧ Ex (uni B N') (uni B (uni N N')) := by
  have fN : Fr H1 (uni N N') := uni_fr f (f'.back e2)
  refine ⟨fN, uni_ex (e3.trans e4) e5, ?_, uni_up2 uni_r eB fN⟩
  rw [← uni_ass]
  exact uni_l fun a ha => ex_none (uni_ex (eB.trans e2) e3) (f' a ha)
theorem ebs_cons {as : List Arg} (eB : Ex B H) (h : Ed T te σ H B x) (hr : EvBs tr σ H B as) : EvBs (tCons te tr) σ H B (⟨T, x⟩ :: as) := fun H1 e Q q =>
  h H1 e _ fun v H2 N e2 e3 f p => hr H2 (e.trans e2) _ fun us H3 N' e4 e5 f' p' => by
    obtain ⟨g1, g2, g3, g4⟩ := two_parts (eB.trans e) e2 e3 f f' e4 e5
    exact q (v :: us) H3 (uni N N') (e2.trans e4) g2 g1 ⟨T.up g3 p, p'.up g4⟩
/-! ### displays -/
theorem tup_new {H1 H2 N : Hp} {vs : List V} {p : Addr} (eB : Ex B H1) (e2 : Ex H1 H2) (e3 : Ex N H2) (f : Fr H1 N) (hp : H2 p = none) (o : HO) : Ex H1 (upd H2 p o) ∧ Ex (uni N (sing p o)) (upd H2 p o) ∧ Fr H1 (uni N (sing p o)) ∧ Ex (uni B N) (uni B (uni N (sing p o))) ∧ uni B (uni N (sing p o)) p = some o := by
  have f' : Fr H2 (sing p o) := sing_fr hp
  obtain ⟨g1, g2, g3, g4⟩ := two_parts (H3 := upd H2 p o) (N' := sing p o) eB e2 e3 f f' (Ex.new hp) (sing_ex upd_same)
  exact ⟨e2.trans (Ex.new hp), g2, g1, g3, g4 _ _ (uni_r _ _ sing_at)⟩
theorem eb_lst {as : List Arg} {P : Hp → V → Prop} (eB : Ex B H) (h : EvBs tr σ H B as) (hl : as.length ≤ 1000) (i : ∀ G p vs, G p = some (.lst vs) → ArgsR G vs as → P G (.ref p)) : EvB (tLst tr) σ H B P := fun H1 e Q q =>
  h H1 e _ fun vs H2 N e2 e3 f p => ⟨sz_of (by rw [p.len]; omega), fun r hr => by
    obtain ⟨g1, g2, g3, g4, g5⟩ := tup_new (vs := vs) (eB.trans e) e2 e3 f hr (.lst vs)
    exact q (.ref r) _ _ g1 g2 g3 (i _ r vs g5 (p.up g4))⟩
theorem argsL {G : Hp} {T : Tp α} : ∀ {l : List α} {vs : List V}, ArgsR G vs (l.map fun x => ⟨T, x⟩) → Paired (T.R G) vs l
  | [], vs, h => by cases args0 h; exact .nil
  | x :: l, vs, h => by
    obtain ⟨v, us, rfl, h1, h2⟩ := argsC h
    exact .cons h1 (argsL h2)
theorem ed_lst (eB : Ex B H) (h : EvBs tr σ H B (l.map fun x => ⟨T, x⟩)) (hl : l.length ≤ 1000) : Ed (tW T) (tLst tr) σ H B l := eb_lst eB h (by rw [List.length_map]; exact hl) fun G p vs hp ha => ⟨p, vs, rfl, hp, argsL ha, by omega⟩
/-! ### reading -/
theorem paired_at {R : V → α → Prop} : ∀ {xs : List V} {l : List α} {i : Nat} {y : α}, Paired R xs l → l[i]? = some y → ∃ v, xs[i]? = some v ∧ R v y
  | _, _, _, _, .nil, e => by simp at e
  | _, _, 0, _, .cons h _, e => by
    simp at e
    subst e
    exact ⟨_, rfl, h⟩
  | _, _, i + 1, _, .cons _ r, e => by
    obtain ⟨y, h1, h2⟩ := paired_at (i := i) r (by simpa using e)
    exact ⟨y, by simpa using h1, h2⟩
theorem paired_atI {R : V → α → Prop} {xs : List V} {i : Int} {y : α} (h : Paired R xs l) (e : atI l i = some y) : ∃ v, atI xs i = some v ∧ R v y := by
  unfold atI at e ⊢
  rw [Paired.length h]
  cases q : ixN l.length i with
  | none => rw [q] at e; cases e
  | some j => rw [q] at e; exact paired_at h e
theorem ed_ix {i : Int} (h : Ed (tL K T) te σ H B l) (hi : Ev ti σ H (.int i)) (hy : atI l i = some x) (eB : Ex B H) : Ed T (tOp (rIx K) te ti) σ H B x := fun H1 e Q q =>
  h H1 e _ fun v H2 N e2 e3 f ⟨p, xs, ev, h1, h2, hl0⟩ => hi H2 (e.trans e2) _ fun H3 e4 => by
    obtain ⟨w, h3, h4⟩ := paired_atI h2 hy
    subst ev
    have eU : Ex (uni B N) H3 := (uni_ex ((eB.trans e).trans e2) e3).trans e4
    exact .inl ⟨p, xs, i, w, rfl, rfl, ex_l eU h1, h3, q w H3 N (e2.trans e4) (e3.trans e4) f h4⟩
theorem atI_get [Inhabited α] {i : Int} (h : -(l.length : Int) ≤ i ∧ i < l.length) : atI l i = some ((atI l i).getD default) := by
  unfold atI ixN
  by_cases h0 : 0 ≤ i
  · rw [if_pos h0, if_pos h.2]
    have : i.toNat < l.length := by omega
    simp [this]
  · rw [if_neg h0, if_pos h.1]
    have : (i + l.length).toNat < l.length := by omega
    simp [this]
/-- xs[i] -/
def getI {α : Type} [Inhabited α] (l : List α) (i : Int) : α := (atI l i).getD default
theorem ed_ixG [Inhabited α] {i : Int} (h : Ed (tL K T) te σ H B l) (hi : Ev ti σ H (.int i)) (hy : -(l.length : Int) ≤ i ∧ i < l.length) (eB : Ex B H) : Ed T (tOp (rIx K) te ti) σ H B (getI l i) := ed_ix h hi (atI_get hy) eB
theorem ev_lenB (h : Ed (tL K T) te σ H B l) (eB : Ex B H) : Ev (tCB (rLenU K) (tCons te tNil)) σ H (.int (l.length : Nat)) := fun H1 e Q q =>
  h H1 e _ fun v H2 N e2 e3 f ⟨p, xs, ev, h1, h2, hl0⟩ => by
    subst ev
    rw [← Paired.length h2] at q
    exact .inl ⟨p, xs, rfl, .inl (ex_l (uni_ex ((eB.trans e).trans e2) e3) h1), q H2 e2⟩
/-! ### slices, sums, copies -/
def cutI {α : Type} (l : List α) (lo hi : Option Int) : List α := (l.drop (HT.sIx l.length 0 lo)).take (HT.sIx l.length l.length hi - HT.sIx l.length 0 lo)
theorem paired_drop' {R : V → α → Prop} : ∀ {xs : List V} {l : List α} (n : Nat), Paired R xs l → Paired R (xs.drop n) (l.drop n)
  | _, _, 0, h => h
  | _, _, n + 1, .nil => .nil
  | _, _, n + 1, .cons _ r => paired_drop' n r
theorem paired_take' {R : V → α → Prop} : ∀ {xs : List V} {l : List α} (n : Nat), Paired R xs l → Paired R (xs.take n) (l.take n)
  | _, _, 0, _ => .nil
  | _, _, n + 1, .nil => .nil
  | _, _, n + 1, .cons h r => .cons h (paired_take' n r)
theorem paired_cut {R : V → α → Prop} {xs : List V} {lo hi : Option Int} (h : Paired R xs l) : Paired R (cutV xs lo hi) (cutI l lo hi) := by
  unfold cutV cutI
  rw [Paired.length h]
  exact paired_take' _ (paired_drop' _ h)
theorem cut_le (l : List α) (lo hi : Option Int) : (cutI l lo hi).length ≤ l.length := by
  unfold cutI
  rw [List.length_take, List.length_drop]
  omega
theorem paired_app' {R : V → α → Prop} : ∀ {xs ys : List V} {l m : List α}, Paired R xs l → Paired R ys m → Paired R (xs ++ ys) (l ++ m)
  | _, _, _, _, .nil, h => h
  | _, _, _, _, .cons a r, h => .cons a (paired_app' r h)
theorem ed_cat (h : Ed (tW T) ta σ H B l) (h' : Ed (tW T) tb σ H B m) (eB : Ex B H) (hl : l.length + m.length ≤ 40000) : Ed (tW T) (tOp (rAddU K) ta tb) σ H B (l ++ m) := fun H1 e Q q =>
  h H1 e _ fun v H2 N e2 e3 f ⟨p, xs, ev, g1, g2, hl0⟩ => h' H2 (e.trans e2) _ fun w H3 N' e4 e5 f' ⟨p', ys, ew, g1', g2', hl0'⟩ => by
    subst ev ew
    obtain ⟨k1, k2, k3, k4⟩ := two_parts (eB.trans e) e2 e3 f f' e4 e5
    have u1 : Ex (uni B N) H3 := (uni_ex ((eB.trans e).trans e2) e3).trans e4
    have u2 : Ex (uni B N') H3 := uni_ex (((eB.trans e).trans e2).trans e4) e5
    refine .inr (.inl ⟨p, p', xs, ys, rfl, rfl, u1 _ _ g1, u2 _ _ g1', sz_of (by rw [Paired.length g2, Paired.length g2']; omega), fun r hr => ?_⟩)
    obtain ⟨g3, g4, g5, g6, g7⟩ := tup_new (vs := []) (eB.trans e) (e2.trans e4) k2 k1 hr (.lst (xs ++ ys))
    exact q (.ref r) _ _ g3 g4 g5 ⟨r, _, rfl, g7, paired_up g6 (paired_app' (paired_up k3 g2) (paired_up k4 g2')), by rw [List.length_append]; exact hl⟩
theorem ed_slF [F : Flt T] {tl th : TO} {lo hi : Option Int} (h : Ed (tL K T) te σ H B l) (h1 : EvO tl σ H lo) (h2 : EvO th σ H hi) (eB : Ex B H) : Ed (tW T) (tSl (rSlU K) te tl th) σ H B' (cutI l lo hi) := fun H1 e Q q =>
  h H1 e _ fun v H2 N e2 e3 f ⟨p, xs, ev, g1, g2, hl0⟩ => h1 H2 (e.trans e2) _ fun H3 e4 => h2 H3 ((e.trans e2).trans e4) _ fun H4 e5 => by
    subst ev
    exact .inl (.inl ⟨p, xs, rfl, ex_l ((uni_ex ((eB.trans e).trans e2) e3).trans (e4.trans e5)) g1, fun r hr => q (.ref r) _ (sing r (.lst (cutV xs lo hi))) ((e2.trans (e4.trans e5)).trans (Ex.new hr)) (sing_ex upd_same) (sing_fr (fresh_back (e2.trans (e4.trans e5)) hr)) ⟨r, _, rfl, uni_r _ _ sing_at, paired_any (paired_cut g2), Nat.le_trans (cut_le _ _ _) hl0⟩⟩)
/-! ### comparisons -/
theorem shp_of [Z : Pla K T] {G : Hp} (h : T.R G v x) (hd : Z.dep ≤ 64) : SeqAt.shaped (Z.enc x) = true := by
  show ((Z.enc x).canLay0 && decide ((Z.enc x).depth ≤ 64)) = true
  rw [Z.lay h, decide_eq_true (Nat.le_trans (Z.depth x) hd)]
  rfl
theorem eqv_dec [Z : Pla K T] [DecidableEq α] {G : Hp} {x' : α} (h : T.R G v x) (h' : T.R G w x') : PyData.eqv (Z.enc x) (Z.enc x') = decide (x = x') := by
  by_cases e : x = x'
  · rw [decide_eq_true e]; exact (Z.inj h h').mpr e
  · rw [decide_eq_false e]
    cases q : PyData.eqv (Z.enc x) (Z.enc x') with
    | false => rfl
    | true => exact absurd ((Z.inj h h').mp q) e
theorem ev_eqB [Z : Pla K T] [DecidableEq α] {x' : α} (h : Ed T ta σ H B x) (h' : Ed T tb σ H B x') (eB : Ex B H) (hd : Z.dep ≤ 64 := by exact Nat.le_of_ble_eq_true rfl) : Ev (tOp (rEqU K) ta tb) σ H (.bl (decide (x = x'))) := fun H1 e Q q =>
  h H1 e _ fun v H2 N e2 e3 f g => h' H2 (e.trans e2) _ fun w H3 N' e4 e5 f' g' => by
    obtain ⟨k1, k2, k3, k4⟩ := two_parts (eB.trans e) e2 e3 f f' e4 e5
    have eU : Ex (uni B (uni N N')) H3 := uni_ex (((eB.trans e).trans e2).trans e4) k2
    have g := T.up k3 g
    have g' := T.up k4 g'
    rw [← eqv_dec (Z := Z) g g'] at q
    exact .inr ⟨_, _, dp_mono eU (Z.dp g), dp_mono eU (Z.dp g'), shp_of g hd, shp_of g' hd, q H3 (e2.trans e4)⟩
theorem ev_neB [Z : Pla K T] [DecidableEq α] {x' : α} (h : Ed T ta σ H B x) (h' : Ed T tb σ H B x') (eB : Ex B H) (hd : Z.dep ≤ 64 := by exact Nat.le_of_ble_eq_true rfl) : Ev (tOp (rNeU K) ta tb) σ H (.bl (!decide (x = x'))) := fun H1 e Q q =>
  h H1 e _ fun v H2 N e2 e3 f g => h' H2 (e.trans e2) _ fun w H3 N' e4 e5 f' g' => by
    obtain ⟨k1, k2, k3, k4⟩ := two_parts (eB.trans e) e2 e3 f f' e4 e5
    have eU : Ex (uni B (uni N N')) H3 := uni_ex (((eB.trans e).trans e2).trans e4) k2
    have g := T.up k3 g
    have g' := T.up k4 g'
    rw [← eqv_dec (Z := Z) g g'] at q
    exact .inr ⟨_, _, dp_mono eU (Z.dp g), dp_mono eU (Z.dp g'), shp_of g hd, shp_of g' hd, q H3 (e2.trans e4)⟩
/-! ### calls -/
theorem args_ex {as : List Arg} {N H2 : Hp} {vs : List V} (eB : Ex B H2) (e3 : Ex N H2) (p : ArgsR (uni B N) vs as) : ArgsR H2 vs as := p.up (uni_ex eB e3)
theorem ep_callB {S : Rl} {as : List Arg} (eB : Ex B H) (ha : EvBs tr σ H B as) (hR : ∀ vs G, ArgsR G vs as → S.R vs G (.ok P)) : EvP (tCallS (S.sp mg) E tr) σ H P := fun H1 e Q q => ha H1 e _ fun vs H2 N e2 e3 f p => ⟨.ok P, hR vs H2 (args_ex ((eB.trans e).trans e2) e3 p), q.fwd e2⟩
theorem er_callB {S : Rl} {as : List Arg} {xn : Str} {fs : List (Str × V)} (eB : Ex B H) (ha : EvBs tr σ H B as) (hR : ∀ vs G, ArgsR G vs as → S.R vs G (.err xn fs)) : EvErr mg W xn fs (tCallS (S.sp mg) (WE W) tr) σ H := fun H1 e q Q => ha H1 e _ fun vs H2 N e2 e3 f p => ⟨.err xn fs, hR vs H2 (args_ex ((eB.trans e).trans e2) e3 p), q.fwd e2⟩
/-- o.m(..): OT: the kind of the object; it is an instance of C without a field m -/
theorem ep_methB {S : Rl} {as : List Arg} {C : Addr} {mn : Str} (eB : Ex B H) (ho : Ed T ta σ H B x) (hC : ∀ {G v}, T.R G v x → ∃ a dx gs, v = .ref a ∧ G a = some (.ins C dx gs) ∧ gs.lookup mn = none) (ha : EvBs tr σ H B as) (hR : ∀ vs G, ArgsR G vs (⟨T, x⟩ :: as) → S.R vs G (.ok P)) : EvP (tMethS C mn (S.sp mg) E ta tr) σ H P := fun H1 e Q q => ho H1 e _ fun v H2 N e2 e3 f p => by
  obtain ⟨a, dx, gs, rfl, h1, h2⟩ := hC p
  have eU : Ex (uni B N) H2 := uni_ex ((eB.trans e).trans e2) e3
  refine ⟨a, dx, gs, rfl, eU _ _ h1, h2, ha H2 (e.trans e2) _ fun vs H3 N' e4 e5 f' p' => ⟨.ok P, hR _ H3 ⟨T.up (eU.trans e4) p, args_ex (((eB.trans e).trans e2).trans e4) e5 p'⟩, q.fwd (e2.trans e4)⟩⟩
theorem ep_makeB {S : Rl} {as : List Arg} {C : Addr} (eB : Ex B H) (ha : EvBs tr σ H B as) (hR : ∀ vs G, ArgsR G vs as → S.R vs G (.ok P)) : EvP (tMakeS C (S.spI mg C) E tr) σ H P := fun H1 e Q q => ha H1 e _ fun vs H2 N e2 e3 f p x dx hx hdx hne =>
  ⟨x, dx, vs, H2, .ok P, rfl, rfl, hx, hdx, hne, hR vs H2 (args_ex ((eB.trans e).trans e2) e3 p), fun H' N e3 e4 f p => ⟨rfl, q (.ref x) H' N (e2.trans e3) e4 (f.back e2) p⟩⟩
end
/-! ### a new list whose spine lies apart -/
def Edn {α : Type} (T : Tp α) (te : TE) (σ : L2.St) (H B : Hp) (l : List α) : Prop := ∀ H1, Ex H H1 → ∀ Q : VK, (∀ p xs H2 N, Ex H1 H2 → Ex N H2 → Fr H1 N → H1 p = none → N p = none → H2 p = some (.lst xs) → Paired (T.R (uni B N)) xs l → l.length ≤ 40000 → Q (.ref p) H2) → te σ H1 Q
section
variable {K : PySem.W.Frag} {σ : L2.St} {H B B' : Hp} {ta tb te : TE} {tr : TA} {α : Type} {T : Tp α} {l m : List α}
theorem ed_of_n (eB : Ex B H) (h : Edn T te σ H B l) : Ed (tW T) te σ H B l := fun H1 e Q q => h H1 e Q fun p xs H2 N e2 e3 f h1 h2 h3 h4 h5 => by
  have f' : Fr H1 (sing p (.lst xs)) := sing_fr h1
  have fU : Fr H1 (uni N (sing p (.lst xs))) := uni_fr f f'
  have d : ∀ a, (sing p (.lst xs)) a ≠ none → N a = none := fun a ha => by
    by_cases z : a = p
    · subst z; exact h2
    · exact absurd (sing_ne z) ha
  exact q (.ref p) H2 (uni N (sing p (.lst xs))) e2 (uni_ex e3 (sing_ex h3)) fU ⟨p, xs, rfl, uni_r _ _ (uni_r _ _ sing_at), paired_up (uni_up2 (uni_l d) (eB.trans e) fU) h4, h5⟩
theorem en_flt [F : Flt T] (h : Edn T te σ H B l) : Edn T te σ H B' l := fun H1 e Q q => h H1 e Q fun p xs H2 N e2 e3 f h1 h2 h3 h4 h5 => q p xs H2 N e2 e3 f h1 h2 h3 (paired_any h4) h5
theorem en_lst (eB : Ex B H) (h : EvBs tr σ H B (l.map fun x => ⟨T, x⟩)) (hl : l.length ≤ 1000) : Edn T (tLst tr) σ H B l := fun H1 e Q q =>
  h H1 e _ fun vs H2 N e2 e3 f p => ⟨sz_of (by rw [p.len, List.length_map]; omega), fun r hr => q r vs _ N (e2.trans (Ex.new hr)) (e3.trans (Ex.new hr)) f (fresh_back e2 hr) (ex_none e3 hr) upd_same (argsL p) (by omega)⟩
end
/-! ### what is walked -/
/-- wi draws the items l into the target g; Z B y σ σ': the slots σ' behind drawing y -/
def Dr {ι : Type} (wi : TI) (g : TG) (σ : L2.St) (H B : Hp) (l : List ι) (Z : Hp → ι → L2.St → L2.St → Prop) : Prop := ∀ H1, Ex H H1 → ∀ R : L2.It → Hp → Prop, (∀ J H2 N, Ex H1 H2 → Ex N H2 → Fr H1 N → l.length ≤ 40000 →
  (∀ i H', Ex (uni B N) H' → i < l.length → J.go i H') → (∀ H', Ex (uni B N) H' → J.stop l.length H') →
  (∀ i y H' x H'', Ex (uni B N) H' → l[i]? = some y → J.yld i H' x H'' → Ex H' H'' ∧ ∀ σ' (Q : L2.St → Hp → Prop), (∀ σ2, Z (uni B N) y σ' σ2 → Q σ2 H'') → g x σ' H'' Q) → R J H2) → wi σ H1 R
section
variable {K : PySem.W.Frag} {mg : Str → Option Value} {σ : L2.St} {H B M G : Hp} {ta tb te tx ti tl : TE} {tr : TA} {t u : TT} {v w : V} {P P' : Hp → V → Prop} {Ns : List Hp} {D : Ends} {tu tz : TS} {wi : TI} {g : TG} {α β ι : Type} {T : Tp α} {S : Tp β} {l : List α} {Z : Hp → ι → L2.St → L2.St → Prop}
theorem get_lt {x : α} {i : Nat} (h : l[i]? = some x) : i < l.length := (List.getElem?_eq_some_iff.mp h).1
theorem dr_list {Z : Hp → α → L2.St → L2.St → Prop} (h : Ed (tL K T) tl σ H B l) (eB : Ex B H) (hz : ∀ G x y H', Ex G H' → T.R G x y → ∀ σ' (Q : L2.St → Hp → Prop), (∀ σ2, Z G y σ' σ2 → Q σ2 H') → g x σ' H' Q) : Dr (iList K tl) g σ H B l Z := fun H1 e R q =>
  h H1 e _ fun v H2 N e2 e3 f ⟨p, xs, ev, h1, h2, hl0⟩ => by
    have eU : Ex (uni B N) H2 := uni_ex ((eB.trans e).trans e2) e3
    have d := drw_list (K := K) h1
    rw [Paired.length h2] at d
    exact ⟨p, ev, ⟨xs, ex_l eU h1⟩, q _ H2 N e2 e3 f hl0 d.go d.stop fun i y H' x H'' eH hi hy => by
      obtain ⟨g1, g2⟩ := d.yld i H' x H'' eH (get_lt hi) hy
      obtain ⟨w, g3, g4⟩ := paired_at h2 hi
      rw [g3] at g2
      cases g2
      exact ⟨g1, hz _ _ _ _ (eH.trans g1) g4⟩⟩
def enumI {α : Type} (l : List α) : List (Int × α) := l.zipIdx.map fun p => ((p.2 : Int), p.1)
theorem dr_enum {Z : Hp → Int × α → L2.St → L2.St → Prop} (h : Ed (tL K T) tl σ H B l) (eB : Ex B H) (hz : ∀ G (i : Nat) a x y H', Ex G H' → T.R G x y → H' a = some (.tup [.int (i : Nat), x]) → ∀ σ' (Q : L2.St → Hp → Prop), (∀ σ2, Z G ((i : Nat), y) σ' σ2 → Q σ2 H') → g (.ref a) σ' H' Q) :
    Dr (iEnum K (tCons tl tNil)) g σ H B (enumI l) Z := fun H1 e R q =>
  h H1 e _ fun v H2 N e2 e3 f ⟨p, xs, ev, h1, h2, hl0⟩ => by
    subst ev
    have eU : Ex (uni B N) H2 := uni_ex ((eB.trans e).trans e2) e3
    have d := drw_enum (K := K) h1
    have hl : (enumI l).length = xs.length := by rw [enumI, List.length_map, List.length_zipIdx, Paired.length h2]
    refine ⟨p, xs, rfl, ex_l eU h1, q _ H2 N e2 e3 f (by rw [hl, Paired.length h2]; exact hl0) (fun i H' eH hi => d.go i H' eH (by rw [← hl]; exact hi)) (fun H' eH => by rw [hl]; exact d.stop H' eH) fun i y H' x H'' eH hi hy => ?_⟩
    obtain ⟨g1, T0, w, rfl, g2, g3⟩ := d.yld i H' x H'' eH (by rw [← hl]; exact get_lt hi) hy
    rw [enumI, List.getElem?_map, List.getElem?_zipIdx] at hi
    cases hli : l[i]? with
    | none => rw [hli] at hi; cases hi
    | some z =>
      rw [hli] at hi
      cases hi
      obtain ⟨w', g4, g5⟩ := paired_at h2 hli
      rw [g4] at g3
      cases g3
      have e0 : ((0 + i : Nat) : Int) = ((i : Nat) : Int) := by omega
      refine ⟨g1, fun σ' Q hQ => hz _ i T0 _ _ _ (eH.trans g1) g5 g2 σ' Q fun σ2 hz2 => hQ σ2 ?_⟩
      show Z _ (((0 + i : Nat) : Int), _) _ _
      rw [e0]
      exact hz2
def rngI (n : Int) : List Int := (List.range n.toNat).map fun (i : Nat) => (i : Int)
def rngI2 (a b : Int) : List Int := (List.range (b - a).toNat).map fun (i : Nat) => a + (i : Int)
theorem dr_rng {Z : Hp → Int → L2.St → L2.St → Prop} {n : Int} (h : Ev te σ H (.int n)) (hn : -1000000 ≤ n ∧ n ≤ 40000) (hz : ∀ G y H' σ' (Q : L2.St → Hp → Prop), (∀ σ2, Z G y σ' σ2 → Q σ2 H') → g (.int y) σ' H' Q) : Dr (iRng1 (tCons te tNil)) g σ H B (rngI n) Z := fun H1 e R q =>
  h H1 e _ fun H2 e2 => by
    have hl : (rngI n).length = n.toNat := by simp [rngI]
    have d := drw_rng (G := uni B emp) (lo := 0) (n := n.toNat)
    refine ⟨n, rfl, by omega, by omega, q _ H2 emp e2 emp_ex emp_fr (by rw [hl]; omega) (fun i H' eH hi => d.go i H' eH (by rw [← hl]; exact hi)) (fun H' eH => by rw [hl]; exact d.stop H' eH) fun i y H' x H'' eH hi hy => ?_⟩
    have hlt : i < n.toNat := by rw [← hl]; exact get_lt hi
    obtain ⟨g1, g2⟩ := d.yld i H' x H'' eH hlt hy
    unfold rngI at hi
    rw [List.getElem?_map, List.getElem?_range hlt] at hi
    cases hi
    subst g2
    have e0 : (0 : Int) + (i : Nat) = (i : Nat) := by omega
    rw [e0]
    exact ⟨g1, hz _ _ _⟩
/-! ### loops -/
theorem for_dr {J : L2.It} {l : List ι} (hgo : ∀ i H', Ex B H' → i < l.length → J.go i H') (hstop : ∀ H', Ex B H' → J.stop l.length H') (hyld : ∀ i y H' x H'', Ex B H' → l[i]? = some y → J.yld i H' x H'' → Ex H' H'' ∧ ∀ σ' (Q : L2.St → Hp → Prop), (∀ σ2, Z B y σ' σ2 → Q σ2 H'') → g x σ' H'' Q)
    (Pv : Nat → L2.St → Hp → Prop) (h0 : Pv 0 σ H) (hG : ∀ i σ' H', Pv i σ' H' → Ex B H') (hs : ∀ i y σ' H' H'' σ2, l[i]? = some y → Pv i σ' H' → Ex H' H'' → Z B y σ' σ2 → tu { D with nx := Pv (i + 1), ct := Pv (i + 1), bk := D.nx } σ2 H'') (hd : ∀ σ' H', Pv l.length σ' H' → D.nx σ' H') :
    ∃ W : Nat → Nat → L2.St → Hp → Prop, (∃ m, W 0 m σ H) ∧ ∀ i m σ H, W i m σ H →
      (J.stop i H ∧ D.nx σ H) ∨ (J.go i H ∧ ∃ N : L2.St → Hp → Prop, (∀ σ' H', N σ' H' → ∃ m', m' < m ∧ W (i + 1) m' σ' H') ∧ ∀ x H', J.yld i H x H' → g x σ H' fun σ2 H2 => tu { D with nx := N, ct := N, bk := D.nx } σ2 H2) := by
  refine ⟨fun i m σ H => m = l.length - i ∧ i ≤ l.length ∧ Pv i σ H, ⟨l.length, by simp, Nat.zero_le _, h0⟩, ?_⟩
  rintro i m σ H ⟨rfl, hi, p⟩
  have eG := hG i σ H p
  by_cases hlt : i < l.length
  · refine .inr ⟨hgo i H eG hlt, Pv (i + 1), fun σ' H' p' => ⟨l.length - (i + 1), by omega, rfl, hlt, p'⟩, fun x H' y => ?_⟩
    obtain ⟨e, y⟩ := hyld i l[i] H x H' eG (List.getElem?_eq_getElem hlt) y
    exact y σ _ fun σ2 hz => hs i l[i] σ H H' σ2 (List.getElem?_eq_getElem hlt) p e hz
  · have e : i = l.length := by omega
    subst e
    exact .inl ⟨hstop H eG, hd σ H p⟩
/-- .. over something new or flat; M: what is new -/
theorem s_fo {l : List ι} (o : Own (M :: G :: Ns) H) (hr : Dr wi g σ H M l Z) (Pv : Hp → Nat → L2.St → Hp → Prop) (h0 : ∀ M1 H1, Ex M M1 → Own (M1 :: G :: Ns) H1 → Pv M1 0 σ H1) (hG : ∀ M1 i σ' H', Ex M M1 → Pv M1 i σ' H' → Ex M1 H')
    (hs : ∀ M1 i y σ' H' H'' σ2, Ex M M1 → l[i]? = some y → Pv M1 i σ' H' → Ex H' H'' → Z M1 y σ' σ2 → tu { D with nx := Pv M1 (i + 1), ct := Pv M1 (i + 1), bk := D.nx } σ2 H'') (hd : ∀ M1 σ' H', Ex M M1 → Pv M1 l.length σ' H' → D.nx σ' H') : tFor wi g tu D σ H :=
  hr H (Ex.refl H) _ fun J H1 N e e2 f _ g1 g2 g3 => by
    have o1 : Own (uni M N :: G :: Ns) H1 := (o.add e e2 f).merge
    have eM : Ex M (uni M N) := uni_exl o.e0 f
    exact for_dr g1 g2 g3 (Pv (uni M N)) (h0 _ H1 eM o1) (fun i σ' H' p => hG _ i σ' H' eM p) (fun i y σ' H' H'' σ2 => hs _ i y σ' H' H'' σ2 eM) (fun σ' H' p => hd _ σ' H' eM p)
theorem q_fo {l : List ι} (o : Own (M :: G :: Ns) H) (hr : Dr wi g σ H M l Z) (Pv : Hp → Nat → L2.St → Hp → Prop) (h0 : ∀ M1 H1, Ex M M1 → Own (M1 :: G :: Ns) H1 → Pv M1 0 σ H1) (hG : ∀ M1 i σ' H', Ex M M1 → Pv M1 i σ' H' → Ex M1 H')
    (hs : ∀ M1 i y σ' H' H'' σ2, Ex M M1 → l[i]? = some y → Pv M1 i σ' H' → Ex H' H'' → Z M1 y σ' σ2 → tu { D with nx := Pv M1 (i + 1), ct := Pv M1 (i + 1), bk := tz D } σ2 H'') (hd : ∀ M1 σ' H', Ex M M1 → Pv M1 l.length σ' H' → tz D σ' H') : tSeq (tFor wi g tu) tz D σ H := s_fo (D := { D with nx := tz D }) o hr Pv h0 hG hs hd
/-! ### comprehensions -/
theorem en_lc {l : List ι} {vs : List Nat} (hr : Dr wi g σ H B l Z) (eB : Ex B H) (f : ι → Bool) (m : ι → β) (hw : ∀ G y σ2, Z G y (wipe σ vs) σ2 → wipe σ2 vs = wipe σ vs)
    (ht : ∀ G y σ2 H1, Ex B G → Ex G H1 → Ex H H1 → y ∈ l → Z G y (wipe σ vs) σ2 → EvT t σ2 H1 (f y)) (he : ∀ G y σ2 H1, Ex B G → Ex G H1 → Ex H H1 → y ∈ l → f y = true → Z G y (wipe σ vs) σ2 → Ed S te σ2 H1 G (m y)) (zu : ∀ G G' y σ2, Ex G G' → Z G y (wipe σ vs) σ2 → Z G' y (wipe σ vs) σ2) :
    Edn S (tLc wi g t te vs) σ H B ((l.filter f).map m) := fun H1 e Q q =>
  hr H1 e _ fun J H2 N e2 e3 fN hn g1 g2 g3 Dl hD => by
    have eB2 : Ex B H2 := (eB.trans e).trans e2
    have eU : Ex (uni B N) H2 := uni_ex eB2 e3
    refine ⟨fun i k H' => k = l.length - i ∧ i ≤ l.length ∧ ∃ (N' : Hp) (xs : List V), Own [sing Dl (.lst xs), N', H2] H' ∧ Paired (S.R (uni (uni B N) N')) xs (((l.take i).filter f).map m), ⟨l.length, by simp, Nat.zero_le _, emp, [], ⟨sing_ex upd_same, fun M hM a ha => ?_, emp_ex, (fun _ _ a ha => absurd rfl ha), Ex.new hD, (fun _ h => nomatch h), trivial⟩, .nil⟩, ?_⟩
    · rcases List.mem_cons.mp hM with z | z
      · subst z; rfl
      · have z : M = H2 := by simpa using z
        subst z
        by_cases qa : a = Dl
        · subst qa; exact hD
        · exact absurd (sing_ne qa) ha
    rintro i k H' ⟨rfl, hi, N', xs, o, pr⟩
    have eB' : Ex (uni B N) H' := eU.trans o.e2
    have hlen : (((l.take i).filter f).map m).length ≤ 50000 := by
      rw [List.length_map]
      have := List.length_filter_le f (l.take i)
      rw [List.length_take] at this
      omega
    by_cases hlt : i < l.length
    · have hli : l[i]? = some l[i] := List.getElem?_eq_getElem hlt
      have hmem : l[i] ∈ l := List.getElem_mem hlt
      have htk : l.take (i + 1) = l.take i ++ [l[i]] := (List.take_append_getElem hlt).symm
      refine .inr ⟨g1 i H' eB' hlt, _, fun H3 p => p, fun x H3 hy => ?_⟩
      obtain ⟨e4, hy⟩ := g3 i l[i] H' x H3 eB' hli hy
      refine hy _ _ fun σ2 hz => ⟨hw _ _ _ hz, ?_⟩
      have o3 := o.mono e4
      have dj : Fr H2 N' := o3.dj (i := 1) (j := 2) (by decide) rfl rfl
      have eG : Ex (uni (uni B N) N') H3 := uni_ex (eU.trans o3.e2) o3.e1
      have eBG : Ex (uni B N) (uni (uni B N) N') := uni_exl eU dj
      have eBB : Ex B (uni (uni B N) N') := (uni_exl (eB.trans e) fN).trans eBG
      have hz' := zu _ _ _ _ eBG hz
      refine ht _ _ σ2 H3 eBB eG ((e.trans e2).trans o3.e2) hmem hz' H3 (Ex.refl _) _ fun H4 e5 => ?_
      cases hf : f l[i] with
      | false =>
        show ∃ _, _
        refine ⟨l.length - (i + 1), by omega, rfl, hlt, N', xs, o3.mono e5, ?_⟩
        rw [htk, List.filter_append, List.filter_cons, if_neg (by rw [hf]; decide)]
        simpa using pr
      | true =>
        show te σ2 H4 _
        refine he _ _ σ2 H4 eBB (eG.trans e5) (((e.trans e2).trans o3.e2).trans e5) hmem hf hz' H4 (Ex.refl _) _ fun y H5 N2 e6 e7 f2 p => ?_
        have o5 : Own [N2, sing Dl (.lst xs), N', H2] H5 := (o3.mono e5).add e6 e7 f2
        refine ⟨xs, o5.at (j := 1) rfl, by rw [Paired.length pr]; exact sz_lt (by omega), l.length - (i + 1), by omega, rfl, hlt, uni N' N2, xs ++ [y], ?_, ?_⟩
        · have o6 : Own [N2, sing Dl (.lst (xs ++ [y])), N', H2] (upd H5 Dl (.lst (xs ++ [y]))) := o5.set (j := 1) rfl
          exact own_merge2 o6.swap
        · rw [htk, List.filter_append, List.filter_cons, if_pos hf, List.map_append]
          have e8 : Ex (uni (uni B N) N') (uni (uni B N) (uni N' N2)) := by
            rw [← uni_ass]
            exact uni_exl (eG.trans e5) f2
          refine paired_app' (paired_up e8 pr) (.cons ?_ .nil)
          rw [← uni_ass]
          exact p
    · have ei : i = l.length := by omega
      subst ei
      rw [List.take_length] at pr
      refine .inl ⟨g2 H' eB', ?_⟩
      have dj : Fr H2 N' := o.dj (i := 1) (j := 2) (by decide) rfl rfl
      have hN : N' Dl = none := (o.dj (i := 0) (j := 1) (by decide) rfl rfl) Dl (by rw [sing_at]; exact fun z => nomatch z)
      refine q Dl xs H' (uni N N') (e2.trans o.e2) (uni_ex (e3.trans o.e2) o.e1) (uni_fr fN (dj.back e2)) (fresh_back e2 hD) ?_ (o.at (j := 0) rfl) ?_ (by rw [List.length_map]; exact Nat.le_trans (List.length_filter_le _ _) hn)
      · unfold uni
        rw [hN]
        exact ex_none e3 hD
      · rw [← uni_ass]
        exact pr
theorem en_lcA {l : List ι} {vs : List Nat} (hr : Dr wi g σ H B l Z) (eB : Ex B H) (m : ι → β) (hw : ∀ G y σ2, Z G y (wipe σ vs) σ2 → wipe σ2 vs = wipe σ vs) (he : ∀ G y σ2 H1, Ex B G → Ex G H1 → Ex H H1 → y ∈ l → Z G y (wipe σ vs) σ2 → Ed S te σ2 H1 G (m y)) (zu : ∀ G G' y σ2, Ex G G' → Z G y (wipe σ vs) σ2 → Z G' y (wipe σ vs) σ2) :
    Edn S (tLc wi g tYes te vs) σ H B (l.map m) := by
  have h := en_lc (t := tYes) hr eB (fun _ => true) m hw (fun _ _ _ _ _ _ _ _ _ => et_yes) (fun G y σ2 H1 a b c d _ e => he G y σ2 H1 a b c d e) zu
  rw [filter_all] at h
  exact h
theorem ed_lcA {l : List ι} {vs : List Nat} (hr : Dr wi g σ H B l Z) (eB : Ex B H) (m : ι → β) (hw : ∀ G y σ2, Z G y (wipe σ vs) σ2 → wipe σ2 vs = wipe σ vs) (he : ∀ G y σ2 H1, Ex B G → Ex G H1 → Ex H H1 → y ∈ l → Z G y (wipe σ vs) σ2 → Ed S te σ2 H1 G (m y)) (zu : ∀ G G' y σ2, Ex G G' → Z G y (wipe σ vs) σ2 → Z G' y (wipe σ vs) σ2) :
    Ed (tW S) (tLc wi g tYes te vs) σ H B (l.map m) := ed_of_n eB (en_lcA hr eB m hw he zu)
theorem rngI_get {n y : Int} {i : Nat} : (rngI n)[i]? = some y ↔ y = (i : Int) ∧ (i : Int) < n := by
  unfold rngI
  rw [List.getElem?_map]
  by_cases h : i < n.toNat
  · rw [List.getElem?_range h]
    constructor
    · intro e
      cases e
      exact ⟨rfl, by omega⟩
    · rintro ⟨rfl, _⟩
      rfl
  · rw [List.getElem?_eq_none (by simpa using h)]
    constructor
    · intro e
      cases e
    · rintro ⟨_, _⟩
      omega
theorem rngI2_get {a b y : Int} {i : Nat} : (rngI2 a b)[i]? = some y ↔ y = a + (i : Int) ∧ a + (i : Int) < b := by
  unfold rngI2
  rw [List.getElem?_map]
  by_cases h : i < (b - a).toNat
  · rw [List.getElem?_range h]
    constructor
    · intro e
      cases e
      exact ⟨rfl, by omega⟩
    · rintro ⟨rfl, _⟩
      rfl
  · rw [List.getElem?_eq_none (by simpa using h)]
    constructor
    · intro e
      cases e
    · rintro ⟨_, _⟩
      omega
theorem enumI_get {y : Int × α} {i : Nat} : (enumI l)[i]? = some y ↔ l[i]? = some y.2 ∧ y.1 = (i : Int) := by
  unfold enumI
  rw [List.getElem?_map, List.getElem?_zipIdx]
  cases h : l[i]? with
  | none => simp
  | some z =>
    obtain ⟨y1, y2⟩ := y
    simp
    constructor
    · rintro ⟨h1, h2⟩
      exact ⟨h2, h1.symm⟩
    · rintro ⟨h1, h2⟩
      exact ⟨h2.symm, h1⟩
theorem rngI_len {n : Int} : (rngI n).length = n.toNat := by simp [rngI]
theorem rngI2_len {a b : Int} : (rngI2 a b).length = (b - a).toNat := by simp [rngI2]
theorem enumI_len : (enumI l).length = l.length := by simp [enumI]
theorem rngI_mem {n y : Int} : y ∈ rngI n ↔ 0 ≤ y ∧ y < n := by
  rw [List.mem_iff_getElem?]
  constructor
  · rintro ⟨i, h⟩
    obtain ⟨h1, h2⟩ := rngI_get.mp h
    omega
  · rintro ⟨h1, h2⟩
    exact ⟨y.toNat, rngI_get.mpr ⟨by omega, by omega⟩⟩
theorem rngI2_mem {a b y : Int} : y ∈ rngI2 a b ↔ a ≤ y ∧ y < b := by
  rw [List.mem_iff_getElem?]
  constructor
  · rintro ⟨i, h⟩
    obtain ⟨h1, h2⟩ := rngI2_get.mp h
    omega
  · rintro ⟨h1, h2⟩
    exact ⟨(y - a).toNat, rngI2_get.mpr ⟨by omega, by omega⟩⟩
end
end Kj

/-! Kj13: statements over kinds. M: what is new since the def began, G: what was there. -/
namespace Kj
open PySem PySem.Spec PyProof.Rows L2 Evl
section
variable {M M1 G H H1 : Hp} {Ns : List Hp}
theorem Own.uu (o : Own (M1 :: G :: Ns) H1) (e : Ex M M1) : Ex (uni G M) (uni G M1) := fun a u h => by
  unfold uni at h ⊢
  cases q : M a with
  | some z =>
    rw [q] at h
    cases h
    rw [e _ _ q]
  | none =>
    rw [q] at h
    cases q1 : M1 a with
    | none => exact h
    | some z =>
      have := o.2.1 G List.mem_cons_self a (by rw [q1]; exact fun z => nomatch z)
      rw [this] at h
      cases h
theorem Own.ug (o : Own (M :: G :: Ns) H) : Ex G (uni G M) := uni_l fun a ha => o.2.1 G List.mem_cons_self a ha
theorem Own.uh (o : Own (M :: G :: Ns) H) : Ex (uni G M) H := uni_ex o.e1 o.e0
theorem Own.init (H : Hp) : Own [emp, H] H := ⟨emp_ex, (fun _ _ a ha => absurd rfl ha), Own.one H⟩
theorem Own.rot {N : Hp} (o : Own (N :: M :: G :: Ns) H) : Own (M :: G :: N :: Ns) H := by
  have o2 : Own (M :: N :: G :: Ns) H := o.swap
  exact ⟨o2.1, fun M' hM' => by
    rcases List.mem_cons.mp hM' with z | z
    · subst z; exact o2.2.1 M' (List.mem_cons_of_mem _ List.mem_cons_self)
    · rcases List.mem_cons.mp z with z | z
      · subst z; exact o2.2.1 M' List.mem_cons_self
      · exact o2.2.1 M' (List.mem_cons_of_mem _ (List.mem_cons_of_mem _ z)), o2.2.2.swap⟩
theorem Own.exO (o : Own (M :: G :: Ns) H) {N : Hp} {j : Nat} (h : Ns[j]? = some N) : Ex N H := o.ix (i := j + 2) h
theorem Own.setO {l : Addr} {u u' : HO} {j : Nat} (o : Own (M :: G :: Ns) H) (h : Ns[j]? = some (sing l u)) : Own (M :: G :: Ns.set j (sing l u')) (upd H l u') := Own.set (j := j + 2) o h
/-- what was one's own becomes common -/
theorem Own.join {N : Hp} {j : Nat} (o : Own (M :: G :: Ns) H) (h : Ns[j]? = some N) : Own (uni M N :: G :: Ns.eraseIdx j) H := by
  have o2 : Own (N :: M :: G :: Ns.eraseIdx j) H := Own.pull (i := j + 2) o h
  exact o2.merge
end
section
variable {K : PySem.W.Frag} {mg : Str → Option Value} {σ : L2.St} {H M G : Hp} {ta tb te : TE} {tr : TA} {t : TT} {v : V} {P : Hp → V → Prop} {Ns : List Hp} {D : Ends} {tu tz : TS} {α β : Type} {T : Tp α} {S : Tp β} {l m : List α} {x : α} {xs : List V} {i j : Nat} {p : Addr}
/-! ### x = e -/
theorem s_b (o : Own (M :: G :: Ns) H) (h : EvB te σ H M P) (k : ∀ v M1 H1, Ex M M1 → Own (M1 :: G :: Ns) H1 → P M1 v → D.nx (σ.set i (some v)) H1) : tAsg te (gName i) D σ H := h H (Ex.refl H) _ fun v H1 N e e2 f p => k v (uni M N) H1 (uni_exl o.e0 f) (o.add e e2 f).merge p
theorem q_b (o : Own (M :: G :: Ns) H) (h : EvB te σ H M P) (k : ∀ v M1 H1, Ex M M1 → Own (M1 :: G :: Ns) H1 → P M1 v → tz D (σ.set i (some v)) H1) : tSeq (tAsg te (gName i)) tz D σ H := s_b (D := { D with nx := tz D }) o h k
/-- a list that will be changed -/
theorem s_o (o : Own (M :: G :: Ns) H) (h : Edn T te σ H M l) (k : ∀ p xs M1 H1, Ex M M1 → Own (M1 :: G :: sing p (.lst xs) :: Ns) H1 → Paired (T.R M1) xs l → l.length ≤ 40000 → D.nx (σ.set i (some (.ref p))) H1) : tAsg te (gName i) D σ H := h H (Ex.refl H) _ fun p xs H1 N e e2 f h1 h2 h3 h4 h5 => k p xs (uni M N) H1 (uni_exl o.e0 f) (by
    have o1 : Own (uni M N :: G :: Ns) H1 := (o.add e e2 f).merge
    have d : ∀ M' ∈ uni M N :: G :: Ns, Dj (sing p (.lst xs)) M' := fun M' hM' a ha => by
      have z : a = p := Classical.byContradiction fun z => ha (sing_ne z)
      subst z
      rcases List.mem_cons.mp hM' with z | z
      · subst z
        unfold uni
        rw [h2]
        exact ex_none o.e0 h1
      · exact ex_none (o.exm (List.mem_cons_of_mem _ z)) h1
    have o2 : Own (sing p (.lst xs) :: uni M N :: G :: Ns) H1 := ⟨sing_ex h3, d, o1⟩
    exact o2.rot) h4 h5
theorem q_o (o : Own (M :: G :: Ns) H) (h : Edn T te σ H M l) (k : ∀ p xs M1 H1, Ex M M1 → Own (M1 :: G :: sing p (.lst xs) :: Ns) H1 → Paired (T.R M1) xs l → l.length ≤ 40000 → tz D (σ.set i (some (.ref p))) H1) : tSeq (tAsg te (gName i)) tz D σ H := s_o (D := { D with nx := tz D }) o h k
/-! ### xs.append(e) -/
theorem s_ap (o : Own (M :: G :: Ns) H) (hj : Ns[j]? = some (sing p (.lst xs))) (hx : Paired (T.R M) xs l) (ha : Ev ta σ H (.ref p)) (h : Ed T te σ H M x) (hl : l.length < 40000) (k : ∀ v M1 H1, Ex M M1 → Own (M1 :: G :: Ns.set j (sing p (.lst (xs ++ [v])))) H1 → Paired (T.R M1) (xs ++ [v]) (l ++ [x]) → D.nx σ H1) : tDrop (tBM K "list" rAppend ta (tCons te tNil)) D σ H := ha H (Ex.refl H) _ fun H1 e1 =>
  ⟨Or.inl ⟨rfl, xs, sq_of (e1 p _ (o.exO hj _ _ sing_at))⟩, h H1 e1 _ fun v H2 N e2 e3 f q => by
    have o2 : Own (uni M N :: G :: Ns) H2 := ((o.mono e1).add e2 e3 f).merge
    have eM : Ex M (uni M N) := uni_exl (o.e0.trans e1) f
    exact ⟨p, xs, v, rfl, rfl, o2.exO hj _ _ sing_at, sz_lt (by rw [Paired.length hx]; omega), k v _ _ eM (o2.setO hj) (paired_app' (paired_up eM hx) (.cons q .nil))⟩⟩
theorem len_ofL {v : V} (h : (tL K T).R H v l) : l.length ≤ 40000 := by
  obtain ⟨_, _, _, _, _, h⟩ := h
  exact h
theorem len_ofW {v : V} (h : (tW T).R H v l) : l.length ≤ 40000 := by
  obtain ⟨_, _, _, _, _, h⟩ := h
  exact h
/-- xs, one's own, read -/
theorem own_rd (o : Own (M :: G :: Ns) H) (hj : Ns[j]? = some (sing p (.lst xs))) (hx : Paired (T.R M) xs l) (hl : l.length ≤ 40000) : (tW T).R H (.ref p) l := ⟨p, xs, rfl, o.exO hj _ _ sing_at, paired_up o.e0 hx, hl⟩
theorem paired_mapI {H : Hp} : ∀ l : List Int, Paired (tI.R H) (l.map V.int) l
  | [] => .nil
  | _ :: r => .cons rfl (paired_mapI r)
/-! ### return -/
theorem s_rb (o : Own (M :: G :: Ns) H) (h : EvB te σ H M P) (k : RetNew G D.rt P) : tRet te D σ H := h H (Ex.refl H) _ fun v H1 N e e2 f q => by
  have o1 : Own (uni M N :: G :: Ns) H1 := (o.add e e2 f).merge
  exact k v H1 _ o1.e1 o1.e0 (fun a ha => o1.2.1 G List.mem_cons_self a ha) q
theorem s_rv' (o : Own (M :: G :: Ns) H) (h : Ev te σ H v) (k : RetNew G D.rt P) (hp : P M v) : tRet te D σ H := h H (Ex.refl H) _ fun H1 e => k v H1 M ((o.mono e).e1) ((o.mono e).e0) (fun a ha => o.2.1 G List.mem_cons_self a ha) hp
theorem ed_of {B : Hp} (h : T.R B v x) (hv : σ[i]? = some (some v)) : Ed T (tVar i) σ H B x := eb_var hv h
end
section
variable {mg : Str → Option Value} {e : Option Str} {P : Hp → V → Prop} {H H1 : Hp} {Q : VK} {E : XK} {x : Str}
theorem RaiseX.go {C : Addr} (k : RaiseX mg x [] H E) (e : Ex H H1) (g : mg x = some (.ref C)) : E (.ref C) none H1 := k H1 C none e g (.inl ⟨rfl, rfl⟩)
end
end Kj

/-! Kj14: promises of things that hold what was handed in; walks over a part; index, extend. -/
namespace Kj
open PySem PySem.Spec PyProof.Rows L2 Evl
section
variable {K : PySem.W.Frag} {mg : Str → Option Value} {σ : L2.St} {H B : Hp} {ta te : TE} {tr : TA} {P : Hp → V → Prop} {E : L2.St → XK} {W : WX} {α γ : Type} {T : Tp α} {O : Tp γ} {S : Rl} {as : List Arg} {x : α} {z : γ} {C : Addr} {mn xn : Str} {fs : List (Str × V)}
end
/-- what of H is not in B -/
def rest (B H : Hp) : Hp := fun a => match B a with | some _ => none | none => H a
section
variable {B H H1 M G : Hp} {Ns : List Hp}
end
section
variable {K : PySem.W.Frag} {mg : Str → Option Value} {σ : L2.St} {H H0 M B N : Hp} {ta tb te : TE} {v : V} {P : Hp → V → Prop} {Ns : List Hp} {D : Ends} {tu tz : TS} {α ι : Type} {T : Tp α} {l m : List α} {x : α} {xs : List V} {i j : Nat} {p : Addr} {e : Option Str} {Q : VK} {E : XK} {xn : Str} {wi : TI} {g : TG}
/-! ### all, any, sum; min, max of two -/
theorem paired_bls {H : Hp} {xs : List V} {l : List Bool} (h : Paired (tB.R H) xs l) : xs = l.map V.bl := by
  induction h with
  | nil => rfl
  | cons a r ih => cases a; rw [ih]; rfl
theorem ev_anyB {B : Hp} {l : List Bool} (h : Ed (tL K tB) te σ H B l) (eB : Ex B H) : Ev (tCB (rAny K) (tCons te tNil)) σ H (.bl (l.any id)) := fun H1 e Q q =>
  h H1 e _ fun v H2 N e2 e3 f ⟨p, xs, ev, h1, h2, _⟩ => by
    subst ev
    rw [paired_bls h2] at h1
    exact ⟨p, l, rfl, ex_l (uni_ex ((eB.trans e).trans e2) e3) h1, q H2 e2⟩
end
end Kj

/-! Kj15: xs[lo::step], step more than 0. -/
namespace Kj
open PySem PySem.Spec PyProof.Rows L2 Evl
end Kj

/-! Kj16: max(xs, default=d), min(xs, default=None), tuples of any length. -/
namespace Kj
open PySem PySem.Spec PyProof.Rows L2 Evl
end Kj

/-! Kj17: sorted(ints). -/
namespace Kj
open PySem PySem.Spec PyProof.Rows L2 Evl
end Kj

/-! Kj18: tuples of any length, min(ints, default=None), max of two. -/
namespace Kj
open PySem PySem.Spec PyProof.Rows L2 Evl
/-- a tuple of any length, all of a kind -/
def tU (K : PySem.W.Frag) {α : Type} (T : Tp α) : Tp (List α) := ⟨fun H v l => ∃ p xs, v = .ref p ∧ SqT K H p xs ∧ Paired (T.R H) xs l ∧ l.length ≤ 40000, fun e ⟨p, xs, h1, h2, h3, h4⟩ => ⟨p, xs, h1, ex_t e h2, paired_up e h3, h4⟩⟩
instance {K : PySem.W.Frag} {α : Type} {T : Tp α} : NN (tU K T) := ⟨fun ⟨_, _, h, _⟩ z => by cases h; cases z⟩
instance {K : PySem.W.Frag} {α : Type} {T S : Tp α} [Z : Sub T S] : Sub (tU K T) (tU K S) := ⟨fun ⟨p, xs, h1, h2, h3, h4⟩ => ⟨p, xs, h1, h2, paired_imp (fun _ _ z => Z.to z) h3, h4⟩⟩
instance {K : PySem.W.Frag} {α : Type} {T : Tp α} [Q : Pla K T] : Pla K (tU K T) := ⟨fun l => .tuple (l.map Q.enc), fun ⟨p, xs, h1, h2, h3, _⟩ => by subst h1; exact .tup h2 (dpa_of h3), fun ⟨p, xs, h1, h2, h3, _⟩ => by simp only [PyData.canLay0, laya_of h3], fun ⟨p, xs, h1, h2, h3, h4⟩ => smD_tuple.mpr ⟨by rw [List.length_map]; exact h4, sma_of h3⟩, Q.dep + 1, fun l => by
  have := depAll (n := Q.dep) (ds := l.map Q.enc) fun d hd => by
    obtain ⟨x, _, rfl⟩ := List.mem_map.mp hd
    exact Q.depth x
  simp only [PyData.depth]
  omega, fun {H v x w y} ⟨p, xs, _, _, h3, _⟩ ⟨q, ys, _, _, g3, _⟩ => by rw [eqv_tup, eqva_of (G := H) h3 g3]⟩
section
variable {K : PySem.W.Frag} {σ : L2.St} {H B B' : Hp} {ta tb te td : TE} {tr : TA} {α : Type} {T : Tp α} {l m : List α}
end
end Kj

/-! Kj19: changes of a deal, told as tuples with a word ahead. -/
namespace Kj
open PySem PySem.Spec PyProof.Rows L2 Evl
inductive Chg where
  | wo (v : Int)
  | snt (v r : Int)
  | mov (v r p : Int)
deriving DecidableEq, Inhabited
def Chg.tag : Chg → Str
  | .wo _ => "without"
  | .snt _ _ => "sent"
  | .mov _ _ _ => "moved"
def Chg.v : Chg → Int
  | .wo v => v
  | .snt v _ => v
  | .mov v _ _ => v
def Chg.r : Chg → Int
  | .wo _ => 0
  | .snt _ r => r
  | .mov _ r _ => r
def Chg.p : Chg → Int
  | .mov _ _ p => p
  | _ => 0
def Chg.n : Chg → Nat
  | .wo _ => 2
  | .snt _ _ => 3
  | .mov _ _ _ => 4
theorem Chg.n3 {c : Chg} (h : decide (c.tag = ("without" : Str)) = false) : 3 ≤ c.n := by
  cases c with
  | wo v => exact absurd rfl (of_decide_eq_false h)
  | snt v r => exact Nat.le_refl _
  | mov v r p => show 3 ≤ 4; decide
section
variable {K : PySem.W.Frag} {σ : L2.St} {H B : Hp} {te : TE} {c : Chg} {x r p : Int}
end
end Kj

/-! Kj20: promises of a new list that holds what was handed in. -/
namespace Kj
open PySem PySem.Spec PyProof.Rows L2 Evl
/-- a kind made of tuples and plain things: a list's cell says nothing of it -/
class Tup {α : Type} (T : Tp α) : Prop where
  drop : ∀ {G : Hp} {p : Addr} {xs : List V} {v : V} {x : α}, G p = none → T.R (uni G (sing p (.lst xs))) v x → T.R G v x
instance : Tup tI := ⟨fun _ h => h⟩
instance : Tup tB := ⟨fun _ h => h⟩
instance : Tup tS := ⟨fun _ h => h⟩
instance : Tup tX := ⟨fun _ h => h⟩
theorem uni_off {G : Hp} {p : Addr} {u : HO} {a : Addr} (h : a ≠ p) : uni G (sing p u) a = G a := by
  unfold uni
  rw [sing_ne h]
theorem sqT_drop {K : PySem.W.Frag} {G : Hp} {p : Addr} {xs ys : List V} {a : Addr} (h : SqT K (uni G (sing p (.lst xs))) a ys) : SqT K G a ys := by
  rcases h with h | h
  · have ne : a ≠ p := fun z => by
      subst z
      have e : uni G (sing a (.lst xs)) a = some (.lst xs) := uni_r _ _ sing_at
      rcases h with h | ⟨o, h⟩ <;> rw [e] at h <;> cases h
    refine .inl ?_
    rcases h with h | ⟨o, h⟩ <;> rw [uni_off ne] at h
    · exact .inl h
    · exact .inr ⟨o, h⟩
  · exact .inr h
theorem paired_drop0 {α : Type} {T : Tp α} [D : Tup T] {G : Hp} {p : Addr} {xs ys : List V} {l : List α} (hp : G p = none) (h : Paired (T.R (uni G (sing p (.lst xs)))) ys l) : Paired (T.R G) ys l := paired_imp (fun _ _ z => D.drop hp z) h
instance {K : PySem.W.Frag} {α β : Type} {T : Tp α} {S : Tp β} [D : Tup T] [E : Tup S] : Tup (tP K T S) := ⟨fun hp ⟨p, a, b, h1, h2, h3, h4⟩ => ⟨p, a, b, h1, sqT_drop h2, D.drop hp h3, E.drop hp h4⟩⟩
instance {K : PySem.W.Frag} {α β γ : Type} {T : Tp α} {S : Tp β} {U : Tp γ} [D : Tup T] [E : Tup S] [F : Tup U] : Tup (tT3 K T S U) := ⟨fun hp ⟨p, a, b, c, h1, h2, h3, h4, h5⟩ => ⟨p, a, b, c, h1, sqT_drop h2, D.drop hp h3, E.drop hp h4, F.drop hp h5⟩⟩
instance {K : PySem.W.Frag} {α β γ δ : Type} {T : Tp α} {S : Tp β} {U : Tp γ} {W : Tp δ} [D : Tup T] [E : Tup S] [F : Tup U] [O : Tup W] : Tup (tT4 K T S U W) := ⟨fun hp ⟨p, a, b, c, d, h1, h2, h3, h4, h5, h6⟩ => ⟨p, a, b, c, d, h1, sqT_drop h2, D.drop hp h3, E.drop hp h4, F.drop hp h5, O.drop hp h6⟩⟩
instance {K : PySem.W.Frag} {α : Type} {T : Tp α} [D : Tup T] : Tup (tU K T) := ⟨fun hp ⟨p, xs, h1, h2, h3, h4⟩ => ⟨p, xs, h1, sqT_drop h2, paired_drop0 hp h3, h4⟩⟩
section
variable {K : PySem.W.Frag} {mg : Str → Option Value} {σ : L2.St} {H H0 M B N : Hp} {ta tb te : TE} {tr : TA} {Ns : List Hp} {D : Ends} {α : Type} {T : Tp α} {l : List α} {xs : List V} {i j : Nat} {p : Addr} {S : Rl} {as : List Arg} {E : L2.St → XK}
end
end Kj

/-! Kj21: comprehensions of new things over anything (after Kj12's own text). -/
namespace Kj
open PySem PySem.Spec PyProof.Rows L2 Evl
section
variable {K : PySem.W.Frag} {mg : Str → Option Value} {σ : L2.St} {H B M G : Hp} {ta tb te tx ti tl : TE} {tr : TA} {t u : TT} {v w : V} {P P' : Hp → V → Prop} {Ns : List Hp} {D : Ends} {tu tz : TS} {wi : TI} {g : TG} {α β ι : Type} {T : Tp α} {S : Tp β} {Z : Hp → ι → L2.St → L2.St → Prop}
end
end Kj

/-! Kj22: a new list of others' things, taken only to be read. -/
namespace Kj
open PySem PySem.Spec PyProof.Rows L2 Evl
section
variable {K : PySem.W.Frag} {mg : Str → Option Value} {σ : L2.St} {H B : Hp} {tr : TA} {α : Type} {T : Tp α} {x : α} {S : Rl} {as : List Arg} {E : L2.St → XK}
end
end Kj

/-! Kj23: new lists whose things lie apart from one another (kind tV), so that one of them may be changed. -/
namespace Kj
open PySem PySem.Spec PyProof.Rows L2 Evl
/-- things told each in a part of its own -/
inductive Sep {α : Type} (R : Hp → V → α → Prop) : Hp → List V → List α → Prop
  | nil {N : Hp} : Sep R N [] []
  | snoc {N N1 N2 : Hp} {xs : List V} {l : List α} {x : V} {y : α} : Sep R N1 xs l → R N2 x y → Dj N1 N2 → Ex N1 N → Ex N2 N → Sep R N (xs ++ [x]) (l ++ [y])
theorem Sep.up {α : Type} {R : Hp → V → α → Prop} {N N' : Hp} {xs : List V} {l : List α} (h : Sep R N xs l) (e : Ex N N') : Sep R N' xs l := by
  cases h with
  | nil => exact .nil
  | snoc a b c d f => exact .snoc a b c (d.trans e) (f.trans e)
theorem Sep.pair {α : Type} {T : Tp α} {N : Hp} {xs : List V} {l : List α} (h : Sep T.R N xs l) : Paired (T.R N) xs l := by
  induction h with
  | nil => exact .nil
  | snoc a b c d f ih => exact paired_app' (paired_up d ih) (.cons (T.up f b) .nil)
theorem Sep.len {α : Type} {R : Hp → V → α → Prop} {N : Hp} {xs : List V} {l : List α} (h : Sep R N xs l) : xs.length = l.length := by
  induction h with
  | nil => rfl
  | snoc a b c d f ih => rw [List.length_append, List.length_append, ih]; rfl
/-- a new thing between them -/
theorem Sep.ins {α : Type} {R : Hp → V → α → Prop} {N : Hp} {xs : List V} {l : List α} (h : Sep R N xs l) : ∀ (k : Nat) {C : Hp} {x : V} {y : α}, R C x y → Dj N C → Sep R (uni N C) (xs.take k ++ [x] ++ xs.drop k) (l.take k ++ [y] ++ l.drop k) := by
  induction h with
  | @nil N =>
    intro k C x y hR hD
    rw [List.take_nil, List.drop_nil, List.take_nil, List.drop_nil]
    exact .snoc (N1 := emp) .nil hR (fun u hu => absurd rfl hu) emp_ex uni_r
  | @snoc N N1 N2 xs l x0 y0 a b c d f ih =>
    intro k C x y hR hD
    have hlen := a.len
    have d1 : Dj N1 C := fun u hu => hD u fun w => by
      cases r : N1 u with
      | none => exact hu r
      | some o => rw [d u o r] at w; cases w
    have d2 : Dj N2 C := fun u hu => hD u fun w => by
      cases r : N2 u with
      | none => exact hu r
      | some o => rw [f u o r] at w; cases w
    have eN : Ex N (uni N C) := uni_l (Dj.symm hD)
    by_cases q : k ≤ l.length
    · have e1 : (xs ++ [x0]).take k ++ [x] ++ (xs ++ [x0]).drop k = (xs.take k ++ [x] ++ xs.drop k) ++ [x0] := by
        rw [List.take_append_of_le_length (by omega), List.drop_append_of_le_length (by omega)]
        simp
      have e2 : (l ++ [y0]).take k ++ [y] ++ (l ++ [y0]).drop k = (l.take k ++ [y] ++ l.drop k) ++ [y0] := by
        rw [List.take_append_of_le_length q, List.drop_append_of_le_length q]
        simp
      rw [e1, e2]
      refine .snoc (ih k hR d1) b (fun u hu => ?_) (fun u o hu => ?_) (f.trans eN)
      · unfold uni at hu
        cases r : C u with
        | some o => exact Dj.symm d2 u (by rw [r]; exact Option.some_ne_none _)
        | none => rw [r] at hu; exact c u hu
      · unfold uni at hu ⊢
        cases r : C u with
        | some o' => rw [r] at hu; exact hu
        | none => rw [r] at hu; exact d u o hu
    · have e1 : (xs ++ [x0]).take k ++ [x] ++ (xs ++ [x0]).drop k = (xs ++ [x0]) ++ [x] := by
        rw [List.take_of_length_le (by rw [List.length_append, List.length_singleton]; omega), List.drop_of_length_le (by rw [List.length_append, List.length_singleton]; omega), List.append_nil]
      have e2 : (l ++ [y0]).take k ++ [y] ++ (l ++ [y0]).drop k = (l ++ [y0]) ++ [y] := by
        rw [List.take_of_length_le (by rw [List.length_append, List.length_singleton]; omega), List.drop_of_length_le (by rw [List.length_append, List.length_singleton]; omega), List.append_nil]
      rw [e1, e2]
      exact .snoc (.snoc a b c d f) hR hD eN uni_r
def tV {α : Type} (T : Tp α) : Tp (List α) := ⟨fun H v l => ∃ p xs M, v = .ref p ∧ H p = some (.lst xs) ∧ Ex M H ∧ M p = none ∧ Sep T.R M xs l ∧ l.length ≤ 40000, fun e ⟨p, xs, M, h1, h2, h3, h4⟩ => ⟨p, xs, M, h1, e _ _ h2, h3.trans e, h4⟩⟩
instance {α : Type} {T S : Tp α} [Z : Sub T S] : Sub (tV T) (tW S) := ⟨fun ⟨p, xs, M, h1, h2, h3, _, h4, h5⟩ => ⟨p, xs, h1, h2, paired_imp (fun _ _ z => Z.to z) (paired_up h3 h4.pair), h5⟩⟩
instance {K : PySem.W.Frag} {α : Type} {T S : Tp α} [Z : Sub T S] : Sub (tV T) (tL K S) := ⟨fun ⟨p, xs, M, h1, h2, h3, _, h4, h5⟩ => ⟨p, xs, h1, sq_of h2, paired_imp (fun _ _ z => Z.to z) (paired_up h3 h4.pair), h5⟩⟩
section
variable {K : PySem.W.Frag} {mg : Str → Option Value} {σ : L2.St} {H B M G : Hp} {ta tb te tx ti tl : TE} {tr : TA} {t u : TT} {v w : V} {P P' : Hp → V → Prop} {Ns : List Hp} {D : Ends} {tu tz : TS} {wi : TI} {g : TG} {α β ι : Type} {T : Tp α} {S : Tp β} {Z : Hp → ι → L2.St → L2.St → Prop}
end
end Kj

/-! Kj24: dicts with tuple keys whose key tuples are known by their places: made, put into, walked by items and keys (the way of the library's d_setItem, turn_items, pi_items, call_list_dT). -/
namespace L2
open PySem PySem.Spec PyProof.Rows
abbrev Ent := List Key × Addr × V
def KX : List Ent → List (List Key × Addr × Value) → Prop := Paired fun p q => p.1 = q.1 ∧ p.2.1 = q.2.1 ∧ RelV p.2.2 q.2.2
theorem KX.has {xs : List Ent} {vs : List (List Key × Addr × Value)} (r : KX xs vs) (k : List Key) : (xs.any fun p => decide (p.1 = k)) = (atKey vs k).isSome := by
  unfold KX at r
  induction r with
  | nil => rfl
  | @cons p q ps qs h t ih =>
    rw [List.any_cons]
    by_cases e : p.1 = k
    · have e' : q.1 = k := h.1.symm.trans e
      have b : atKey (q :: qs) k = some q.2 := by simp [atKey, List.find?_cons, e']
      rw [b, decide_eq_true e]; rfl
    · have e' : ¬ q.1 = k := fun z => e (h.1.trans z)
      have b : atKey (q :: qs) k = atKey qs k := by simp [atKey, List.find?_cons, e']
      rw [b, decide_eq_false e, Bool.false_or]; exact ih
section
variable {P : Program} {w : World} {H : Hp} {h : Heap} {a : Addr} {xs : List Ent}
end
section
variable {X : Cx} {pins : List (Addr × Obj)} {σ : St} {H : Hp} {s : Shared} {d : Addr} {o : Obj}
end
section
variable {P : Program} {w : World} {K : PySem.W.Frag} {tg : Expr} {d : Addr} {o : Obj} {es : Array DictEntry} {ep : Nat}
end
section
variable {X : Cx} {tg e : Expr} {td : TE} {apos cpos : Pos}
end
end L2

/-! Kj25: dicts whose keys are tuples of texts, by kinds. -/
namespace Kj
open PySem PySem.Spec PyProof.Rows L2 Evl
/-- a tuple of the heap's own -/
def tZ {α : Type} (T : Tp α) : Tp (List α) := ⟨fun H v l => ∃ p xs, v = .ref p ∧ H p = some (.tup xs) ∧ Paired (T.R H) xs l ∧ l.length ≤ 40000, fun e ⟨p, xs, h1, h2, h3, h4⟩ => ⟨p, xs, h1, e _ _ h2, paired_up e h3, h4⟩⟩
instance {α : Type} {T : Tp α} : NN (tZ T) := ⟨fun ⟨_, _, h, _⟩ z => by cases h; cases z⟩
instance {K : PySem.W.Frag} {α : Type} {T S : Tp α} [Z : Sub T S] : Sub (tZ T) (tU K S) := ⟨fun ⟨p, xs, h1, h2, h3, h4⟩ => ⟨p, xs, h1, st_of h2, paired_imp (fun _ _ z => Z.to z) h3, h4⟩⟩
section
variable {P : Program} {w : World} {K : PySem.W.Frag} {mg : Str → Option Value} {σ : L2.St} {H B M G : Hp} {ta tb te td : TE} {tr : TA} {v : V} {Ns : List Hp} {D : Ends} {tz : TS} {g : TG} {α : Type} {T : Tp α} {l : List (List Str × α)} {xs : List Ent} {i j : Nat} {p : Addr}
end
end Kj

/-! Kj26: own lists of things that are told in part; slices of tuples. -/
namespace Kj
open PySem PySem.Spec PyProof.Rows L2 Evl
section
variable {K : PySem.W.Frag} {mg : Str → Option Value} {σ : L2.St} {H B M G : Hp} {ta tb te td : TE} {tr : TA} {Ns : List Hp} {D : Ends} {tz : TS} {α : Type} {T : Tp α} {l : List α} {xs : List V} {i j : Nat} {p : Addr} {Z : α → Prop}
end
end Kj

/-! Kj27: len(set(xs)) of numbers. -/
namespace Kj
open PySem PySem.Spec PyProof.Rows L2 Evl
theorem ed_catF {K : PySem.W.Frag} {σ : L2.St} {H B B' : Hp} {ta tb : TE} {α : Type} {T : Tp α} {l m : List α} [F : Flt T] (h : Ed (tW T) ta σ H B l) (h' : Ed (tW T) tb σ H B m) (eB : Ex B H) (hl : l.length + m.length ≤ 40000) : Ed (tW T) (tOp (rAddU K) ta tb) σ H B' (l ++ m) := fun H1 e Q q =>
  h H1 e _ fun v H2 N e2 e3 f ⟨p, xs, ev, g1, g2, hl0⟩ => h' H2 (e.trans e2) _ fun w H3 N' e4 e5 f' ⟨p', ys, ew, g1', g2', hl0'⟩ => by
    subst ev ew
    have u1 : Ex (uni B N) H3 := (uni_ex ((eB.trans e).trans e2) e3).trans e4
    have u2 : Ex (uni B N') H3 := uni_ex (((eB.trans e).trans e2).trans e4) e5
    exact .inr (.inl ⟨p, p', xs, ys, rfl, rfl, u1 _ _ g1, u2 _ _ g1', sz_of (by rw [Paired.length g2, Paired.length g2']; omega), fun r hr => q (.ref r) _ (sing r (.lst (xs ++ ys))) ((e2.trans e4).trans (Ex.new hr)) (sing_ex upd_same) (sing_fr (fresh_back (e2.trans e4) hr)) ⟨r, _, rfl, uni_r _ _ sing_at, paired_app' (paired_any g2) (paired_any g2'), by rw [List.length_append]; exact hl⟩⟩)
end Kj

/-! Kj28: xs.index(y) of plain data. -/
namespace Kj
open PySem PySem.Spec PyProof.Rows L2 Evl
section
variable {mg : Str → Option Value} {σ : L2.St} {H B : Hp} {te : TE} {tr : TA} {α : Type} {T : Tp α} {P : Hp → V → Prop} {E : L2.St → XK}
end
end Kj

/-! Kj29: things that change. Each is told of by its part of the heap and by what lies about it; a call may change the parts that are given to it. -/
namespace Kj
open PySem PySem.Spec PyProof.Rows L2 Evl
/-! ### parts -/
theorem own_iff {H : Hp} : ∀ {Ns : List Hp}, Own Ns H ↔ (∀ N ∈ Ns, Ex N H) ∧ Ns.Pairwise Dj
  | [] => ⟨fun _ => ⟨fun _ h => (nomatch h), .nil⟩, fun _ => trivial⟩
  | N :: r => by
    constructor
    · rintro ⟨a, b, c⟩
      obtain ⟨c1, c2⟩ := own_iff.mp c
      exact ⟨fun M hM => (List.mem_cons.mp hM).elim (fun z => z ▸ a) (c1 M), .cons b c2⟩
    · rintro ⟨a, b⟩
      cases b with
      | cons b1 b2 => exact ⟨a N List.mem_cons_self, b1, own_iff.mpr ⟨fun M hM => a M (List.mem_cons_of_mem _ hM), b2⟩⟩
def HvL (Ps : List Hp) (H H' : Hp) : Prop := ∀ a o, H a = some o → (∀ N ∈ Ps, N a = none) → H' a = some o
def NewL (Ps : List Hp) (H M : Hp) : Prop := ∀ a, M a ≠ none → H a = none ∨ ∃ N ∈ Ps, N a ≠ none
theorem ne_some {α : Type} {x : Option α} {o : α} (h : x = some o) : x ≠ none := by rw [h]; exact fun z => nomatch z
theorem dj_uni {A B C : Hp} (h1 : Dj A C) (h2 : Dj B C) : Dj (uni A B) C := fun a h => (uni_some h).elim (h1 a) (h2 a)
theorem dj_unr {A B C : Hp} (h1 : Dj C A) (h2 : Dj C B) : Dj C (uni A B) := fun a h => by
  unfold uni
  rw [h2 a h]
  exact h1 a h
/-- a part is moved to the front -/
theorem Own.front {M G H N : Hp} {Ns : List Hp} {j : Nat} (o : Own (M :: G :: Ns) H) (h : Ns[j]? = some N) : Own (M :: G :: ([N] ++ Ns.eraseIdx j)) H := by
  have o2 : Own (N :: M :: G :: Ns.eraseIdx j) H := Own.pull (i := j + 2) o h
  exact o2.rot
/-! ### promises -/
structure St (α : Type) where
  R : Hp → Hp → V → α → Prop
  up : ∀ {B B' N v x}, Ex B B' → R B N v x → R B' N v x
inductive ResX where
  | ok (P : Hp → List Hp → V → Prop)
  | err (x : Str) (fs : List (Str × V)) (P : Hp → List Hp → Prop)
structure RlX where
  R : List V → Hp → List Hp → ResX → Prop
def RetX (B : Hp) (Ps : List Hp) (H : Hp) (Q : VK) (P : Hp → List Hp → V → Prop) : Prop := ∀ v H' M Ps', HvL Ps H H' → Own (M :: Ps') H' → (∀ N ∈ M :: Ps', NewL Ps H N) → P (uni B M) Ps' v → Q v H'
/-- the fields of what was raised lie in what is new -/
def XdM (fs : List (Str × V)) (d : Option Addr) (M : Hp) : Prop := fs = [] ∧ d = none ∨ ∃ a, d = some a ∧ M a = some (.xd fs) ∧ fs ≠ []
theorem XdM.up {fs : List (Str × V)} {d : Option Addr} {M M' : Hp} (h : XdM fs d M) (e : Ex M M') : XdM fs d M' := h.imp id fun ⟨a, h1, h2, h3⟩ => ⟨a, h1, e _ _ h2, h3⟩
def RaiseL (mg : Str → Option Value) (x : Str) (fs : List (Str × V)) (B : Hp) (Ps : List Hp) (H : Hp) (E : XK) (P : Hp → List Hp → Prop) : Prop := ∀ H' M Ps' C d, HvL Ps H H' → Own (M :: Ps') H' → (∀ N ∈ M :: Ps', NewL Ps H N) → P (uni B M) Ps' → mg x = some (.ref C) → XdM fs d M → E (.ref C) d H'
def OutX (mg : Str → Option Value) (r : ResX) (B : Hp) (Ps : List Hp) (H : Hp) (Q : VK) (E : XK) : Prop := match r with
  | .ok P => RetX B Ps H Q P
  | .err x fs P => RaiseL mg x fs B Ps H E P
def RlX.sp (S : RlX) (mg : Str → Option Value) : Sp := fun vs H Q E => ∃ B Ps r, Own (B :: Ps) H ∧ S.R vs B Ps r ∧ OutX mg r B Ps H Q E
section
variable {K : PySem.W.Frag} {mg : Str → Option Value} {σ : L2.St} {H M G N : Hp} {Ns Ps Rs : List Hp} {ta te : TE} {tr : TA} {v : V} {as : List Arg} {S : RlX} {E : L2.St → XK} {W : Hp → List Hp → V → Prop} {Z : Hp → List Hp → Prop} {C : Addr} {mn : Str} {Wx : WX} {xn : Str} {fs : List (Str × V)}
section
variable {α : Type} {T : Tp α} {y : α}
end
/-! ### statements -/
variable {D : Ends} {tz : TS} {i : Nat} {g : TG}
/-! ### fields of a thing of one's own -/
variable {p dx : Addr} {gs : List (Str × V)} {f : Str} {j : Nat} {P : Hp → V → Prop}
end
/-! ### the def that is called with parts -/
/-- what of H is in none of the parts -/
def rest2 (Ps : List Hp) (H : Hp) : Hp := fun a => if ∃ N ∈ Ps, N a ≠ none then none else H a
open Classical in
theorem rest2_some {Ps : List Hp} {H : Hp} {a : Addr} {o : HO} (h : rest2 Ps H a = some o) : H a = some o ∧ ∀ N ∈ Ps, N a = none := by
  unfold rest2 at h
  split at h
  · cases h
  · rename_i q
    refine ⟨h, fun N hN => ?_⟩
    cases w : N a with
    | none => rfl
    | some u => exact absurd ⟨N, hN, ne_some w⟩ q
theorem rest2_of {Ps : List Hp} {H : Hp} {a : Addr} {o : HO} (h : H a = some o) (n : ∀ N ∈ Ps, N a = none) : rest2 Ps H a = some o := by
  unfold rest2
  rw [if_neg fun ⟨N, hN, z⟩ => z (n N hN)]
  exact h
theorem x_fin {B H H' M : Hp} {Ps Ps' Rs : List Hp} (o0 : Own (B :: Ps) H) (o : Own (M :: B :: (Ps' ++ Rs)) H') (hr : rest2 (B :: Ps) H ∈ Rs) : HvL Ps H H' ∧ Own (M :: Ps') H' ∧ ∀ N ∈ M :: Ps', NewL Ps H N := by
  obtain ⟨a, b⟩ := own_iff.mp o
  obtain ⟨a0, b0⟩ := own_iff.mp o0
  cases b with
  | cons b1 b2 =>
    cases b2 with
    | cons c1 c2 =>
      obtain ⟨d1, d2, d3⟩ := List.pairwise_append.mp c2
      have hB : Ex B H' := a B (List.mem_cons_of_mem _ List.mem_cons_self)
      have hR : Ex (rest2 (B :: Ps) H) H' := a _ (List.mem_cons_of_mem _ (List.mem_cons_of_mem _ (List.mem_append.mpr (.inr hr))))
      refine ⟨fun x u h n => ?_, own_iff.mpr ⟨fun N hN => ?_, .cons (fun N hN => b1 N (List.mem_cons_of_mem _ (List.mem_append.mpr (.inl hN)))) d1⟩, fun N hN x hx => ?_⟩
      · cases q : B x with
        | some w =>
          have := a0 B List.mem_cons_self x w q
          rw [h] at this
          cases this
          exact hB x _ q
        | none => exact hR x u (rest2_of h fun N hN => (List.mem_cons.mp hN).elim (fun z => z ▸ q) (n N))
      · rcases List.mem_cons.mp hN with z | z
        · subst z; exact a N List.mem_cons_self
        · exact a N (List.mem_cons_of_mem _ (List.mem_cons_of_mem _ (List.mem_append.mpr (.inl z))))
      · by_cases hp : ∃ P ∈ Ps, P x ≠ none
        · exact .inr hp
        · refine .inl ?_
          have jB : Dj N B := by
            rcases List.mem_cons.mp hN with z | z
            · subst z; exact b1 B List.mem_cons_self
            · exact (c1 N (List.mem_append.mpr (.inl z))).symm
          have jR : Dj N (rest2 (B :: Ps) H) := by
            rcases List.mem_cons.mp hN with z | z
            · subst z; exact b1 _ (List.mem_cons_of_mem _ (List.mem_append.mpr (.inr hr)))
            · exact d3 N z _ hr
          cases q : H x with
          | none => rfl
          | some u =>
            have h1 := jR x hx
            rw [rest2_of q fun P hP => ?_] at h1
            · cases h1
            · rcases List.mem_cons.mp hP with z | z
              · rw [z]; exact jB x hx
              · cases w : P x with
                | none => rfl
                | some w' => exact absurd ⟨P, z, ne_some w⟩ hp
section
variable {mg : Str → Option Value} {σ : L2.St} {B H H' M : Hp} {Ps Ps' Rs : List Hp} {te : TE} {v : V} {D : Ends} {P : Hp → V → Prop} {PP : Hp → List Hp → V → Prop} {PE : Hp → List Hp → Prop} {e : Option Str} {Q : VK} {E : XK} {x : Str} {fs : List (Str × V)} {C : Addr}
theorem RaiseL.go (k : RaiseL mg x [] B Ps H E PE) (o0 : Own (B :: Ps) H) (o : Own (M :: B :: (Ps' ++ Rs)) H') (hr : rest2 (B :: Ps) H ∈ Rs) (hp : PE (uni B M) Ps') (g : mg x = some (.ref C)) : E (.ref C) none H' := by
  obtain ⟨h1, h2, h3⟩ := x_fin o0 o hr
  exact k H' M Ps' C none h1 h2 h3 hp g (.inl ⟨rfl, rfl⟩)
/-- a raise goes through -/
theorem RaiseL.fwd (k : RaiseL mg x fs B Ps H E PE) (o0 : Own (B :: Ps) H) (o : Own (M :: B :: (Ps' ++ Rs)) H') (hr : rest2 (B :: Ps) H ∈ Rs) (hp : ∀ G, Ex (uni B M) G → PE G Ps') : RaiseX mg x fs H' E := fun H1 C d e1 g c => by
  rcases c with ⟨rfl, rfl⟩ | ⟨a, rfl, h2, h3, h4⟩
  · obtain ⟨k1, k2, k3⟩ := x_fin o0 (o.mono e1) hr
    exact k H1 M Ps' C none k1 k2 k3 (hp _ (Ex.refl _)) g (.inl ⟨rfl, rfl⟩)
  · have o1 : Own (uni M (sing a (.xd fs)) :: B :: (Ps' ++ Rs)) H1 := (o.add e1 (sing_ex h2) (sing_fr h3)).merge
    obtain ⟨k1, k2, k3⟩ := x_fin o0 o1 hr
    exact k H1 _ Ps' C (some a) k1 k2 k3 (hp _ (o1.uu (uni_exl o.e0 (sing_fr h3)))) g (.inr ⟨a, rfl, uni_r _ _ sing_at, h4⟩)
end
/-! ### a field of one's own thing is laid anew -/
section
variable {K : PySem.W.Frag} {mg : Str → Option Value} {σ : L2.St} {H M G N : Hp} {Ns Ps Rs : List Hp} {ta te : TE} {tr : TA} {v : V} {as : List Arg} {S : RlX} {E : L2.St → XK} {W : Hp → List Hp → V → Prop} {C p dx : Addr} {Wx : WX} {xn : Str} {fs : List (Str × V)} {D : Ends} {tz : TS} {f : Str} {j : Nat} {P : Hp → V → Prop} {gs : List (Str × V)}
/-! ### a new thing that will change -/
def RlX.spI (S : RlX) (mg : Str → Option Value) (C : Addr) : Sp := fun vs H Q E => ∃ (x dx : Addr) (us : List V) (G B : Hp) (r : ResX), vs = .ref x :: us ∧ H = upd (upd G dx (.own x)) x (.ins C dx []) ∧ G x = none ∧ G dx = none ∧ dx ≠ x ∧ Ex B G ∧ S.R us B [] r ∧
  match r with
  | .ok P => ∀ H' M Ps', Ex G H' → Own (M :: Ps') H' → (∀ N ∈ M :: Ps', Fr G N) → P (uni B M) Ps' (.ref x) → Q .non H'
  | .err xn fs _ => RaiseX mg xn fs G E
end
section
variable {mg : Str → Option Value} {G B M H' : Hp} {x : Addr} {e : Option Str} {xn : Str} {PP : Hp → List Hp → V → Prop} {PE : Hp → List Hp → Prop} {Q : VK} {E : XK} {C : Addr} {Ps' Rs : List Hp}
end
end Kj

/-! Kj30: dicts with text keys that are known (records); a list times a number. -/
namespace Kj
open PySem PySem.Spec PyProof.Rows L2 Evl
section
variable {K : PySem.W.Frag} {σ : L2.St} {H B M G : Hp} {ta tb te tk : TE} {trs : List (TE × TE)} {α β : Type} {T : Tp α} {S : Tp β} {x : α} {y : β} {as : List Arg} {ks : List Str} {k : Str} {Ns : List Hp} {D : Ends} {tz : TS} {i j : Nat} {p : Addr} {P : Hp → V → Prop} {kvs : List (Key × V)}
end
end Kj

/-! Kj31: lambdas without parameters that are made and called in one def (a dict of acts). The table of the def's code object is a part of the heap. -/
namespace LamX
open PySem PySem.Spec PyProof.Rows L2
/-- the thing at f is this object -/
def FunO (f : Addr) (o : Obj) : HO := .ext fun h => h.get? f = some o
/-- a lambda is made: the part N holds the table -/
def tMk (P : Addr) (q : Str) (ob : Value → Addr → Value → Obj) : TE := fun _ H Q => ∃ N : Hp, (∀ a o, N a = some o → H a = some o) ∧ TabS N P q ∧
  ∀ (f c' : Addr) (pm ctv : Value) (N1 H1 : Hp), (∀ a o, H a = some o → N a = none → H1 a = some o) → (∀ a o, N1 a = some o → H1 a = some o) → (∀ a, N1 a ≠ none → H a = none ∨ N a ≠ none) → TabS N1 P q → (∀ a o, N a = some o → (∀ ps, o ≠ .tbl ps) → N1 a = some o) → N1 c' = some (CodeO c' q) → H1 f = some (FunO f (ob pm c' ctv)) → H f = none → N1 f = none → Q (.ref f) H1
section
variable {X : Cx} {params : Arguments} {body : Expr} {scope : Scope} {pos : Pos} {c P : Addr}
end
end LamX
namespace Kj
open PySem PySem.Spec PyProof.Rows L2 Evl
/-- a def of the text whose code object is known -/
structure DfC (K : PySem.W.Frag) (mg : Str → Option Value) (x : Str) (st : Stmt) (ps : List Str) (c : Addr) : Prop where
  ex : ∃ (f : Addr) (oc : Value) (od : Option Addr) (kV doc pm : Value) (an : Option Addr) (ct : Value) (osl : Array (Option Value)), mg x = some (.ref f) ∧ K.lookup f = some ⟨oc, od, .func (PySem.W.fnOf x x (defArgs st) (defBody st) (defScope st) .none kV doc pm an (.ref c) ct), osl⟩ ∧ PySem.W.codeIn K (.ref c) x = true ∧ PySem.W.keepIn K (.ref f) = true ∧ Binds K (PySem.W.fnOf x x (defArgs st) (defBody st) (defScope st) .none kV doc pm an (.ref c) ct) ps []
theorem DfC.ok {P : Program} {w : World} {K : PySem.W.Frag} {mg : Str → Option Value} {base : Heap} {x : Str} {st : Stmt} {N ps : List Str} {k : Nat} {sp : Sp} {c : Addr} (D : DfC K mg x st ps c) (S : FnScope N ps (defScope st)) (len : ∀ vs H Q E, sp vs H Q E → vs.length = ps.length)
    (hbody : ∀ (f : Addr) (A : Around) (outer : List Env) (s : Shared) (H : Hp) (vs : List V) (Q : VK) (E : XK), Room k (A.deeper (envOfC x (defScope st) s.heap.objs.size f (.ref c))) → sp vs H Q E →
      ∃ t, PSs (cxOf (L2.CX P w) P w K mg base N x (defScope st) f (.ref c) A outer s H E) (defBody st) t ∧ t { nx := fun _ H' => Q .non H', rt := Q } (start N vs) H) : Ok P w K mg base (k + 1) x ps sp := by
  obtain ⟨f, oc, od, kV, doc, pm, an, ct, osl, g, lk, hcd, kp, b⟩ := D.ex
  exact ⟨f, _, g, kp, b, fn_of lk hcd S len fun A outer s H vs Q E hr h => hbody f A outer s H vs Q E hr h, oc, od, osl, lk⟩
open LamX
section
variable {K : PySem.W.Frag} {mg : Str → Option Value} {σ : L2.St} {H M G NT : Hp} {Ns : List Hp} {P : Addr} {q : Str}
/-- what a lambda that was made is: the thing in M, its code in the table's part -/
def LamR (q : Str) (M NT : Hp) (v : V) (ob : Value → Addr → Value → Obj) : Prop := ∃ (f c' : Addr) (pm ctv : Value), v = .ref f ∧ M f = some (FunO f (ob pm c' ctv)) ∧ NT c' = some (CodeO c' q)
theorem LamR.up {M1 NT1 : Hp} {v : V} {ob : Value → Addr → Value → Obj} (h : LamR q M NT v ob) (e : Ex M M1) (e2 : ∀ c', NT c' = some (CodeO c' q) → NT1 c' = some (CodeO c' q)) : LamR q M1 NT1 v ob := by
  obtain ⟨f, c', pm, ctv, h1, h2, h3⟩ := h
  exact ⟨f, c', pm, ctv, h1, e _ _ h2, e2 _ h3⟩
inductive LamT (P : Addr) (q : Str) : List (TE × TE) → List (Str × (Value → Addr → Value → Obj)) → Prop
  | nil : LamT P q [] []
  | cons {k : Str} {ob : Value → Addr → Value → Obj} {r : List (TE × TE)} {l : List (Str × (Value → Addr → Value → Obj))} (h : LamT P q r l) : LamT P q ((tC (.str k), tMk P q ob) :: r) ((k, ob) :: l)
end
end Kj

/-! Kj32: the end of a law by facts that the top's run in the kernel tells (HandS.Head*). -/
namespace Kj
open PySem PySem.Spec PyProof.Rows L2 Evl
section
variable {K : PySem.W.Frag} {mg : Str → Option Value} {h : Heap}
theorem fun_ofD {x q : Str} {st : Stmt} {kws : List (Str × V)} {f : Addr} {fd : FuncData} (F : FunD K x q (defArgs st) (defBody st) (defScope st) [] kws f fd) : Fun K x q st f fd := by
  obtain ⟨oc, od, dV, kV, doc, pm, an, cdv, ct, osl, rfl, lk, hcd, hD, hK⟩ := F.ex
  rcases hD with ⟨_, rfl⟩ | ⟨e, _⟩
  · exact ⟨⟨oc, od, kV, doc, pm, an, cdv, ct, osl, rfl, lk, hcd⟩, F.kp⟩
  · exact absurd rfl e
/-- an exception class with an __init__ of its own -/
def xobB (K : PySem.W.Frag) (C : Addr) : Bool := match K.lookup C with
  | some ⟨.type t, _, .cls cd, sl⟩ => (match cd.mro, sl.toList with
    | .ref D :: bm, [_, _, _, _, some (.builtin n), _] => decide (t = "type") && (decide (D = C) && (decide (n = "ValueError.__new__") && (!cd.hasDel && (cd.hasDict && PySem.HandSPX.refsVE bm))))
    | _, _ => false)
  | _ => false
def xiB (K : PySem.W.Frag) (x : Str) : Bool := xobB K (He.ga K x) && (decide (PySem.W.findIn K (.ref (He.ga K x)) "__setattr__" = some (some (.builtin "object.__setattr__"))) && (decide (PySem.W.subIn K (.ref (He.ga K x)) (.type "BaseException") = some true) && (decide (PySem.W.typeIn K (.ref (He.ga K x)) = some (.type "type")) && (PySem.W.keepIn K (.ref (He.ga K x)) && (decide (PySem.W.findIn K (.ref (He.ga K x)) "__init__" = some (some (.ref (He.ma K (He.ga K x) "__init__")))) && decide (PySem.W.typeIn K (.ref (He.ma K (He.ga K x) "__init__")) = some (.type "function")))))))
theorem ba {a b : Bool} (h : (a && b) = true) : a = true ∧ b = true := Bool.and_eq_true_iff.mp h
theorem xob_ok {C : Addr} (h : xobB K C = true) : ∃ nm q N bs bm sn sub ab col dd k0 k1 k2 k3 k5, K.lookup C = some (excClassObj nm q C N bs bm true sn sub ab col dd k0 k1 k2 k3 k5 "ValueError.__new__") ∧ PySem.HandSPX.refsVE bm = true := by
  unfold xobB at h
  split at h
  · rename_i t dd cd sl ho
    split at h
    · rename_i D bm k0 k1 k2 k3 n k5 hm hs
      obtain ⟨e1, h⟩ := ba h
      obtain ⟨e2, h⟩ := ba h
      obtain ⟨e3, h⟩ := ba h
      obtain ⟨e4, h⟩ := ba h
      obtain ⟨e5, e6⟩ := ba h
      have e1 := of_decide_eq_true e1
      have e2 := of_decide_eq_true e2
      have e3 := of_decide_eq_true e3
      obtain ⟨a1, a2, a3, a4, a5, a6, a7, a8, a9, a10, a11⟩ := cd
      dsimp only at hm e4 e5
      have e4 : a11 = false := by simpa using e4
      subst e1 e2 e3 hm e4 e5
      have es : sl = #[k0, k1, k2, k3, some (.builtin "ValueError.__new__"), k5] := by
        cases sl
        simp only at hs
        rw [hs]
      rw [ho, es]
      exact ⟨_, _, _, _, _, _, _, _, _, _, _, _, _, _, _, rfl, e6⟩
    · cases h
  · cases h
theorem xi_ok {x : Str} (h : xiB K x = true) : OexC K (He.ga K x) ∧ PySem.W.findIn K (.ref (He.ga K x)) "__init__" = some (some (.ref (He.ma K (He.ga K x) "__init__"))) ∧ PySem.W.typeIn K (.ref (He.ma K (He.ga K x) "__init__")) = some (.type "function") := by
  obtain ⟨h1, h⟩ := ba h
  obtain ⟨h2, h⟩ := ba h
  obtain ⟨h3, h⟩ := ba h
  obtain ⟨h4, h⟩ := ba h
  obtain ⟨h5, h⟩ := ba h
  obtain ⟨h6, h7⟩ := ba h
  exact ⟨⟨xob_ok h1, of_decide_eq_true h2, of_decide_eq_true h3, of_decide_eq_true h4, h5⟩, of_decide_eq_true h6, of_decide_eq_true h7⟩
/-- the fields of an exception may be read -/
def xfB (K : PySem.W.Frag) (x : Str) : Bool := decide (PySem.W.findIn K (.ref (He.ga K x)) "__getattribute__" = some (some (.builtin "BaseException.__getattribute__"))) && (decide (PySem.W.findIn K (.ref (He.ga K x)) "__getattr__" = some none) && (decide (PySem.W.subIn K (.ref (He.ga K x)) (.type "BaseException") = some true) && PySem.W.hasDictIn K (He.ga K x)))
theorem xf_ok {x : Str} (h : xfB K x = true) : L2.XfC K (He.ga K x) := by
  obtain ⟨h1, h⟩ := ba h
  obtain ⟨h2, h⟩ := ba h
  obtain ⟨h3, h4⟩ := ba h
  exact ⟨of_decide_eq_true h1, of_decide_eq_true h2, of_decide_eq_true h3, h4⟩
theorem mkr_ok {x : Str} (c : (He.Fa.mkr x).ok K = true) : PySem.W.makesIn K (He.ga K x) = true ∧ PySem.W.keepIn K (.ref (He.ga K x)) = true := by
  obtain ⟨h1, h⟩ := ba (show (_ && _) = true from c)
  obtain ⟨h2, h⟩ := ba h
  exact ⟨h1, (ba h).2⟩
end
end Kj

/-! Kj33: the head's facts, the part of the heap that they look at laid open once (level by level, each value brought to its form). -/
namespace Kj
open PySem PySem.Spec PyProof.Rows L2 Evl
section
variable {β : Type}
def frV (v : Value) (k : Value → β) : β := match v with
  | .ref a => HandSHeadRun.frNat a fun a => k (.ref a)
  | v => k v
theorem frV_eq (v : Value) (k : Value → β) : frV v k = k v := by
  cases v with
  | ref a => exact HandSHeadRun.frNat_eq a fun a => k (.ref a)
  | _ => rfl
def frVs : List Value → (List Value → β) → β
  | [], k => k []
  | v :: r, k => frV v fun v => frVs r fun r => k (v :: r)
theorem frVs_eq : ∀ (l : List Value) (k : List Value → β), frVs l k = k l
  | [], _ => rfl
  | v :: r, k => by
    show frV v (fun v => frVs r fun r => k (v :: r)) = _
    rw [frV_eq, frVs_eq r]
def frEs : List DictEntry → (List DictEntry → β) → β
  | [], k => k []
  | ⟨h, u, v⟩ :: r, k => frV u fun u => frV v fun v => frEs r fun r => k (⟨h, u, v⟩ :: r)
theorem frEs_eq : ∀ (l : List DictEntry) (k : List DictEntry → β), frEs l k = k l
  | [], _ => rfl
  | ⟨h, u, v⟩ :: r, k => by
    show frV u (fun u => frV v fun v => frEs r fun r => k (⟨h, u, v⟩ :: r)) = _
    rw [frV_eq, frV_eq, frEs_eq r]
def frD (d : Data) (k : Data → β) : β := match d with
  | .dict es n => frEs es.toList fun l => k (.dict ⟨l⟩ n)
  | .fields vs => frVs vs.toList fun l => k (.fields ⟨l⟩)
  | .cls cd => frVs cd.mro fun m => HandSHeadRun.frNat cd.ns fun ns => k (.cls { cd with mro := m, ns := ns })
  | .func fd => frV fd.code fun c => frV fd.defaults fun dv => frV fd.kwdefaults fun kv => k (.func { fd with code := c, defaults := dv, kwdefaults := kv })
  | d => k d
theorem frD_eq (d : Data) (k : Data → β) : frD d k = k d := by
  cases d with
  | dict es n => exact frEs_eq es.toList fun l => k (.dict ⟨l⟩ n)
  | fields vs => exact frVs_eq vs.toList fun l => k (.fields ⟨l⟩)
  | cls cd => exact (frVs_eq cd.mro fun m => HandSHeadRun.frNat cd.ns fun ns => k (.cls { cd with mro := m, ns := ns })).trans (HandSHeadRun.frNat_eq cd.ns fun ns => k (.cls { cd with mro := cd.mro, ns := ns }))
  | func fd => exact (frV_eq fd.code fun c => frV fd.defaults fun dv => frV fd.kwdefaults fun kv => k (.func { fd with code := c, defaults := dv, kwdefaults := kv })).trans ((frV_eq fd.defaults fun dv => frV fd.kwdefaults fun kv => k (.func { fd with code := fd.code, defaults := dv, kwdefaults := kv })).trans (frV_eq fd.kwdefaults fun kv => k (.func { fd with code := fd.code, defaults := fd.defaults, kwdefaults := kv })))
  | _ => rfl
def frO (o : Obj) (k : Obj → β) : β := match o with
  | ⟨c, d, dt, sl⟩ => frV c fun c => frD dt fun dt => k ⟨c, d, dt, sl⟩
theorem frO_eq (o : Obj) (k : Obj → β) : frO o k = k o := by
  obtain ⟨c, d, dt, sl⟩ := o
  show frV c (fun c => frD dt fun dt => k ⟨c, d, dt, sl⟩) = _
  rw [frV_eq, frD_eq]
/-- what an object leads on to -/
def refs2 (o : Obj) : List Addr := match o.data with
  | .dict es _ => es.toList.flatMap fun e => He.refV e.val
  | .func fd => He.refV fd.code
  | .cls cd => [cd.ns]
  | _ => []
variable (g : Addr → Option Obj)
def nextY (l : List Addr) : List Addr := l.flatMap fun a => match g a with
  | some o => refs2 o
  | none => []
def fronts : Nat → List Addr → List Addr
  | 0, l => l
  | n + 1, l => l ++ fronts n (nextY g l)
def stepK : List Addr → (PySem.W.Frag → List Addr → β) → β
  | [], k => k [] []
  | a :: r, k => HandSHeadRun.frNat a fun a => match g a with
    | none => stepK r k
    | some o => frO o fun o => stepK r fun K l => k ((a, o) :: K) (refs2 o ++ l)
theorem stepK_eq : ∀ (l : List Addr) (k : PySem.W.Frag → List Addr → β), stepK g l k = k (He.frG g l) (nextY g l)
  | [], _ => rfl
  | a :: r, k => by
    show HandSHeadRun.frNat a (fun a => match g a with
      | none => stepK g r k
      | some o => frO o fun o => stepK g r fun K l => k ((a, o) :: K) (refs2 o ++ l)) = _
    rw [HandSHeadRun.frNat_eq]
    unfold He.frG nextY
    rw [List.filterMap_cons, List.flatMap_cons]
    cases e : g a with
    | none =>
      show stepK g r k = _
      rw [stepK_eq r]
      rfl
    | some o =>
      show frO o (fun o => stepK g r fun K l => k ((a, o) :: K) (refs2 o ++ l)) = _
      rw [frO_eq, stepK_eq r]
      rfl
def levK : Nat → List Addr → (PySem.W.Frag → β) → β
  | 0, l, k => stepK g l fun K _ => k K
  | n + 1, l, k => stepK g l fun K l' => levK n l' fun K' => k (K ++ K')
theorem levK_eq : ∀ (n : Nat) (l : List Addr) (k : PySem.W.Frag → β), levK g n l k = k (He.frG g (fronts g n l))
  | 0, l, k => stepK_eq g l _
  | n + 1, l, k => by
    show stepK g l (fun K l' => levK g n l' fun K' => k (K ++ K')) = _
    rw [stepK_eq, levK_eq n]
    show k (He.frG g l ++ He.frG g (fronts g n (nextY g l))) = k (He.frG g (l ++ fronts g n (nextY g l)))
    unfold He.frG
    rw [List.filterMap_append]
def frKf : PySem.W.Frag → (PySem.W.Frag → β) → β
  | [], k => k []
  | (a, o) :: r, k => match He.emptyTab o with
    | true => frKf r k
    | false => frKf r fun r => k ((a, o) :: r)
theorem frKf_eq : ∀ (K : PySem.W.Frag) (k : PySem.W.Frag → β), frKf K k = k (K.filter fun q => !He.emptyTab q.2)
  | [], _ => rfl
  | (a, o) :: r, k => by
    show (match He.emptyTab o with
      | true => frKf r k
      | false => frKf r fun r => k ((a, o) :: r)) = _
    rw [List.filter_cons]
    cases e : He.emptyTab o with
    | true =>
      show frKf r k = _
      rw [frKf_eq r]
      rfl
    | false =>
      show frKf r (fun r => k ((a, o) :: r)) = _
      rw [frKf_eq r]
      rfl
end
section
variable (n : Nat) (fa : List He.Fa) (fn : List He.DefD) (ts : List He.Tab) (tf : List He.Defn) (ex : PySem.W.Frag → Bool)
def obsY (g : Addr → Option Obj) : He.AlX := (He.obsT fa fn ts (He.frT g (fronts g n [mainGlobals])), ex (He.frT g (fronts g n [mainGlobals])) && He.tabsB g tf (He.frT g (fronts g n [mainGlobals])))
def obsYF (g : Addr → Option Obj) : He.AlX := levK g n [mainGlobals] fun K => frKf K fun K => (He.obsT fa fn ts K, ex K && He.tabsB g tf K)
theorem obsYF_eq (g : Addr → Option Obj) : obsYF n fa fn ts tf ex g = obsY n fa fn ts tf ex g := by
  unfold obsYF obsY He.frT
  rw [levK_eq, frKf_eq]
theorem saysY_of {w : World} {h : Heap} {as : List Addr} (e : ((He.obsT fa fn ts (He.frT h.get? as), ex (He.frT h.get? as) && He.tabsB h.get? tf (He.frT h.get? as)) : He.AlX) = He.valX fn ts w) : He.SaysX fa fn ts tf ex w h (He.frT h.get? as) := by
  have e1 : He.obsT fa fn ts (He.frT h.get? as) = He.valT fn ts w := congrArg (fun z : He.AlX => z.1) e
  have e2 : (ex (He.frT h.get? as) && He.tabsB h.get? tf (He.frT h.get? as)) = true := congrArg (fun z : He.AlX => z.2) e
  obtain ⟨h1, h2⟩ := He.ba e2
  have look : ∀ p ∈ tf, PySem.W.codeHdIn (He.frT h.get? as) (He.cT (He.frT h.get? as) p).1 (He.cT (He.frT h.get? as) p).2 = true ∧ ∃ o, h.get? (He.cT (He.frT h.get? as) p).2 = some o ∧ He.emptyTab o = true := fun p hp => by
    obtain ⟨a, b⟩ := He.ba (List.all_eq_true.mp h2 p hp)
    refine ⟨a, ?_⟩
    cases q : h.get? (He.cT (He.frT h.get? as) p).2 with
    | none => rw [q] at b; cases b
    | some o => rw [q] at b; exact ⟨o, rfl, b⟩
  refine ⟨e1, h1, fun p hp => (look p hp).1, fun p hp => ?_, fun p hp => ?_⟩
  · obtain ⟨_, o, q, z⟩ := look p hp
    exact He.frT_none q z
  · obtain ⟨_, o, q, z⟩ := look p hp
    rw [q, He.emptyTab_eq z]
def hookY : PySem.W.Hook where
  α := He.AlX
  obs := fun s => obsY n fa fn ts tf ex s.heap.get?
  val := fun w => He.valX fn ts w
  says := fun w h => ∃ K : PySem.W.Frag, K.In h ∧ He.SaysX fa fn ts tf ex w h K
  of := fun _ _ e => ⟨_, He.frT_in, saysY_of fa fn ts tf ex e⟩
  keeps := fun _ _ _ ⟨K, hK, c⟩ k => ⟨K, PySem.W.Frag.In.keeps hK k, ⟨c.t, c.more, c.hd, c.out, fun p hp => k _ _ (c.empty p hp)⟩⟩
theorem obsYF_at {g : Addr → Option Obj} {s : Shared} (h : ∀ a, g a = s.heap.get? a) : obsYF n fa fn ts tf ex g = (hookY n fa fn ts tf ex).obs s := by
  have e : g = s.heap.get? := funext h
  rw [e, obsYF_eq]
  rfl
end
end Kj

/-! Kj34: try about a thing that changes; isinstance of the exception at hand; a walk over zip; join. -/
namespace Kj
open PySem PySem.Spec PyProof.Rows L2 Evl
/-! ### the exception at hand -/
/-- isinstance(e, C), e the exception at hand -/
def tIsE (K : PySem.W.Frag) (a : Addr) (cls : Value) (d : Option Addr) (C : Addr) (te : TE) : TE := fun σ H Q => ∃ (D : Addr), cls = .ref D ∧ d = none ∧ ExcC K D ∧ tCB (rIsE K D a) (tCons te (tCons (tC (.ref C)) tNil)) σ H Q
theorem pe_isE {X : Cx} (K : PySem.W.Frag) {a C : Addr} {oe : Obj} {cls : Value} {d : Option Addr} {pn : List (Addr × Obj)} {e : Expr} {te : TE} {x : Str} {p p2 pos : Pos} (hz : Zc cls d oe) (hf : ∃ vs, oe.data = .fields vs) (hg : Gl (X.suite a ((a, oe) :: pn)) "isinstance") (hm : X.mg "isinstance" = none)
    (ha : PA (X.suite a ((a, oe) :: pn)) [e, .Name x p2] (tCons te (tCons (tC (.ref C)) tNil))) (hK : X.K = K := by rfl)
    (h1 : starEach [e, .Name x p2] X.env = (false, eval e X.env) :: starEach [.Name x p2] X.env := by rfl) (h2 : (backTo pos (starEach [.Name x p2] X.env)).any (·.1) = false := by rfl) : PE (X.suite a ((a, oe) :: pn)) (.Call (.Name "isinstance" p) [e, .Name x p2] [] pos) (tIsE K a cls d C te) := by
  subst hK
  refine ⟨fun pins s σ H Q I h => ?_⟩
  obtain ⟨D, rfl, rfl, hx, h⟩ := h
  exact (pe_callB (X := X.suite a ((a, oe) :: pn)) (call_isE hx hz hf) hg hm boot_b_isinstance ha (by decide) (by decide) h1 h2).run pins s σ H Q I h
/-- the classes at hand: each has the marks of an exception's class, and each is itself alone -/
structure IsM (K : PySem.W.Frag) (l : List Addr) : Prop where
  ec : ∀ p ∈ l, ExcC K p
  kit : ∀ (i j : Nat) (p q : Addr), l[i]? = some p → l[j]? = some q → PySem.W.kitOne K (.ref p) (.ref q) = some (decide (i = j))
section
variable {K : PySem.W.Frag} {σ : L2.St} {H B : Hp} {ta tb te : TE} {α β : Type} {T : Tp α} {S : Tp β} {l : List α} {m : List β} {g : TG}
/-! ### join -/
theorem paired_str {N : Hp} : ∀ {xs : List V} {ys : List Str}, Paired (tS.R N) xs ys → xs = ys.map V.str
  | _, _, .nil => rfl
  | _, _, .cons h t => by rw [List.map_cons, ← paired_str t, h.1]
theorem ev_join {ys : List Str} {a : Str} (h : Ed (tL K tS) te σ H B ys) (eB : Ex B H) (hz : (ys.map (·.length)).sum + ys.length * a.length ≤ 16777216) : Ev (tBM K "str" (rJoin K) (tC (.str a)) (tCons te tNil)) σ H (.str (Txt.join a ys)) := fun H1 e Q q =>
  ⟨rfl, h H1 e _ fun v H2 N e2 e3 f ⟨p, xs, ev, g1, g2, _⟩ => by
    subst ev
    rw [paired_str g2] at g1
    exact ⟨a, p, ys, rfl, rfl, .inl (ex_l (uni_ex ((eB.trans e).trans e2) e3) g1), hz, q H2 e2⟩⟩
/-! ### split -/
abbrev rSplitS : V → List V → Hp → VK → Prop := fun x xs H Q => ∃ a b, x = .str a ∧ xs = [.str b] ∧ (b.length == 0) = false ∧ a.length + 2 ≤ sizeLine ∧ rNewStrs (Txt.split a b) H Q
theorem st_is {t : TS} {D : Ends} {σ σ' : L2.St} {H : Hp} (e : σ = σ') (k : t D σ' H) : t D σ H := e ▸ k
end
end Kj

/-! calls of which not all is told, and what comes back holds what was handed in -/
namespace Kj
open PySem PySem.Spec PyProof.Rows L2 Evl
section
variable {mg : Str → Option Value} {σ : L2.St} {H B M G : Hp} {Rs : List Hp} {tr : TA} {E : L2.St → XK} {Z : List Arg → Prop}
variable {Ns : List Hp} {W : Hp → List Hp → V → Prop} {D : Ends} {te tb : TE} {t2 : TT} {tz tu : TS} {r : R2} {x y : Str}
end
end Kj

/-! a thing's own call that gives back a list that is new: it may be changed -/
namespace Kj
open PySem PySem.Spec PyProof.Rows L2 Evl
section
variable {mg : Str → Option Value} {σ : L2.St} {H H' B M G : Hp} {Ps Ps' Rs : List Hp} {ta te : TE} {tr : TA} {v : V} {as : List Arg} {S : RlX} {E : L2.St → XK} {C : Addr} {mn : Str} {α : Type} {T : Tp α} {y : α} {D : Ends} {PP : Hp → List Hp → V → Prop}
end
end Kj

/-! Kj37: a call that changes things within an append, behind an or; a pair at a place that is a number. -/
namespace Kj
open PySem PySem.Spec PyProof.Rows L2 Evl
section
variable {K : PySem.W.Frag} {σ : L2.St} {H B M G : Hp} {Ns Ns2 : List Hp} {W : Hp → List Hp → V → Prop} {D : Ends} {ta te ti : TE} {tA : TT} {tz tu : TS} {p : Addr} {xs : List V} {l : List Int} {j j2 : Nat} {w : Int} {b : Bool}
end
end Kj

/-! Kj38: rows of unlike plain things; things that are left as they are from now on, told by kinds. -/
namespace Kj
open PySem PySem.Spec PyProof.Rows L2 Evl
section
variable {K : PySem.W.Frag} {σ : L2.St} {H B : Hp} {ta tb te : TE} {α : Type} {T : Tp α} {x : α} {l m : List PyData} {k : List α}
end
section
variable {K : PySem.W.Frag} {mg : Str → Option Value} {σ : L2.St} {H B M G : Hp} {Ns : List Hp} {j : Nat} {ta te to : TE} {tr : TA} {α β : Type} {S : St α} {T : Tp β} {x : α} {y : β} {R : RlX} {E : L2.St → XK} {C : Addr} {mn : Str} {v : V}
end
end Kj

/-! Kj39: dicts whose keys are texts that the run makes. -/
namespace Kj
open PySem PySem.Spec PyProof.Rows L2 Evl
section
variable {α : Type}
def KvR (R : V → α → Prop) : List (Key × V) → List (Str × α) → Prop := Paired fun kv x => kv.1 = (.inr x.1 : Key) ∧ R kv.2 x.2
def ksK (l : List (Str × α)) : List Str := l.map fun p => p.1
theorem KvR.imp {R R' : V → α → Prop} (i : ∀ v x, R v x → R' v x) {kvs : List (Key × V)} {l : List (Str × α)} (h : KvR R kvs l) : KvR R' kvs l := paired_imp (fun _ _ ⟨a, b⟩ => ⟨a, i _ _ b⟩) h
end
/-- a dict with texts as keys -/
def tKd {α : Type} (T : Tp α) : Tp (List (Str × α)) := ⟨fun H v l => ∃ p kvs, v = .ref p ∧ H p = some (.dK kvs) ∧ KvR (T.R H) kvs l ∧ (∀ k ∈ ksK l, PyData.strOk k = true) ∧ l.length ≤ 900, fun e ⟨p, kvs, h1, h2, h3, h4⟩ => ⟨p, kvs, h1, e _ _ h2, h3.imp fun _ _ => T.up e, h4⟩⟩
instance {α : Type} {T S : Tp α} [Z : Sub T S] : Sub (tKd T) (tKd S) := ⟨fun ⟨p, kvs, h1, h2, h3, h4⟩ => ⟨p, kvs, h1, h2, h3.imp fun _ _ z => Z.to z, h4⟩⟩
instance {α : Type} {T : Tp α} : NN (tKd T) := ⟨fun ⟨_, _, h, _⟩ z => by cases h; cases z⟩
section
variable {K : PySem.W.Frag} {σ : L2.St} {H B M G : Hp} {ta tb te tx : TE} {α : Type} {T : Tp α} {l : List (Str × α)} {k : Str} {x : α} {Ns : List Hp} {D : Ends} {tz : TS} {i j : Nat} {p : Addr} {kvs : List (Key × V)} {ks : List Str}
/-- one's own dict -/
def KvO (T : Tp α) (H : Hp) (kvs : List (Key × V)) (l : List (Str × α)) : Prop := KvR (T.R H) kvs l ∧ (∀ k ∈ ksK l, PyData.strOk k = true) ∧ l.length ≤ 900
theorem KvO.up {H' : Hp} (h : KvO T H kvs l) (e : Ex H H') : KvO T H' kvs l := ⟨h.1.imp fun _ _ => T.up e, h.2⟩
end
end Kj

/-! Kj40: deep == with dicts and tuples within; == with an empty list; lists of one's own within a thing; refusals with parts that change. -/
namespace Kj
open PySem PySem.Spec PyProof.Rows L2 Evl
/-! ### == of an empty list -/
section
variable {X : Cx}
end
section
variable {K : PySem.W.Frag} {σ : L2.St} {H B : Hp} {ta tb : TE} {α β : Type} {T : Tp α} {S : Tp β} {l : List α}
end
section
variable {X : Cx} {pins : List (Addr × Obj)} {σ : L2.St} {H : Hp} {s : Shared}
end
section
variable {K : PySem.W.Frag} {σ : L2.St} {H M G N A B : Hp} {Ns : List Hp} {D : Ends} {tz : TS} {te ta : TE} {j : Nat} {α : Type} {T : Tp α} {l : List α} {p C dx : Addr} {gs : List (Str × V)} {f : Str} {xs : List V} {g : TG}
/-- a part falls into two -/
theorem Own.cut2 (o : Own (M :: G :: Ns) H) (hj : Ns[j]? = some (uni A B)) (d : Dj A B) : Own (M :: G :: (A :: B :: Ns.eraseIdx j)) H := by
  have o2 := o.front hj
  obtain ⟨a, b⟩ := own_iff.mp o2
  cases b with
  | cons b1 b2 =>
    cases b2 with
    | cons c1 c2 =>
      cases c2 with
      | cons d1 d2 =>
        have eA : Ex A (uni A B) := uni_l fun x hx => by
          cases q : A x with
          | none => rfl
          | some u => exact absurd (d x (ne_some q)) hx
        have sub : ∀ N, (∀ x, N x ≠ none → (uni A B) x ≠ none) → ∀ P, Dj P (uni A B) → Dj P N := fun N hN P hP x hx => by
          cases q : N x with
          | none => rfl
          | some u => exact absurd (hP x hx) (hN x (ne_some q))
        have sA : ∀ x, A x ≠ none → (uni A B) x ≠ none := fun x hx => by
          cases q : A x with
          | none => exact absurd q hx
          | some u => rw [eA x u q]; exact fun z => nomatch z
        have sB : ∀ x, B x ≠ none → (uni A B) x ≠ none := fun x hx => by
          cases q : B x with
          | none => exact absurd q hx
          | some u => rw [uni_r x u q]; exact fun z => nomatch z
        refine own_iff.mpr ⟨fun X hX => ?_, .cons (fun X hX => ?_) (.cons (fun X hX => ?_) (.cons (fun X hX => ?_) (.cons (fun X hX => ?_) d2)))⟩
        · simp only [List.mem_cons] at hX
          rcases hX with z | z | z | z | z
          · rw [z]; exact a M List.mem_cons_self
          · rw [z]; exact a G (by simp)
          · rw [z]; exact eA.trans (a _ (by simp))
          · rw [z]; exact (show Ex B (uni A B) from uni_r).trans (a _ (by simp))
          · exact a X (by simp [z])
        · simp only [List.mem_cons] at hX
          rcases hX with z | z | z | z
          · rw [z]; exact b1 G (by simp)
          · rw [z]; exact sub A sA M (b1 _ (by simp))
          · rw [z]; exact sub B sB M (b1 _ (by simp))
          · exact b1 X (by simp [z])
        · simp only [List.mem_cons] at hX
          rcases hX with z | z | z
          · rw [z]; exact sub A sA G (c1 _ (by simp))
          · rw [z]; exact sub B sB G (c1 _ (by simp))
          · exact c1 X (by simp [z])
        · simp only [List.mem_cons] at hX
          rcases hX with z | z
          · rw [z]; exact d
          · exact fun x hx => d1 X z x (sA x hx)
        · exact fun x hx => d1 X hX x (sB x hx)
/-- two parts are one -/
theorem Own.join2 (o : Own (M :: G :: (A :: B :: Ns)) H) : Own (M :: G :: (uni A B :: Ns)) H ∧ Dj A B := by
  obtain ⟨a, b⟩ := own_iff.mp o
  cases b with
  | cons b1 b2 =>
    cases b2 with
    | cons c1 c2 =>
      cases c2 with
      | cons d1 d2 =>
        cases d2 with
        | cons e1 e2 =>
          refine ⟨own_iff.mpr ⟨fun X hX => ?_, .cons (fun X hX => ?_) (.cons (fun X hX => ?_) (.cons (fun X hX => ?_) e2))⟩, d1 B (by simp)⟩
          · simp only [List.mem_cons] at hX
            rcases hX with z | z | z | z
            · rw [z]; exact a M List.mem_cons_self
            · rw [z]; exact a G (by simp)
            · rw [z]; exact uni_ex (a A (by simp)) (a B (by simp))
            · exact a X (by simp [z])
          · simp only [List.mem_cons] at hX
            rcases hX with z | z | z
            · rw [z]; exact b1 G (by simp)
            · rw [z]; exact dj_unr (b1 A (by simp)) (b1 B (by simp))
            · exact b1 X (by simp [z])
          · simp only [List.mem_cons] at hX
            rcases hX with z | z
            · rw [z]; exact dj_unr (c1 A (by simp)) (c1 B (by simp))
            · exact c1 X (by simp [z])
          · exact dj_uni (d1 X (by simp [hX])) (e1 X hX)
end
end Kj
namespace Kj
open PySem PySem.Spec PyProof.Rows L2 Evl
section
variable {K : PySem.W.Frag} {σ : L2.St} {H M G N A B : Hp} {Ns : List Hp} {D : Ends} {tz : TS} {te ta : TE} {tu tw : TS} {j : Nat} {α : Type} {T : Tp α} {l : List α} {p : Addr} {xs : List V} {W : Hp → List Hp → V → Prop} {b : Bool}
end
end Kj

/-! Kj41: new things out of things that are left as they are; new things kept in dicts; refusals with fields. -/
namespace Kj
open PySem PySem.Spec PyProof.Rows L2 Evl
section
variable {K : PySem.W.Frag} {mg : Str → Option Value} {σ : L2.St} {H B M G : Hp} {Ns Ps : List Hp} {j : Nat} {ta tb te to : TE} {tr : TA} {α β : Type} {S : St α} {S' : St β} {T : Tp β} {x : α} {y : β} {R : RlX} {E : L2.St → XK} {C : Addr} {mn : Str} {v : V} {PP : Hp → List Hp → V → Prop} {PE : Hp → List Hp → Prop} {Q : VK} {EE : XK} {xn : Str} {fs : List (Str × V)} {e : Option (Str × List (Str × V))}
end
section
variable {K : PySem.W.Frag} {σ : L2.St} {H M G : Hp} {Ns : List Hp} {j : Nat} {ta tb te : TE} {α : Type} {S : St α} {x : α} {l : List (Str × α)} {kvs : List (Key × V)} {k : Str} {p : Addr} {D : Ends} {tz : TS}
end

/-! ### what is told of a thing's own lists -/
section
variable {K : PySem.W.Frag} {mg : Str → Option Value} {σ : L2.St} {H H' B M G N : Hp} {Ns Ps Rs : List Hp} {j : Nat} {ta te tl : TE} {tr : TA} {α : Type} {T : Tp α} {l : List α} {y : α} {xs : List V} {p : Addr} {v : V} {as : List Arg} {S : RlX} {E : L2.St → XK} {C : Addr} {mn : Str} {D : Ends} {P : Hp → V → Prop} {PP : Hp → List Hp → V → Prop} {g : TG}
end
end Kj

/-! Kj42: len of a dict; refusals within a store. -/
namespace Kj
open PySem PySem.Spec PyProof.Rows L2 Evl
section
variable {K : PySem.W.Frag} {mg : Str → Option Value} {σ : L2.St} {H B : Hp} {ta tb te : TE} {tr : TA} {ks : List Str} {W : WX} {xn : Str} {fs : List (Str × V)} {D : Ends} {tz : TS} {C : Addr} {sp : Sp} {E : L2.St → XK}
end
end Kj

/-! Kj43: a call of what a changing call gives back; refusals with fields. -/
namespace Kj
open PySem PySem.Spec PyProof.Rows L2 Evl
section
variable {K : PySem.W.Frag} {mg : Str → Option Value} {σ : L2.St} {H B M G : Hp} {Ns Ns2 : List Hp} {W : Hp → List Hp → V → Prop} {D : Ends} {ta te ti t1 : TE} {tr : TA} {tA t2 : TT} {tz tu : TS} {sp : Sp} {E : L2.St → XK} {w : V} {α : Type} {T : Tp α} {x : α}
theorem xda_some {fs : List (Str × V)} {d : Option Addr} {H H' : Hp} (h : XdAt fs H H' d) (hn : fs ≠ []) : ∃ dd, d = some dd ∧ H' dd = some (.xd fs) := by
  rcases h with ⟨z, _⟩ | ⟨a, h1, h2, _⟩
  · exact absurd z hn
  · exact ⟨a, h1, h2⟩
end
section
variable {X : Cx} {W : WX} {k : Nat} {C : Addr} {ps : List Str} {sp : Sp} {x : Str} {p pos : Pos}
end
end Kj

/-! Kj44: refusals within a test. -/
namespace Kj
open PySem PySem.Spec PyProof.Rows L2 Evl
section
variable {mg : Str → Option Value} {σ : L2.St} {H : Hp} {D : Ends} {te : TE} {tz tu tw : TS} {W : WX} {xn : Str} {fs : List (Str × V)}
end
end Kj

/-! Kj45: texts that are cut, joined, split; results with fields in refusals. -/
namespace Kj
open PySem PySem.Spec PyProof.Rows L2 Evl
def ixS (w : Str) (i : Int) : Str := ⟨#[getI w.cps.toList i]⟩
/-- an error with fields, or none -/
def resEF (e : Option (Str × List (Str × V))) (P : Hp → V → Prop) : Res := match e with
  | none => .ok P
  | some (x, fs) => .err x fs
section
variable {K : PySem.W.Frag} {mg : Str → Option Value} {σ : L2.St} {H H1 B : Hp} {ta tb te ti : TE} {P : Hp → V → Prop} {Q : VK} {E : XK} {x : Str} {fs : List (Str × V)} {e : Option (Str × List (Str × V))} {w a b : Str}
theorem resEF_ok (h : e = none) (k : Out mg (resEF e P) H Q E) : RetNew H Q P := by subst h; exact k
theorem resEF_err (h : e = some (x, fs)) (k : Out mg (resEF e P) H Q E) : RaiseX mg x fs H E := by subst h; exact k
theorem resF_ok (h : e = none) : resEF e P = .ok P := by subst h; rfl
theorem resF_err (h : e = some (x, fs)) : resEF e P = .err x fs := by subst h; rfl
theorem ev_ixS {i : Int} (h : Ev te σ H (.str w)) (hi : Ev ti σ H (.int i)) (hl : w.length ≤ 100000) (hr : -(w.length : Int) ≤ i ∧ i < w.length) : Ev (tOp (rIx K) te ti) σ H (.str (ixS w i)) := by
  have hw : (w.cps.toList.length : Int) = w.length := by simp [Str.length]
  refine ev_op h hi (rv_ixSs hl (atI_get ?_))
  omega
theorem ev_addX (ha : Ev ta σ H (.str a)) (hb : Ev tb σ H (.str b)) (g : a.length + b.length ≤ 16777216) : Ev (tOp (rAddU K) ta tb) σ H (.str (a ++ b)) := ev_op ha hb (rv_addS (by rw [sizeLine_eq]; exact g))
theorem paired_mapTX {N : Hp} : ∀ {ys : List Str}, (∀ y ∈ ys, TxtOk y) → Paired (tX.R N) (ys.map V.str) ys
  | [], _ => .nil
  | y :: r, h => .cons ⟨rfl, h y List.mem_cons_self⟩ (paired_mapTX fun z hz => h z (List.mem_cons_of_mem _ hz))
theorem en_splitX (ha : Ev ta σ H (.str a)) (hb : Ev tb σ H (.str b)) (g : (b.length == 0) = false ∧ a.length + 2 ≤ 16777216 ∧ (∀ y ∈ Txt.split a b, TxtOk y) ∧ (Txt.split a b).length ≤ 40000) : Edn tX (tBM K "str" rSplitS ta (tCons tb tNil)) σ H B (Txt.split a b) := fun H1 e Q q =>
  ha H1 e _ fun H2 e2 => ⟨rfl, hb H2 (e.trans e2) _ fun H3 e3 => ⟨a, b, rfl, rfl, g.1, by rw [sizeLine_eq]; exact g.2.1, fun p hp => q p _ _ emp ((e2.trans e3).trans (Ex.new hp)) emp_ex emp_fr (fresh_back (e2.trans e3) hp) rfl upd_same (paired_mapTX g.2.2.1) g.2.2.2⟩⟩
end
/-! ### split and join on texts -/
theorem spl1 (s c : Nat) (r acc : List Nat) : TL.spl [s] 0 acc (c :: r) = if c = s then acc :: TL.spl [s] 0 [] r else TL.spl [s] 0 (acc ++ [c]) r := by
  by_cases h : c = s
  · subst h
    rw [if_pos rfl, TL.spl_hit (show TL.pre [c] (c :: r) = true from TL.pre_self [c] r)]
    rfl
  · rw [if_neg h, TL.spl_miss (TL.pre_of_head [] r h)]
theorem spl1_ne (s : Nat) : ∀ (xs acc : List Nat), ∃ p q, TL.spl [s] 0 acc xs = p :: q
  | [], acc => ⟨acc, [], TL.spl_nil _ _ _⟩
  | c :: r, acc => by
    rw [spl1]
    split
    · exact ⟨_, _, rfl⟩
    · exact spl1_ne s r _
theorem spl1_join (s : Nat) : ∀ (xs acc : List Nat), TL.joinL [s] (TL.spl [s] 0 acc xs) = acc ++ xs
  | [], acc => by rw [TL.spl_nil, List.append_nil]; rfl
  | c :: r, acc => by
    rw [spl1]
    split
    · rename_i h
      subst h
      have ih := spl1_join c r []
      obtain ⟨p, q, e⟩ := spl1_ne c r []
      rw [e] at ih ⊢
      show acc ++ ([c] ++ TL.joinL [c] (p :: q)) = _
      rw [ih]
      rfl
    · rw [spl1_join s r (acc ++ [c]), List.append_assoc]
      rfl
theorem spl1_in (s : Nat) : ∀ (xs acc p : List Nat), p ∈ TL.spl [s] 0 acc xs → (∀ c ∈ p, c ∈ acc ∨ c ∈ xs) ∧ p.length ≤ acc.length + xs.length
  | [], acc, p, h => by
    rw [TL.spl_nil] at h
    rw [List.mem_singleton.mp h]
    exact ⟨fun c hc => .inl hc, Nat.le_refl _⟩
  | c :: r, acc, p, h => by
    rw [spl1] at h
    split at h
    · rcases List.mem_cons.mp h with z | z
      · rw [z]
        exact ⟨fun c hc => .inl hc, Nat.le_add_right _ _⟩
      · obtain ⟨h1, h2⟩ := spl1_in s r [] p z
        refine ⟨fun d hd => ?_, by simp only [List.length_cons, List.length_nil] at h2 ⊢; omega⟩
        rcases h1 d hd with z | z
        · cases z
        · exact .inr (List.mem_cons_of_mem _ z)
    · obtain ⟨h1, h2⟩ := spl1_in s r _ p h
      refine ⟨fun d hd => ?_, by simp only [List.length_append, List.length_cons, List.length_nil] at h2 ⊢; omega⟩
      rcases h1 d hd with z | z
      · rcases List.mem_append.mp z with z | z
        · exact .inl z
        · exact .inr (by rw [List.mem_singleton.mp z]; exact List.mem_cons_self)
      · exact .inr (List.mem_cons_of_mem _ z)
theorem spl1_len (s : Nat) : ∀ (xs acc : List Nat), (TL.spl [s] 0 acc xs).length ≤ xs.length + 1
  | [], acc => by rw [TL.spl_nil]; exact Nat.le_refl _
  | c :: r, acc => by
    rw [spl1]
    split
    · have := spl1_len s r []
      simp only [List.length_cons]
      omega
    · have := spl1_len s r (acc ++ [c])
      simp only [List.length_cons]
      omega
theorem joinL_in {S : List Nat} : ∀ {ps : List (List Nat)} {c : Nat}, c ∈ TL.joinL S ps → c ∈ S ∨ ∃ p ∈ ps, c ∈ p
  | [], c, h => nomatch h
  | [p], c, h => .inr ⟨p, List.mem_singleton.mpr rfl, h⟩
  | p :: q :: r, c, h => by
    rcases List.mem_append.mp h with z | z
    · exact .inr ⟨p, List.mem_cons_self, z⟩
    · rcases List.mem_append.mp z with z | z
      · exact .inl z
      · rcases joinL_in z with z | ⟨u, hu, z⟩
        · exact .inl z
        · exact .inr ⟨u, List.mem_cons_of_mem _ hu, z⟩
theorem joinL_len {S : List Nat} {m : Nat} : ∀ {ps : List (List Nat)}, (∀ p ∈ ps, p.length ≤ m) → (TL.joinL S ps).length ≤ ps.length * (m + S.length)
  | [], _ => Nat.zero_le _
  | [p], h => by
    show p.length ≤ 1 * (m + S.length)
    have := h p List.mem_cons_self
    omega
  | p :: q :: r, h => by
    have ih := joinL_len (S := S) (ps := q :: r) fun u hu => h u (List.mem_cons_of_mem _ hu)
    have hp := h p List.mem_cons_self
    show (p ++ (S ++ TL.joinL S (q :: r))).length ≤ (r.length + 1 + 1) * (m + S.length)
    rw [List.length_append, List.length_append, Nat.succ_mul]
    simp only [List.length_cons] at ih
    omega
/-- the signs of a text -/
abbrev cs (s : Str) : List Nat := s.cps.toList
theorem cs_len (s : Str) : (cs s).length = s.length := by simp [Str.length]
section
variable {y : Str} {s : Nat}
theorem split_tl (ey : TL.tl y = [s]) (hs : s < 256) (x : Str) : (Txt.split x y).map TL.tl = TL.spl [s] 0 [] (TL.tl x) := by
  have hk : y.cps.all (· < 256) = true := by
    have e : y.cps = #[s] := Array.toList_inj.mp ey
    rw [e]
    simp [hs]
  rw [TL.split_spl x y (by rw [ey]; simp) (TL.kind_ok hk), ey]
theorem join_split (ey : TL.tl y = [s]) (hs : s < 256) (x : Str) : Txt.join y (Txt.split x y) = x := by
  refine TL.ext_tl ?_
  rw [TL.join_eq, TL.tl_join, split_tl ey hs, ey, spl1_join]
  rfl
theorem split_in (ey : TL.tl y = [s]) (hs : s < 256) {x p : Str} (h : p ∈ Txt.split x y) : (∀ c ∈ cs p, c ∈ cs x) ∧ p.length ≤ x.length := by
  have h1 : TL.tl p ∈ TL.spl [s] 0 [] (TL.tl x) := by
    rw [← split_tl ey hs]
    exact List.mem_map.mpr ⟨p, h, rfl⟩
  obtain ⟨h2, h3⟩ := spl1_in s _ _ _ h1
  refine ⟨fun c hc => ?_, ?_⟩
  · rcases h2 c hc with z | z
    · cases z
    · exact z
  · rw [← cs_len, ← cs_len x]
    simpa using h3
theorem split_len (ey : TL.tl y = [s]) (hs : s < 256) (x : Str) : (Txt.split x y).length ≤ x.length + 1 ∧ Txt.split x y ≠ [] := by
  have e := split_tl ey hs x
  constructor
  · have h := spl1_len s (TL.tl x) []
    rw [← e, List.length_map] at h
    rw [← cs_len x]
    exact h
  · intro z
    rw [z] at e
    obtain ⟨p, q, e2⟩ := spl1_ne s (TL.tl x) []
    rw [e2] at e
    cases e
theorem join_in {ps : List Str} {c : Nat} (h : c ∈ cs (Txt.join y ps)) : c ∈ cs y ∨ ∃ p ∈ ps, c ∈ cs p := by
  have h : c ∈ TL.tl (Txt.join y ps) := h
  rw [TL.join_eq, TL.tl_join] at h
  rcases joinL_in h with z | ⟨u, hu, z⟩
  · exact .inl z
  · obtain ⟨p, hp, rfl⟩ := List.mem_map.mp hu
    exact .inr ⟨p, hp, z⟩
theorem join_len {m : Nat} {ps : List Str} (h : ∀ p ∈ ps, p.length ≤ m) : (Txt.join y ps).length ≤ ps.length * (m + y.length) := by
  rw [← cs_len, ← cs_len y]
  show (TL.tl (Txt.join y ps)).length ≤ _
  rw [TL.join_eq, TL.tl_join]
  have z := joinL_len (S := TL.tl y) (m := m) (ps := ps.map TL.tl) fun p hp => by
    obtain ⟨q, hq, rfl⟩ := List.mem_map.mp hp
    have := h q hq
    rw [← cs_len] at this
    exact this
  rw [List.length_map] at z
  exact z
theorem sum_len {m : Nat} : ∀ {ps : List Str}, (∀ p ∈ ps, p.length ≤ m) → (ps.map (·.length)).sum ≤ ps.length * m
  | [], _ => Nat.zero_le _
  | p :: r, h => by
    have ih := sum_len fun q hq => h q (List.mem_cons_of_mem _ hq)
    have hp := h p List.mem_cons_self
    rw [List.map_cons, List.sum_cons, List.length_cons, Nat.succ_mul]
    omega
end
end Kj

set_option Elab.async false
set_option linter.all false
set_option maxRecDepth 100000
set_option maxHeartbeats 2000000
namespace Kj
open PySem PySem.Spec PyProof.Rows L2 Evl
def topS (i : Nat) : Stmt := PySem.Challenge.pw_kimariji_k56_books_written_and_read.main.body.getD i (.Pass ⟨0, 0, 0, 0⟩)
abbrev h_BadVersed__initd_ : Stmt := inClass (topS 4) 0
def dd_BadVersed__initd_ : He.DefD := ⟨("BadVerse", some "__init__"), "__init__", "BadVerse.__init__", defArgs h_BadVersed__initd_, defBody h_BadVersed__initd_, defScope h_BadVersed__initd_, [], []⟩
abbrev h_Aliked__initd_ : Stmt := inClass (topS 5) 0
def dd_Aliked__initd_ : He.DefD := ⟨("Alike", some "__init__"), "__init__", "Alike.__init__", defArgs h_Aliked__initd_, defBody h_Aliked__initd_, defScope h_Aliked__initd_, [], []⟩
abbrev h_BadTextd__initd_ : Stmt := inClass (topS 6) 0
def dd_BadTextd__initd_ : He.DefD := ⟨("BadText", some "__init__"), "__init__", "BadText.__init__", defArgs h_BadTextd__initd_, defBody h_BadTextd__initd_, defScope h_BadTextd__initd_, [], []⟩
abbrev h__law_numbers : Stmt := topS 23
def dd__law_numbers : He.DefD := ⟨("_law_numbers", none), "_law_numbers", "_law_numbers", defArgs h__law_numbers, defBody h__law_numbers, defScope h__law_numbers, [], []⟩
abbrev h__law_same : Stmt := topS 24
def dd__law_same : He.DefD := ⟨("_law_same", none), "_law_same", "_law_same", defArgs h__law_same, defBody h__law_same, defScope h__law_same, [], []⟩
abbrev h_is_syllable : Stmt := topS 12
def dd_is_syllable : He.DefD := ⟨("is_syllable", none), "is_syllable", "is_syllable", defArgs h_is_syllable, defBody h_is_syllable, defScope h_is_syllable, [], []⟩
abbrev h_is_verse : Stmt := topS 13
def dd_is_verse : He.DefD := ⟨("is_verse", none), "is_verse", "is_verse", defArgs h_is_verse, defBody h_is_verse, defScope h_is_verse, [], []⟩
abbrev h_begins : Stmt := topS 14
def dd_begins : He.DefD := ⟨("begins", none), "begins", "begins", defArgs h_begins, defBody h_begins, defScope h_begins, [], []⟩
abbrev h_alike : Stmt := topS 15
def dd_alike : He.DefD := ⟨("alike", none), "alike", "alike", defArgs h_alike, defBody h_alike, defScope h_alike, [], []⟩
abbrev h_need_verses : Stmt := topS 16
def dd_need_verses : He.DefD := ⟨("need_verses", none), "need_verses", "need_verses", defArgs h_need_verses, defBody h_need_verses, defScope h_need_verses, [], []⟩
abbrev h_Bookd__initd_ : Stmt := inClass (topS 17) 0
def dd_Bookd__initd_ : He.DefD := ⟨("Book", some "__init__"), "__init__", "Book.__init__", defArgs h_Bookd__initd_, defBody h_Bookd__initd_, defScope h_Bookd__initd_, [], []⟩
abbrev h_Book_many : Stmt := inClass (topS 17) 1
def dd_Book_many : He.DefD := ⟨("Book", some "many"), "many", "Book.many", defArgs h_Book_many, defBody h_Book_many, defScope h_Book_many, [], []⟩
abbrev h_Book_verse : Stmt := inClass (topS 17) 2
def dd_Book_verse : He.DefD := ⟨("Book", some "verse"), "verse", "Book.verse", defArgs h_Book_verse, defBody h_Book_verse, defScope h_Book_verse, [], []⟩
abbrev h_Book_verses : Stmt := inClass (topS 17) 3
def dd_Book_verses : He.DefD := ⟨("Book", some "verses"), "verses", "Book.verses", defArgs h_Book_verses, defBody h_Book_verses, defScope h_Book_verses, [], []⟩
abbrev h__law_sound : Stmt := topS 25
def dd__law_sound : He.DefD := ⟨("_law_sound", none), "_law_sound", "_law_sound", defArgs h__law_sound, defBody h__law_sound, defScope h__law_sound, [], []⟩
abbrev h__law_pool : Stmt := topS 26
def dd__law_pool : He.DefD := ⟨("_law_pool", none), "_law_pool", "_law_pool", defArgs h__law_pool, defBody h__law_pool, defScope h__law_pool, [], []⟩
abbrev h__law_alike : Stmt := topS 27
def dd__law_alike : He.DefD := ⟨("_law_alike", none), "_law_alike", "_law_alike", defArgs h__law_alike, defBody h__law_alike, defScope h__law_alike, [], []⟩
abbrev h__law_verse : Stmt := topS 28
def dd__law_verse : He.DefD := ⟨("_law_verse", none), "_law_verse", "_law_verse", defArgs h__law_verse, defBody h__law_verse, defScope h__law_verse, [], []⟩
abbrev h__law_wide : Stmt := topS 29
def dd__law_wide : He.DefD := ⟨("_law_wide", none), "_law_wide", "_law_wide", defArgs h__law_wide, defBody h__law_wide, defScope h__law_wide, [], []⟩
abbrev h__law_book : Stmt := topS 30
def dd__law_book : He.DefD := ⟨("_law_book", none), "_law_book", "_law_book", defArgs h__law_book, defBody h__law_book, defScope h__law_book, [], []⟩
abbrev h__law_book_told : Stmt := topS 32
def dd__law_book_told : He.DefD := ⟨("_law_book_told", none), "_law_book_told", "_law_book_told", defArgs h__law_book_told, defBody h__law_book_told, defScope h__law_book_told, [], []⟩
abbrev h__law_is_line : Stmt := topS 33
def dd__law_is_line : He.DefD := ⟨("_law_is_line", none), "_law_is_line", "_law_is_line", defArgs h__law_is_line, defBody h__law_is_line, defScope h__law_is_line, [], []⟩
abbrev h__law_copy : Stmt := topS 31
def dd__law_copy : He.DefD := ⟨("_law_copy", none), "_law_copy", "_law_copy", defArgs h__law_copy, defBody h__law_copy, defScope h__law_copy, [], []⟩
abbrev h_book_text : Stmt := topS 19
def dd_book_text : He.DefD := ⟨("book_text", none), "book_text", "book_text", defArgs h_book_text, defBody h_book_text, defScope h_book_text, [], []⟩
abbrev h_is_next : Stmt := topS 20
def dd_is_next : He.DefD := ⟨("is_next", none), "is_next", "is_next", defArgs h_is_next, defBody h_is_next, defScope h_is_next, [], []⟩
abbrev h_read_book : Stmt := topS 21
def dd_read_book : He.DefD := ⟨("read_book", none), "read_book", "read_book", defArgs h_read_book, defBody h_read_book, defScope h_read_book, [], []⟩
abbrev h__law_book_rows : Stmt := topS 34
def dd__law_book_rows : He.DefD := ⟨("_law_book_rows", none), "_law_book_rows", "_law_book_rows", defArgs h__law_book_rows, defBody h__law_book_rows, defScope h__law_book_rows, [], []⟩
abbrev h__law_first_bad : Stmt := topS 35
def dd__law_first_bad : He.DefD := ⟨("_law_first_bad", none), "_law_first_bad", "_law_first_bad", defArgs h__law_first_bad, defBody h__law_first_bad, defScope h__law_first_bad, [], []⟩
abbrev h__law_spoilt_rows : Stmt := topS 36
def dd__law_spoilt_rows : He.DefD := ⟨("_law_spoilt_rows", none), "_law_spoilt_rows", "_law_spoilt_rows", defArgs h__law_spoilt_rows, defBody h__law_spoilt_rows, defScope h__law_spoilt_rows, [], []⟩
abbrev h_law : Stmt := topS 37
def dd_law : He.DefD := ⟨("law", none), "law", "law", defArgs h_law, defBody h_law, defScope h_law, [], []⟩
def fa_ : List He.Fa := ([.free "abs", .free "all", .free "any", .free "dict", .free "enumerate", .free "int", .free "isinstance", .free "len", .free "list", .free "max", .free "min", .free "range", .free "sorted", .free "str", .free "sum", .free "tuple", .free "zip", .free "bool", .free "set", .str "LETTERS" "abcdefghijklmnopqrstuvwxyz", .int "MOST_SIGNS" 3, .int "MOST_SYLLABLES" 8, .int "MOST_VERSES" 40, .exc "BadBook", .glo "BadBook", .glo "BadVerse", .noat "BadVerse" "row", .glo "Alike", .noat "Alike" "one", .noat "Alike" "other", .exc "NoVerse", .glo "NoVerse", .glo "BadText", .noat "BadText" "row", .exc "SnatchError", .glo "SnatchError", .exm "BadText" "BadText" true, .cls "Book", .glo "Book", .noat "Book" "lines"] : List He.Fa) ++ ([.glo "_law_numbers", .glo "_law_same", .glo "is_syllable", .glo "is_verse", .glo "begins", .glo "alike", .glo "need_verses", .meth "Book" "__init__", .meth "Book" "many", .meth "Book" "verse", .meth "Book" "verses", .glo "_law_sound", .glo "_law_pool", .glo "_law_alike", .glo "_law_verse", .glo "_law_wide", .glo "_law_book", .glo "_law_book_told", .glo "_law_is_line", .glo "_law_copy", .glo "book_text", .glo "is_next", .glo "read_book", .glo "_law_book_rows", .glo "_law_first_bad", .glo "_law_spoilt_rows", .glo "law", .mkr "Book"] : List He.Fa)
def fn_ : List He.DefD := ([dd_BadVersed__initd_, dd_Aliked__initd_, dd_BadTextd__initd_, dd__law_numbers, dd__law_same, dd_is_syllable, dd_is_verse, dd_begins, dd_alike, dd_need_verses, dd_Bookd__initd_, dd_Book_many, dd_Book_verse, dd_Book_verses, dd__law_sound, dd__law_pool, dd__law_alike, dd__law_verse, dd__law_wide, dd__law_book, dd__law_book_told, dd__law_is_line, dd__law_copy, dd_book_text, dd_is_next, dd_read_book, dd__law_book_rows, dd__law_first_bad, dd__law_spoilt_rows, dd_law] : List He.DefD)
def tf_ : List He.Defn := []
def ex_ (K : PySem.W.Frag) : Bool := (xiB K "BadVerse" && (xiB K "Alike" && (xiB K "BadText" && (xfB K "BadText" && true))))
def nm_ : List PySem.Str := ([("SnatchError" : PySem.Str), ("BadBook" : PySem.Str), ("NoVerse" : PySem.Str), ("BadVerse" : PySem.Str), ("Alike" : PySem.Str), ("BadText" : PySem.Str), ("LETTERS" : PySem.Str), ("MOST_VERSES" : PySem.Str), ("MOST_SYLLABLES" : PySem.Str), ("MOST_SIGNS" : PySem.Str), ("is_syllable" : PySem.Str), ("is_verse" : PySem.Str), ("begins" : PySem.Str), ("alike" : PySem.Str), ("need_verses" : PySem.Str), ("Book" : PySem.Str), ("book_text" : PySem.Str), ("is_next" : PySem.Str), ("read_book" : PySem.Str), ("_law_numbers" : PySem.Str), ("_law_same" : PySem.Str), ("_law_sound" : PySem.Str), ("_law_pool" : PySem.Str), ("_law_alike" : PySem.Str), ("_law_verse" : PySem.Str), ("_law_wide" : PySem.Str), ("_law_book" : PySem.Str), ("_law_copy" : PySem.Str), ("_law_book_told" : PySem.Str), ("_law_is_line" : PySem.Str), ("_law_book_rows" : PySem.Str), ("_law_first_bad" : PySem.Str), ("_law_spoilt_rows" : PySem.Str)] : List PySem.Str)
abbrev R_ : PySem.W.OpenRow := PySem.W.OpenLaw.row PySem.Challenge.rw_kimariji_k56_books_written_and_read
abbrev hk_ : PySem.W.Hook := hookY 4 fa_ fn_ [] tf_ ex_
def ob_ (s : PySem.W.SharedT) : He.AlX := obsYF 4 fa_ fn_ [] tf_ ex_ (HandSHeadRun.getT s)
theorem ob_eq (s : PySem.W.SharedT) : ob_ s = hk_.obs s.abs := obsYF_at _ _ _ _ _ _ (HandSHeadRun.getT_eq s)
theorem run_ (w : World) : HandSHeadRun.RunEq R_ (PySem.W.view R_.prog [37]) hk_ ob_ 12000 nm_ w := by
  intro os
  kernel_rfl
local macro_rules | `(tactic| wtm_at "sq") => `(tactic| first
  | assumption
  | exact sq_of (by assumption)
  | exact st_of (by assumption)
  | exact sq_of (Own.at (j := 0) (by assumption) (by rfl))
  | exact sq_of (Own.at (j := 1) (by assumption) (by rfl))
  | exact sq_of (Own.at (j := 2) (by assumption) (by rfl))
  | exact sq_of (Own.at (j := 3) (by assumption) (by rfl))
  | exact st_of (Own.at (j := 0) (by assumption) (by rfl))
  | exact st_of (Own.at (j := 1) (by assumption) (by rfl))
  | exact st_of (Own.at (j := 2) (by assumption) (by rfl))
  | exact st_of (Own.at (j := 3) (by assumption) (by rfl))
  | exact ex_l (Own.e0 (by assumption)) (by assumption)
  | exact ex_l (Own.e1 (by assumption)) (by assumption)
  | exact ex_l (Own.e2 (by assumption)) (by assumption)
  | exact ex_l (Own.e3 (by assumption)) (by assumption)
  | exact ex_t (Own.e0 (by assumption)) (by assumption)
  | exact ex_t (Own.e1 (by assumption)) (by assumption)
  | exact ex_t (Own.e2 (by assumption)) (by assumption)
  | exact ex_t (Own.e3 (by assumption)) (by assumption)
  | exact dp_mono (Own.e0 (by assumption)) (by assumption)
  | exact dp_mono (Own.e1 (by assumption)) (by assumption)
  | exact dp_mono (Own.e2 (by assumption)) (by assumption)
  | exact dp_mono (Own.e3 (by assumption)) (by assumption)
  | exact dp_mono (Own.e4 (by assumption)) (by assumption))
local macro_rules | `(tactic| wtm_at "side") => `(tactic| first
  | assumption
  | exact cmul_small (by omega) (by omega)
  | (show (0 : Int) < _; first | decide | omega)
  | exact ⟨by decide, by decide⟩
  | exact ⟨by decide, by decide, by decide⟩
  | decide
  | omega)
local macro_rules | `(tactic| wtm_at "rv") => `(tactic| first
  | exact rv_addI
  | exact rv_I0
  | exact rv_eqI
  | exact rv_neI
  | exact rv_eqT
  | exact rv_neT
  | exact rv_isN
  | exact rv_isnN
  | exact rv_sign
  | exact rv_mulI (by wtm_at "side")
  | exact rv_I (by wtm_at "side")
  | exact rv_ixLs (by wtm_at "sq") (by first | assumption | with_reducible rfl | (show atI [_] _ = _; rfl) | (show atI [_, _] _ = _; rfl) | (show atI [_, _, _] _ = _; rfl) | (show atI [_, _, _, _] _ = _; rfl))
  | exact rv_ixTs (by wtm_at "sq") (by first | assumption | with_reducible rfl | (show atI [_] _ = _; rfl) | (show atI [_, _] _ = _; rfl) | (show atI [_, _, _] _ = _; rfl) | (show atI [_, _, _, _] _ = _; rfl))
  | exact rv_ixSs (by wtm_at "side") (by first | assumption | with_reducible rfl | (show atI [_] _ = _; rfl) | (show atI [_, _] _ = _; rfl) | (show atI [_, _, _] _ = _; rfl) | (show atI [_, _, _, _] _ = _; rfl))
  | exact rc_lenL (by wtm_at "sq")
  | exact rc_lenT (by wtm_at "sq")
  | exact rc_lenS (by wtm_at "side")
  | exact rc_abs
  | exact ru_neg
  | assumption)
local macro_rules | `(tactic| wtm_at "ev") => `(tactic| first
  | exact ev_var rfl
  | exact ev_c
  | exact ea_nil
  | exact eo_none
  | (apply eo_some; wtm_at "ev")
  | (apply ea_cons; wtm_at "ev"; wtm_at "ev")
  | (apply et_test; wtm_at "ev")
  | (apply et_B; wtm_at "ev")
  | (apply ev_op; wtm_at "ev"; wtm_at "ev"; wtm_at "rv")
  | (apply ev_un; wtm_at "ev"; wtm_at "rv")
  | (apply ev_cb; wtm_at "ev"; wtm_at "rv")
  | (apply ev_fld; wtm_at "ev"; wtm_at "obj"; wtm_at "obj"; wtm_at "obj"; wtm_at "obj")
  | (apply el_sl'; wtm_at "ev"; wtm_at "ev"; wtm_at "ev"; wtm_at "sq")
  | (apply el_lst; wtm_at "ev"; exact Nat.le_of_ble_eq_true rfl)
  | (apply eu_tup; wtm_at "ev"; exact Nat.le_of_ble_eq_true rfl)
  | (apply ep_l; wtm_at "ev")
  | (apply ep_u; wtm_at "ev")
  | (apply ev_callO; wtm_at "ev"; wtm_at "call")
  | (apply ep_call; wtm_at "ev"; wtm_at "call")
  | (apply ep_v; wtm_at "ev"))
local macro_rules | `(tactic| wtm_at "call") => `(tactic| assumption)
local macro_rules | `(tactic| wtm_at "obj") => `(tactic| first | assumption | rfl)
local macro_rules | `(tactic| wtm_at "vc") => `(tactic| first
  | assumption
  | omega
  | trivial
  | (simp only [rngI_get, rngI2_get, enumI_get, rngI_mem, rngI2_mem, rngI_len, rngI2_len, enumI_len, List.length_nil, List.length_cons, List.length_append, List.length_map, List.length_set, Bool.and_eq_true, Bool.or_eq_true, Bool.or_eq_false_iff, Bool.and_eq_false_iff, Bool.not_eq_true', Bool.not_eq_false', decide_eq_true_eq, decide_eq_false_iff_not, Int.reduceToNat, Nums] at *; omega)
  | (subst_vars; simp only [rngI_get, rngI2_get, enumI_get, rngI_mem, rngI2_mem, rngI_len, rngI2_len, enumI_len, List.length_nil, List.length_cons, List.length_append, List.length_map, List.length_set, Bool.and_eq_true, Bool.or_eq_true, Bool.or_eq_false_iff, Bool.and_eq_false_iff, Bool.not_eq_true', Bool.not_eq_false', decide_eq_true_eq, decide_eq_false_iff_not, Int.reduceToNat, Nums] at *; omega)
  | rfl
  | decide)
abbrev s__law_numbers : Stmt := topS 23
theorem sc__law_numbers : FnScope ["_law_script", "_law_many", "_law_row", "_law_seed", "_law_cell", "_law_rest", "_law_k"] ["_law_script", "_law_many"] (defScope s__law_numbers) := ⟨rfl, rfl, rfl, by decide +kernel, rfl, by decide +kernel, by decide +kernel⟩
set_option hygiene false in
local macro_rules | `(tactic| wtm_at "kjw0") => `(tactic| (
  obtain ⟨k, hk, hr⟩ := hp1
  have hd := hp2.1
  have h0 : rows ≠ [] := of_decide_eq_false c1
  have hlen : 0 < rows.length := List.length_pos_iff.mpr h0
  have hrow : RowN k (getI rows (getI d 1 % (rows.length : Int))) := hr.2 _ (row_in h0 _)
  have hk4 : k ≤ 4 := by omega
  have hk5 : k + 1 ≤ 4 := by omega
  have hL := hr.len hk4
  omega))
set_option hygiene false in
local macro_rules | `(tactic| wtm_at "kjw1") => `(tactic| (
  obtain ⟨k, hk, hr⟩ := hp1
  have hd := hp2.1
  have h0 : rows ≠ [] := of_decide_eq_false c1
  have hlen : 0 < rows.length := List.length_pos_iff.mpr h0
  have hrow : RowN k (getI rows (getI d 1 % (rows.length : Int))) := hr.2 _ (row_in h0 _)
  have hk4 : k ≤ 4 := by omega
  have hk5 : k + 1 ≤ 4 := by omega
  have hL := hr.len hk4
  have := (hrow.txt hk4).1
  omega))
set_option hygiene false in
local macro_rules | `(tactic| wtm_at "kjw2") => `(tactic| (
  obtain ⟨k, hk, hr⟩ := hp1
  have hd := hp2.1
  have h0 : rows ≠ [] := of_decide_eq_false c1
  have hlen : 0 < rows.length := List.length_pos_iff.mpr h0
  have hrow : RowN k (getI rows (getI d 1 % (rows.length : Int))) := hr.2 _ (row_in h0 _)
  have hk4 : k ≤ 4 := by omega
  have hk5 : k + 1 ≤ 4 := by omega
  have hL := hr.len hk4
  first | exact capA hL | exact capB hL | exact capC hL | (rw [List.length_singleton]; omega) | (rw [List.length_map]; omega)))
set_option hygiene false in
local macro_rules | `(tactic| wtm_at "kjw3") => `(tactic| (
  have tx1 : ∃ k, k ≤ 4 ∧ RwK k [("" : Str)] := ⟨0, by decide, by decide +kernel, by decide +kernel⟩
  have tx2 : ∃ k, k ≤ 4 ∧ RwK k rows_1 := ⟨_, by rw [rngI_len]; omega, hj1_1⟩
  subst_vars
  first | exact tx_sum tx1 | exact tx_sum tx2))
set_option hygiene false in
local macro_rules | `(tactic| wtm_at "kjw4") => `(tactic| (
  have tx1 : ∃ k, k ≤ 4 ∧ RwK k [("" : Str)] := ⟨0, by decide, by decide +kernel, by decide +kernel⟩
  have tx2 : ∃ k, k ≤ 4 ∧ RwK k rows_1 := ⟨_, by rw [rngI_len]; omega, hj1_1⟩
  subst_vars
  first | exact tx_ok tx1 | exact tx_ok tx2))
set_option hygiene false in
local macro_rules | `(tactic| wtm_at "kjw5") => `(tactic| (
  have tx1 : ∃ k, k ≤ 4 ∧ RwK k [("" : Str)] := ⟨0, by decide, by decide +kernel, by decide +kernel⟩
  have tx2 : ∃ k, k ≤ 4 ∧ RwK k rows_1 := ⟨_, by rw [rngI_len]; omega, hj1_1⟩
  subst_vars
  first | exact tx_back tx1 | exact tx_back tx2 | exact tx_len tx1 | exact tx_len tx2))
set_option hygiene false in
local macro_rules | `(tactic| wtm_at "kjw6") => `(tactic| (
  have tx1 : ∃ k, k ≤ 4 ∧ RwK k [("" : Str)] := ⟨0, by decide, by decide +kernel, by decide +kernel⟩
  have tx2 : ∃ k, k ≤ 4 ∧ RwK k rows_1 := ⟨_, by rw [rngI_len]; omega, hj1_1⟩
  subst_vars
  first | exact tx_split tx1 | exact tx_split tx2))
set_option hygiene false in
local macro_rules | `(tactic| wtm_at "kjw7") => `(tactic| (
  have tx1 : ∃ k, k ≤ 4 ∧ RwK k [("" : Str)] := ⟨0, by decide, by decide +kernel, by decide +kernel⟩
  have tx2 : ∃ k, k ≤ 4 ∧ RwK k rows_1 := ⟨_, by rw [rngI_len]; omega, hj1_1⟩
  subst_vars
  first | exact tx_back tx1 | exact tx_back tx2))
set_option hygiene false in
local macro_rules | `(tactic| wtm_at "kjw8") => `(tactic| (
  have tx1 : ∃ k, k ≤ 4 ∧ RwK k [("" : Str)] := ⟨0, by decide, by decide +kernel, by decide +kernel⟩
  have tx2 : ∃ k, k ≤ 4 ∧ RwK k rows_1 := ⟨_, by rw [rngI_len]; omega, hj1_1⟩
  subst_vars
  first | exact tx_word tx1 hm1 | exact tx_word tx2 hm1))
set_option hygiene false in
local macro_rules | `(tactic| wtm_at "kjw9") => `(tactic| (
  have tx1 : ∃ k, k ≤ 4 ∧ RwK k [("" : Str)] := ⟨0, by decide, by decide +kernel, by decide +kernel⟩
  have tx2 : ∃ k, k ≤ 4 ∧ RwK k rows_1 := ⟨_, by rw [rngI_len]; omega, hj1_1⟩
  subst_vars
  first | exact tx_told tx1 | exact tx_told tx2))
section
variable {P : Program} {w : World} {K : PySem.W.Frag} {mg : Str → Option Value} {base : Heap}
/-- the law's numbers: so many, each from 0 to 9966 -/
def Nums (n : Nat) (ns : List Int) : Prop := ns.length = n ∧ ∀ x ∈ ns, 0 ≤ x ∧ x < 9967
abbrev pNums (n : Nat) : Hp → V → Prop := fun N v => ∃ (p : Addr) (ns : List Int), v = .ref p ∧ N p = some (.lst (ns.map V.int)) ∧ Nums n ns
def R__law_numbers (K : PySem.W.Frag) : Rl := ⟨fun vs H r => ∃ (a : Addr) (ns : List Int) (m : Int), vs = [.ref a, .int m] ∧ SqL K H a (ns.map V.int) ∧ 0 ≤ m ∧ m ≤ 5000 ∧ r = .ok (pNums m.toNat), fun e ⟨a, ns, m, h1, h2, h3⟩ => ⟨a, ns, m, h1, ex_l e h2, h3⟩⟩
/-- the row so far -/
structure Row (n : Nat) (ns : List Int) : Prop where
  len : ns.length ≤ n
  all : ∀ x ∈ ns, 0 ≤ x ∧ x < 9967
theorem Row.add {n : Nat} {ns : List Int} {x : Int} (h : Row n ns) (hx : 0 ≤ x ∧ x < 9967) : Row (n + 1) (ns ++ [x]) :=
  ⟨by rw [List.length_append, List.length_singleton]; have := h.len; omega, fun y hy => by
    rcases List.mem_append.mp hy with h1 | h1
    · exact h.all y h1
    · rw [List.mem_singleton.mp h1]; exact hx⟩
theorem Row.mono {n m : Nat} {ns : List Int} (h : Row n ns) (l : n ≤ m) : Row m ns := ⟨Nat.le_trans h.len l, h.all⟩
theorem mapI_add (ns : List Int) (x : Int) : ns.map V.int ++ [V.int x] = (ns ++ [x]).map V.int := by rw [List.map_append]; rfl
theorem ok__law_numbers (B : Bt mg) (D : Df K mg "_law_numbers" s__law_numbers ["_law_script", "_law_many"]) : Ok P w K mg base 1 "_law_numbers" ["_law_script", "_law_many"] ((R__law_numbers K).sp mg) := by
  refine D.ok sc__law_numbers (fun vs H Q E h => ?_) (fun f cdv A outer s H vs Q E hr h => ?_)
  · obtain ⟨r, ⟨a, ns, m, rfl, _⟩, _⟩ := h
    rfl
  · obtain ⟨r, ⟨a, ns, m, rfl, hS, h0, hm, rfl⟩, k⟩ := h
    refine ⟨_, (pss_cons (ps_set (i := 2) sc__law_numbers.nd rfl (.inl rfl) (pe_lst pa_nil))
      (pss_cons (ps_set (i := 3) sc__law_numbers.nd rfl (.inl rfl) pe_int)
      (pss_cons (ps_for (passes_of rfl) rfl (pi_listK K (pe_slice (sl_K K) (pv 0) po_none (po_some pe_int))) (pg_name (i := 4) sc__law_numbers.nd rfl (.inl rfl))
        (pss_cons (ps_set (i := 3) sc__law_numbers.nd rfl (.inl rfl) (pe_op op_mod (pe_op (op_addK K) (pe_op (op_addK K) (pe_op op_mulU (pv 3) pe_int) (pe_op op_mod (pv 4) pe_int)) pe_int) pe_int))
        (pss_cons (ps_set (i := 5) sc__law_numbers.nd rfl (.inl rfl) (pe_op op_sub (pv 4) (pe_op op_pow pe_int pe_int)))
        (Evl.pss_cut (ps_if (pt_cmpR op_lt (pv 5) pe_int (nomark _))
          (pss_one (ps_expr (pe_bmK K PySem.F.plainAttrs_list PySem.F.slot_list_append PySem.F.type_list_append mt_append (pv 2) (pa_cons (pe_op op_mod (pv 4) pe_int) pa_nil))))
          pss_nil)
        (pss_one (ps_for (passes_of rfl) rfl (pi_range1 (by rfl) B.range (pa_cons pe_int pa_nil)) (pg_name (i := 6) sc__law_numbers.nd rfl (.inl rfl))
          (pss_one (ps_if (pt_cmpR op_gt (pv 5) pe_int (nomark _))
            (pss_cons (ps_expr (pe_bmK K PySem.F.plainAttrs_list PySem.F.slot_list_append PySem.F.type_list_append mt_append (pv 2) (pa_cons (pe_op op_mod (pv 5) pe_int) pa_nil)))
            (pss_one (ps_set (i := 5) sc__law_numbers.nd rfl (.inl rfl) (pe_op op_fdiv (pv 5) pe_int))))
            pss_nil))))))))
      (pss_cons (ps_while (passes_of rfl) (pt_cmpR op_lt (pe_callB (call_lenK K) (by rfl) B.len boot_b_len (pa_cons (pv 2) pa_nil)) (pv 1) (nomark _))
        (pss_cons (ps_set (i := 3) sc__law_numbers.nd rfl (.inl rfl) (pe_op op_mod (pe_op (op_addK K) (pe_op (op_addK K) (pe_op (op_addK K) (pe_op op_mulU (pv 3) (pv 3)) (pe_op op_mulU pe_int (pv 3))) (pe_op op_mulU pe_int (pe_callB (call_lenK K) (by rfl) B.len boot_b_len (pa_cons (pv 2) pa_nil)))) pe_int) pe_int))
        (pss_one (ps_expr (pe_bmK K PySem.F.plainAttrs_list PySem.F.slot_list_append PySem.F.type_list_append mt_append (pv 2) (pa_cons (pe_op op_mod (pe_op op_fdiv (pv 3) pe_int) pe_int) pa_nil))))))
      (pss_one (ps_ret (pe_slice (sl_K K) (pv 2) po_none (po_some (pv 1))))))))), ?_⟩
    refine q_l (Own.one H) (by wtm_at "ev") fun l H1 o => ?_
    refine q_v o (by wtm_at "ev") fun H1 o => ?_
    refine q_fn o (by wtm_at "ev") (fun i p σ H' => ∃ xs seed y4 y5 y6, σ = [some (.ref a), some (.int m), some (.ref l), some (.int seed), y4, y5, y6] ∧ Own [sing p (.lst (cutV (ns.map V.int) none (some 63))), sing l (.lst (xs.map V.int)), H] H' ∧ Row (61 * i) xs ∧ 0 ≤ seed ∧ seed < 4294967296)
      (fun p H1 o => ⟨[], 41, _, _, _, rfl, o, ⟨Nat.zero_le _, fun _ h => nomatch h⟩, by decide, by decide⟩) (fun i p σ H' _ ⟨xs, seed, y4, y5, y6, _, o, _⟩ => o.at (j := 0) rfl) ?_ ?_
    · rintro i p x σ H' hx ⟨xs, seed, y4, y5, y6, rfl, o, hrow, hs1, hs2⟩
      have e63 : cutV (ns.map V.int) none (some 63) = (ns.map V.int).take 63 := cutV_take 63
      rw [e63] at hx
      have hi : i < 63 := by
        have := (List.getElem?_eq_some_iff.mp hx).1
        rw [List.length_take] at this
        omega
      obtain ⟨c, rfl⟩ : ∃ c, x = V.int c := by
        rw [List.getElem?_take, if_pos hi, List.getElem?_map] at hx
        cases e : ns[i]? with
        | none => rw [e] at hx; cases hx
        | some u => rw [e] at hx; exact ⟨u, (Option.some.inj hx).symm⟩
      have hl := hrow.len
      refine q_v o (by wtm_at "ev") fun H1 o => ?_
      refine q_v o (by wtm_at "ev") fun H1 o => ?_
      generalize hsd : ((seed * 40014 + c % 999983 + 17) % 2147483563) = seed'
      have hs1' : 0 ≤ seed' := by omega
      have hs2' : seed' < 4294967296 := by omega
      generalize (c - 10 ^ (18 : Int).toNat) = rest
      -- if rest < 0: row.append(cell % 9967)
      refine q_cut (M := fun σ H' => ∃ xs, σ = [some (.ref a), some (.int m), some (.ref l), some (.int seed'), some (.int c), some (.int rest), y6] ∧ Own [sing p (.lst (cutV (ns.map V.int) none (some 63))), sing l (.lst (xs.map V.int)), H] H' ∧ Row (61 * i + 1) xs) ?_ ?_
      · refine s_wh o (by wtm_at "ev") (fun hb H1 o => ?_) (fun hb H1 o => ?_)
        · refine s_app (j := 1) o rfl (by wtm_at "ev") (by wtm_at "ev") (by rw [List.length_map]; omega) fun H1 o => ?_
          rw [mapI_add] at o
          exact ⟨_, rfl, o, hrow.add (by omega)⟩
        · exact ⟨xs, rfl, o, hrow.mono (by omega)⟩
      · rintro σ H2 ⟨xs, rfl, o, hrow⟩
        refine s_rg o (by wtm_at "ev") (by decide) (fun j σ H' => ∃ xs rest y6, σ = [some (.ref a), some (.int m), some (.ref l), some (.int seed'), some (.int c), some (.int rest), y6] ∧ Own [sing p (.lst (cutV (ns.map V.int) none (some 63))), sing l (.lst (xs.map V.int)), H] H' ∧ Row (61 * i + 1 + j) xs)
          (fun H1 o => ⟨xs, rest, y6, rfl, o, hrow⟩) ?_ ?_
        · rintro j σ H' hj ⟨xs, rest, y6, rfl, o, hrow⟩
          have hl := hrow.len
          refine s_wh o (by wtm_at "ev") (fun hb H1 o => ?_) (fun hb H1 o => ?_)
          · refine q_app (j := 1) o rfl (by wtm_at "ev") (by wtm_at "ev") (by rw [List.length_map]; omega) fun H1 o => ?_
            rw [mapI_add] at o
            refine s_v o (by wtm_at "ev") fun H1 o => ?_
            exact ⟨_, _, _, rfl, o, hrow.add (by omega)⟩
          · exact ⟨xs, rest, _, rfl, o, hrow.mono (by omega)⟩
        · rintro σ H' ⟨xs, rest, y6, rfl, o, hrow⟩
          exact ⟨xs, seed', _, _, _, rfl, o, hrow.mono (by show 61 * i + 1 + 60 ≤ 61 * (i + 1); omega), hs1', hs2'⟩
    · rintro p σ H' ⟨xs, seed, y4, y5, y6, rfl, o, hrow, hs1, hs2⟩
      have hl : xs.length ≤ 3843 := by
        have h1 := hrow.len
        have h2 : (cutV (ns.map V.int) none (some 63)).length ≤ 63 := by
          rw [show cutV (ns.map V.int) none (some 63) = (ns.map V.int).take 63 from cutV_take 63, List.length_take]
          omega
        omega
      refine q_wl (fun q σ H' => ∃ xs seed, σ = [some (.ref a), some (.int m), some (.ref l), some (.int seed), y4, y5, y6] ∧ Own [sing p (.lst (cutV (ns.map V.int) none (some 63))), sing l (.lst (xs.map V.int)), H] H' ∧ Row 10000 xs ∧ 0 ≤ seed ∧ seed < 4294967296 ∧ q = 5000 - xs.length ∧ xs.length ≤ 5000) (5000 - xs.length) ⟨xs, seed, rfl, o, ⟨by omega, hrow.all⟩, hs1, hs2, rfl, by omega⟩ ?_
      rintro q σ H' ⟨xs, seed, rfl, o, hrow, hs1, hs2, hq, hl5⟩
      refine ⟨_, by wtm_at "ev", fun hb H1 e => ?_, fun hb H1 e => ?_⟩
      · have o := o.mono e
        have hb : ((xs.map V.int).length : Int) < m := of_decide_eq_true hb
        rw [List.length_map] at hb
        have hlm : (xs.map V.int).length = xs.length := List.length_map ..
        refine q_v o (by wtm_at "ev") fun H1 o => ?_
        have hs3 : 0 ≤ (seed * seed + 52774 * seed + 11 * (((xs.map V.int).length : Nat) : Int) + 3) % 2147483629 := Int.emod_nonneg _ (by decide)
        have hs4 : (seed * seed + 52774 * seed + 11 * (((xs.map V.int).length : Nat) : Int) + 3) % 2147483629 < 2147483629 := Int.emod_lt_of_pos _ (by decide)
        generalize ((seed * seed + 52774 * seed + 11 * (((xs.map V.int).length : Nat) : Int) + 3) % 2147483629) = seed' at hs3 hs4 ⊢
        refine s_app (j := 1) o rfl (by wtm_at "ev") (by wtm_at "ev") (by rw [List.length_map]; omega) fun H1 o => ?_
        rw [mapI_add] at o
        refine ⟨5000 - (xs.length + 1), by omega, _, _, rfl, o, ⟨?_, (hrow.add (by omega)).all⟩, hs3, by omega, ?_, ?_⟩
        · rw [List.length_append, List.length_singleton]; omega
        · rw [List.length_append, List.length_singleton]
        · rw [List.length_append, List.length_singleton]; omega
      · have hb : ¬ ((xs.map V.int).length : Int) < m := of_decide_eq_false hb
        rw [List.length_map] at hb
        obtain ⟨n, rfl⟩ : ∃ n : Nat, m = n := ⟨m.toNat, by omega⟩
        have o := o.mono e
        refine s_rn o (ep_l (by wtm_at "ev")) fun v H1 N o hp => o.ret k (i := 0) (j := 3) rfl rfl ?_
        obtain ⟨q, rfl, hp⟩ := hp
        rw [cutV_take, ← List.map_take] at hp
        refine ⟨q, xs.take n, rfl, hp, ?_, fun x hx => hrow.all x (List.mem_of_mem_take hx)⟩
        rw [List.length_take]
        omega
end
abbrev s__law_same : Stmt := topS 24
theorem sc__law_same : FnScope ["_law_found", "_law_due", "_law_one", "_law_other"] ["_law_found", "_law_due"] (defScope s__law_same) := ⟨rfl, rfl, rfl, by decide +kernel, rfl, by decide +kernel, by decide +kernel⟩
section
variable {P : Program} {w : World} {K : PySem.W.Frag} {mg : Str → Option Value} {base : Heap}
/-- two of the same data are found the same -/
def R__law_same (K : PySem.W.Frag) (n : Nat) : Rl := ⟨fun vs H r => ∃ (x y : V) (d : PyData), vs = [x, y] ∧ Dp K H x d ∧ Dp K H y d ∧ smD d ∧ d.depth < n ∧ r = .ok (is (.bl true)), fun e ⟨x, y, d, h1, h2, h3, h4⟩ => ⟨x, y, d, h1, dp_mono e h2, dp_mono e h3, h4⟩⟩
theorem Df.none {x : Str} {st : Stmt} {ps : List Str} {N : List Str} {S : Rl} (D : Df K mg x st ps) (sc : FnScope N ps (defScope st)) (h : ∀ vs H r, ¬ S.R vs H r) : Ok P w K mg base 0 x ps (S.sp mg) := by
  obtain ⟨f, fd, g, F, b⟩ := D.ex
  obtain ⟨oc, od, kV, doc, pm, an, cdv, ct, osl, hfd, lk, hcd⟩ := F.ex
  exact ⟨f, fd, g, F.kp, b, ⟨fun vs H Q E ⟨r, hr, _⟩ => absurd hr (h vs H r), fun _ _ _ _ _ _ _ _ _ _ _ _ _ ⟨r, hr, _⟩ => absurd hr (h _ _ r)⟩, oc, od, osl, lk⟩
theorem ok__law_same (B : Bt mg) (D : Df K mg "_law_same" s__law_same ["_law_found", "_law_due"]) : ∀ n, Ok P w K mg base n "_law_same" ["_law_found", "_law_due"] ((R__law_same K n).sp mg)
  | 0 => D.none sc__law_same fun vs H r ⟨_, _, d, _, _, _, _, h, _⟩ => absurd h (Nat.not_lt_zero _)
  | n + 1 => by
    have O__law_same := ok__law_same B D n
    refine D.ok sc__law_same (fun vs H Q E h => ?_) (fun f cdv A outer s H vs Q E hr h => ?_)
    · obtain ⟨r, ⟨x, y, d, rfl, _⟩, _⟩ := h
      rfl
    · obtain ⟨r, ⟨x, y, d, rfl, hx, hy, hsm, hd, rfl⟩, k⟩ := h
      refine ⟨_, (pss_cons (ps_if (pt_cmpR op_isN (pv 1) pe_non (nomark _))
        (pss_one (ps_ret (pe_cmpR op_isN (pv 0) pe_non (nomark _))))
        pss_nil)
      (pss_cons (ps_if (pt_val (pe_callB (call_isiK' K) (by rfl) B.isinstance boot_b_isinstance (pa_cons (pv 1) (pa_cons (pe_tup (pa_cons (pe_bltn (v := .ty "list") (by rfl) B.list boot_ty_list rfl) (pa_cons (pe_bltn (v := .ty "tuple") (by rfl) B.tuple boot_ty_tuple rfl) pa_nil))) pa_nil))))
        (pss_cons (ps_if (PW.pt (pw_or (pt_cmpR (op_neK K (hu65 hr)) (pe_callB (call_isiK' K) (by rfl) B.isinstance boot_b_isinstance (pa_cons (pv 0) (pa_cons (pe_bltn (v := .ty "list") (by rfl) B.list boot_ty_list rfl) pa_nil))) (pe_callB (call_isiK' K) (by rfl) B.isinstance boot_b_isinstance (pa_cons (pv 1) (pa_cons (pe_bltn (v := .ty "list") (by rfl) B.list boot_ty_list rfl) pa_nil))) (nomark _)) (pw_or1 (pt_cmpR (op_neK K (hu65 hr)) (pe_callB (call_isiK' K) (by rfl) B.isinstance boot_b_isinstance (pa_cons (pv 0) (pa_cons (pe_bltn (v := .ty "tuple") (by rfl) B.tuple boot_ty_tuple rfl) pa_nil))) (pe_callB (call_isiK' K) (by rfl) B.isinstance boot_b_isinstance (pa_cons (pv 1) (pa_cons (pe_bltn (v := .ty "tuple") (by rfl) B.tuple boot_ty_tuple rfl) pa_nil))) (nomark _)))))
          (pss_one (ps_ret pe_bl))
          pss_nil)
        (pss_one (ps_ret (pe_and (pe_cmpR (op_eqK K (hu65 hr)) (pe_callB (call_lenK K) (by rfl) B.len boot_b_len (pa_cons (pv 0) pa_nil)) (pe_callB (call_lenK K) (by rfl) B.len boot_b_len (pa_cons (pv 1) pa_nil)) (nomark _)) (pe_one (pe_callB (cr_allK K rfl) (by rfl) B.all boot_b_all (pa_cons (pe_lc (own := [("_law_one", 2), ("_law_other", 3)]) rfl sc__law_same.nd (pi_zipK K (by rfl) B.zip (pa_cons (pv 0) (pa_cons (pv 1) pa_nil))) (blkOk_by (N := ["_law_found", "_law_due", "_law_one", "_law_other"]) (sc := defScope s__law_same) (by decide +kernel)) (fun _ _ _ _ _ => (pg_tupK K (n := 2) rfl (pgs_cons (pg_name (i := 2) sc__law_same.nd rfl (.inl rfl)) (pgs_cons (pg_name (i := 3) sc__law_same.nd rfl (.inl rfl)) pgs_nil)))) (fun _ _ _ _ _ => pts_nil) (fun _ _ _ _ _ => (pe_callO O__law_same (hr.mono (by omega)) (by rfl) takes0 (pa_cons (pv 2) (pa_cons (pv 3) pa_nil))))) pa_nil)))))))
        pss_nil)
      (pss_cons (ps_if (PW.pt (pw_or (pt_cmpR (op_neK K (hu65 hr)) (pe_callB (call_isiK' K) (by rfl) B.isinstance boot_b_isinstance (pa_cons (pv 0) (pa_cons (pe_bltn (v := .ty "bool") (by rfl) B.bool boot_ty_bool rfl) pa_nil))) (pe_callB (call_isiK' K) (by rfl) B.isinstance boot_b_isinstance (pa_cons (pv 1) (pa_cons (pe_bltn (v := .ty "bool") (by rfl) B.bool boot_ty_bool rfl) pa_nil))) (nomark _)) (pw_or1 (pt_cmpR (op_neK K (hu65 hr)) (pe_callB (call_isiK' K) (by rfl) B.isinstance boot_b_isinstance (pa_cons (pv 0) (pa_cons (pe_bltn (v := .ty "str") (by rfl) B.str boot_ty_str rfl) pa_nil))) (pe_callB (call_isiK' K) (by rfl) B.isinstance boot_b_isinstance (pa_cons (pv 1) (pa_cons (pe_bltn (v := .ty "str") (by rfl) B.str boot_ty_str rfl) pa_nil))) (nomark _)))))
        (pss_one (ps_ret pe_bl))
        pss_nil)
      (pss_one (ps_ret (pe_and (pe_cmpR (op_eqK K (hu65 hr)) (pe_callB (call_isiK' K) (by rfl) B.isinstance boot_b_isinstance (pa_cons (pv 0) (pa_cons (pe_bltn (v := .ty "int") (by rfl) B.int boot_ty_int rfl) pa_nil))) (pe_callB (call_isiK' K) (by rfl) B.isinstance boot_b_isinstance (pa_cons (pv 1) (pa_cons (pe_bltn (v := .ty "int") (by rfl) B.int boot_ty_int rfl) pa_nil))) (nomark _)) (pe_one (pe_cmpR (op_eqK K (hu65 hr)) (pv 0) (pv 1) (nomark _))))))))), ?_⟩
      refine q_wh (Own.one H) (by wtm_at "ev") (fun hb H1 o => ?_) (fun hb H1 o => ?_)
      · have hb : y = .non := by simpa using hb
        subst hb
        cases hy
        cases hx
        exact s_rv o (by wtm_at "ev") fun H1 o => o.retV k (j := 0) rfl rfl
      · have hb : ¬ y = .non := by simpa using hb
        have hx1 := dp_mono o.e0 hx
        have hy1 := dp_mono o.e0 hy
        -- a list or a tuple; else a number, a text, a bool
        have cls : (∃ (ds : List PyData) (xs ys : List V) (a b : Addr), x = .ref a ∧ y = .ref b ∧ d.depth = PyData.depthAll ds + 1 ∧ DpAll K H xs ds ∧ DpAll K H ys ds ∧ ds.length ≤ 40000 ∧ (∀ z ∈ ds, smD z) ∧ (SqL K H a xs ∧ SqL K H b ys ∧ kindS d = "list" ∨ SqT K H a xs ∧ SqT K H b ys ∧ kindS d = "tuple")) ∨
            ((∃ i, x = .int i ∧ y = .int i ∧ kindS d = "int") ∨ (∃ i, x = .str i ∧ y = .str i ∧ kindS d = "str") ∨ ∃ i, x = .bl i ∧ y = .bl i ∧ kindS d = "bool") := by
          cases hx with
          | non => cases hy; exact absurd rfl hb
          | bl i => cases hy; exact .inr (.inr (.inr ⟨i, rfl, rfl, rfl⟩))
          | int i => cases hy; exact .inr (.inl ⟨i, rfl, rfl, rfl⟩)
          | str i => cases hy; exact .inr (.inr (.inl ⟨i, rfl, rfl, rfl⟩))
          | lst h1 h2 =>
            cases hy with
            | lst h3 h4 => exact .inl ⟨_, _, _, _, _, rfl, rfl, by simp only [PyData.depth], h2, h4, (smD_list.mp hsm).1, (smD_list.mp hsm).2, .inl ⟨h1, h3, rfl⟩⟩
          | tup h1 h2 =>
            cases hy with
            | tup h3 h4 => exact .inl ⟨_, _, _, _, _, rfl, rfl, by simp only [PyData.depth], h2, h4, (smD_tuple.mp hsm).1, (smD_tuple.mp hsm).2, .inr ⟨h1, h3, rfl⟩⟩
        rcases cls with ⟨ds, xs, ys, a, b, ex, ey, hdd, ha, hb2, hl40, hsa, hq⟩ | sc
        · subst ex ey
          have kd : ∃ b1 b2, kitB (kindS d) "list" = some b1 ∧ kitB (kindS d) "tuple" = some b2 ∧ (b1 || b2) = true := by
            rcases hq with ⟨_, _, e⟩ | ⟨_, _, e⟩
            · rw [e]; exact ⟨true, false, by decide +kernel, by decide +kernel, rfl⟩
            · rw [e]; exact ⟨false, true, by decide +kernel, by decide +kernel, rfl⟩
          obtain ⟨b1, b2, k1, k2, k12⟩ := kd
          have lx := dpa_len ha
          have ly := dpa_len hb2
          refine q_fi (b := true) o (et_is (et_B (ev_isi2 (ev_var rfl) hy1 k1 k2)) k12) (fun _ H1 o => ?_) (fun h => nomatch h)
          have hx1 := dp_mono o.e0 hx
          have hy1 := dp_mono o.e0 hy
          refine q_wh (b := false) o (et_is (et_or (et_test (ev_op (ev_isi (ev_var rfl) hx1 k1) (ev_isi (ev_var rfl) hy1 k1) (rv_neS (by cases b1 <;> rfl)))) fun _ => et_test (ev_op (ev_isi (ev_var rfl) hx1 k2) (ev_isi (ev_var rfl) hy1 k2) (rv_neS (by cases b2 <;> rfl)))) (by simp)) (fun h => nomatch h) (fun _ H1 o => ?_)
          have EZ : EvI (RZ.iZipA K (tCons (tVar 0) (tCons (tVar 1) tNil))) [some (.ref a), some (.ref b), none, none] H1 H1 xs.length (fun i x H' => ∃ T y z, x = .ref T ∧ H' T = some (.tup [y, z]) ∧ xs[i]? = some y ∧ ys[i]? = some z) := by
            rcases hq with ⟨q1, q2, _⟩ | ⟨q1, q2, _⟩
            · exact ei_zip (by wtm_at "ev") (ex_l o.e0 q1) (ex_l o.e0 q2) (by omega) (Ex.refl _)
            · exact ei_zipT (by wtm_at "ev") (ex_t o.e0 q1) (ex_t o.e0 q2) (by omega) (Ex.refl _)
          have LX : RC (rLenU K) [.ref a] H1 (.int (xs.length : Int)) ∧ RC (rLenU K) [.ref b] H1 (.int (ys.length : Int)) := by
            rcases hq with ⟨q1, q2, _⟩ | ⟨q1, q2, _⟩
            · exact ⟨rc_lenL (ex_l o.e0 q1), rc_lenL (ex_l o.e0 q2)⟩
            · exact ⟨rc_lenT (ex_t o.e0 q1), rc_lenT (ex_t o.e0 q2)⟩
          refine s_rv o (v := .bl true) (ev_is (ev_andV (b := true) (ev_op (ev_cb (by wtm_at "ev") LX.1) (ev_cb (by wtm_at "ev") LX.2) rv_eqI) fun _ => ev_cb1 (ep_l (el_lc (fun i => [some (.ref a), some (.ref b), xs[i]?.map id, ys[i]?.map id]) (fun _ => true) (fun _ => .bl true) EZ (Ex.refl _) (by omega) ?_ ?_ ?_ ?_)) (fun v N H2 e2 i2 ⟨p, ev, hp⟩ => ?_)) ?_) fun H1 o => o.retV k (j := 0) rfl rfl
          · rintro i x H' hi ⟨T, y, z, rfl, hT, g1, g2⟩ Q hQ
            refine ⟨T, [y, z], rfl, st_of hT, rfl, y, [z], rfl, z, [], rfl, rfl, ?_⟩
            rw [g1, g2] at hQ
            exact hQ
          · intro i hi
            rfl
          · intro i H2 e2 hi H3 e3 Q q
            exact q H3 (Ex.refl _)
          · intro i H2 e2 hi _
            obtain ⟨y, hy2⟩ : ∃ y, xs[i]? = some y := ⟨_, List.getElem?_eq_getElem hi⟩
            obtain ⟨z, hz2⟩ : ∃ z, ys[i]? = some z := ⟨_, List.getElem?_eq_getElem (by omega)⟩
            obtain ⟨d1, g1, p1⟩ := dpa_get ha hy2
            obtain ⟨d2, g2, p2⟩ := dpa_get hb2 hz2
            rw [g1] at g2
            cases g2
            have dl := depthAll_get g1
            refine ev_callO (vs := [y, z]) (ea_cons (ev_var (by rw [hy2]; rfl)) (ea_cons (ev_var (by rw [hz2]; rfl)) ea_nil)) ⟨y, z, d1, rfl, dp_mono (o.e0.trans e2) p1, dp_mono (o.e0.trans e2) p2, hsa _ (List.mem_of_getElem? g1), by omega, rfl⟩
          · subst ev
            have hp : N p = some (.lst (((picks xs.length fun _ => true).map fun _ => true).map V.bl)) := by
              rw [hp, List.map_map]
              rfl
            have z := rc_all (K := K) (sq_of (i2 _ _ hp))
            rw [all_true] at z
            exact z
          · rw [lx, ly]
            simp
        · have kd : x = y ∧ scal x y = true ∧ kitB (kindS d) "list" = some false ∧ kitB (kindS d) "tuple" = some false ∧ ∃ b3 b4 b5, kitB (kindS d) "bool" = some b3 ∧ kitB (kindS d) "str" = some b4 ∧ kitB (kindS d) "int" = some b5 := by
            rcases sc with ⟨i, rfl, rfl, e⟩ | ⟨i, rfl, rfl, e⟩ | ⟨i, rfl, rfl, e⟩
            · rw [e]; exact ⟨rfl, rfl, by decide +kernel, by decide +kernel, false, false, true, by decide +kernel, by decide +kernel, by decide +kernel⟩
            · rw [e]; exact ⟨rfl, rfl, by decide +kernel, by decide +kernel, false, true, false, by decide +kernel, by decide +kernel, by decide +kernel⟩
            · rw [e]; exact ⟨rfl, rfl, by decide +kernel, by decide +kernel, true, false, true, by decide +kernel, by decide +kernel, by decide +kernel⟩
          obtain ⟨rfl, hsc, k1, k2, b3, b4, b5, k3, k4, k5⟩ := kd
          refine q_wh (b := false) o (et_is (et_B (ev_isi2 (ev_var rfl) hy1 k1 k2)) rfl) (fun h => nomatch h) (fun _ H1 o => ?_)
          have hx1 := dp_mono o.e0 hx
          refine q_wh (b := false) o (et_is (et_or (et_test (ev_op (ev_isi (ev_var rfl) hx1 k3) (ev_isi (ev_var rfl) hx1 k3) (rv_neS (by cases b3 <;> rfl)))) fun _ => et_test (ev_op (ev_isi (ev_var rfl) hx1 k4) (ev_isi (ev_var rfl) hx1 k4) (rv_neS (by cases b4 <;> rfl)))) (by simp)) (fun h => nomatch h) (fun _ H1 o => ?_)
          have hx1 := dp_mono o.e0 hx
          exact s_rv o (v := .bl true) (ev_is (ev_andV (ev_op (ev_isi (ev_var rfl) hx1 k5) (ev_isi (ev_var rfl) hx1 k5) (rv_eqS (by cases b5 <;> rfl))) fun _ => ev_op (ev_var rfl) (ev_var rfl) (rv_eqS hsc)) (by simp)) fun H1 o => o.retV k (j := 0) rfl rfl
end
abbrev s_is_syllable : Stmt := topS 12
theorem sc_is_syllable : FnScope ["text", "sign"] ["text"] (defScope s_is_syllable) := ⟨rfl, rfl, rfl, by decide +kernel, rfl, by decide +kernel, by decide +kernel⟩
abbrev s_is_verse : Stmt := topS 13
theorem sc_is_verse : FnScope ["line", "text"] ["line"] (defScope s_is_verse) := ⟨rfl, rfl, rfl, by decide +kernel, rfl, by decide +kernel, by decide +kernel⟩
abbrev s_begins : Stmt := topS 14
theorem sc_begins : FnScope ["heard", "line"] ["heard", "line"] (defScope s_begins) := ⟨rfl, rfl, rfl, by decide +kernel, rfl, by decide +kernel, by decide +kernel⟩
abbrev s_alike : Stmt := topS 15
theorem sc_alike : FnScope ["one", "other"] ["one", "other"] (defScope s_alike) := ⟨rfl, rfl, rfl, by decide +kernel, rfl, by decide +kernel, by decide +kernel⟩
section
variable {P : Program} {w : World} {K : PySem.W.Frag} {mg : Str → Option Value} {base : Heap}
/-! ### texts and lists of texts -/
def LT : List Nat := ("abcdefghijklmnopqrstuvwxyz" : Str).cps.toList
def isSyl (s : Str) : Bool := (decide ((1 : Int) ≤ (s.length : Int)) && decide ((s.length : Int) ≤ 3)) && s.cps.toList.all fun c => decide (c ∈ LT)
def isVer (l : List Str) : Bool := (decide ((1 : Int) ≤ (l.length : Int)) && decide ((l.length : Int) ≤ 8)) && l.all isSyl
def begM (h l : List Str) : Bool := decide (l.take h.length = h)
def alikeM (a b : List Str) : Bool := begM a b || begM b a
def R_is_syllable : Rl := ⟨fun vs _ r => ∃ s : Str, vs = [.str s] ∧ s.length ≤ 1000 ∧ r = .ok (is (.bl (isSyl s))), fun _ h => h⟩
def inLT : V → Bool
  | .str s => s.cps.toList.all fun c => decide (c ∈ LT)
  | _ => false
theorem signs_in (z : Str) : (signs z).all inLT = z.cps.toList.all fun c => decide (c ∈ LT) := by
  unfold signs
  rw [List.all_map]
  congr 1
  funext c
  simp [inLT]
theorem ok_is_syllable (B : Bt mg) {t_LETTERS t_MOST_SIGNS : Tok} (c_LETTERS : mg "LETTERS" = some (.str "abcdefghijklmnopqrstuvwxyz" t_LETTERS)) (c_MOST_SIGNS : mg "MOST_SIGNS" = some (.int 3 t_MOST_SIGNS)) (D : Df K mg "is_syllable" s_is_syllable ["text"]) : Ok P w K mg base 1 "is_syllable" ["text"] (R_is_syllable.sp mg) := by
  refine D.ok sc_is_syllable (fun vs H Q E h => ?_) (fun f cdv A outer s H vs Q E hr h => ?_)
  · obtain ⟨r, ⟨s, rfl, _⟩, _⟩ := h
    rfl
  · obtain ⟨r, ⟨z, rfl, hz, rfl⟩, k⟩ := h
    refine ⟨_, (pss_one (ps_ret (pe_and (pe_chain op_le op_le pe_int (pe_callB (call_lenK K) (by rfl) B.len boot_b_len (pa_cons (pv 0) pa_nil)) (pe_glob (v := .int 3) (by rfl) c_MOST_SIGNS ⟨_, rfl⟩)) (pe_one (pe_callB (cr_allK K rfl) (by rfl) B.all boot_b_all (pa_cons (pe_lc (own := [("sign", 1)]) rfl sc_is_syllable.nd (pi_str (pv 0)) (blkOk_by (N := ["text", "sign"]) (sc := defScope s_is_syllable) (by decide +kernel)) (fun _ _ _ _ _ => (pg_name (i := 1) sc_is_syllable.nd rfl (.inl rfl))) (fun _ _ _ _ _ => pts_nil) (fun _ _ _ _ _ => (pe_cmpR (op_inK K (hu65 hr)) (pv 1) (pe_glob (v := .str "abcdefghijklmnopqrstuvwxyz") (by rfl) c_LETTERS ⟨_, rfl⟩) (by rfl)))) pa_nil)))))), ?_⟩
    refine s_rv (Own.one H) (ev_is (ev_andV (ev_chain ev_c (ev_cb (by wtm_at "ev") (rc_lenS (by omega))) ev_c) fun _ => ev_allX (fun x => [some (.str z), some x]) inLT (ei_strX (G := H) (ev_var rfl)) (Ex.refl _) (by rw [signs_len]; omega) (fun _ _ _ _ q => q) (fun _ => rfl) ?_) (by rw [signs_in]; rfl)) fun H1 o => o.retV k (j := 0) rfl rfl
    intro x H2 e2 hx
    obtain ⟨c, _, rfl⟩ := List.mem_map.mp hx
    exact ev_is (ev_op (ev_var rfl) ev_c rv_sign) (by simp [inLT, LT])
/-- a list of texts at p -/
def Ln (K : PySem.W.Frag) (H : Hp) (p : Addr) (l : List Str) : Prop := SqL K H p (l.map V.str) ∧ l.length ≤ 1000 ∧ ∀ s ∈ l, TxtOk s
theorem Ln.mono {H H' : Hp} {p : Addr} {l : List Str} (e : Ex H H') (h : Ln K H p l) : Ln K H' p l := ⟨ex_l e h.1, h.2⟩
def R_is_verse (K : PySem.W.Frag) : Rl := ⟨fun vs H r => ∃ (p : Addr) (l : List Str), vs = [.ref p] ∧ Ln K H p l ∧ r = .ok (is (.bl (isVer l))), fun e ⟨p, l, h1, h2, h3⟩ => ⟨p, l, h1, h2.mono e, h3⟩⟩
def sylV : V → Bool
  | .str s => isSyl s
  | _ => false
theorem ok_is_verse (B : Bt mg) {t_MOST_SYLLABLES : Tok} (c_MOST_SYLLABLES : mg "MOST_SYLLABLES" = some (.int 8 t_MOST_SYLLABLES)) (O_is_syllable : Ok P w K mg base 1 "is_syllable" ["text"] (R_is_syllable.sp mg)) (D : Df K mg "is_verse" s_is_verse ["line"]) : Ok P w K mg base 2 "is_verse" ["line"] ((R_is_verse K).sp mg) := by
  refine D.ok sc_is_verse (fun vs H Q E h => ?_) (fun f cdv A outer s H vs Q E hr h => ?_)
  · obtain ⟨r, ⟨p, l, rfl, _⟩, _⟩ := h
    rfl
  · obtain ⟨r, ⟨p, l, rfl, ⟨h1, hl, ht⟩, rfl⟩, k⟩ := h
    refine ⟨_, (pss_one (ps_ret (pe_and (pe_chain op_le op_le pe_int (pe_callB (call_lenK K) (by rfl) B.len boot_b_len (pa_cons (pv 0) pa_nil)) (pe_glob (v := .int 8) (by rfl) c_MOST_SYLLABLES ⟨_, rfl⟩)) (pe_one (pe_callB (cr_allK K rfl) (by rfl) B.all boot_b_all (pa_cons (pe_lc (own := [("text", 1)]) rfl sc_is_verse.nd (pi_listK K (pv 0)) (blkOk_by (N := ["line", "text"]) (sc := defScope s_is_verse) (by decide +kernel)) (fun _ _ _ _ _ => (pg_name (i := 1) sc_is_verse.nd rfl (.inl rfl))) (fun _ _ _ _ _ => pts_nil) (fun _ _ _ _ _ => (pe_callO O_is_syllable (hr.mono (by omega)) (by rfl) takes0 (pa_cons (pv 1) pa_nil)))) pa_nil)))))), ?_⟩
    refine s_rv (Own.one H) (ev_is (ev_andV (ev_chain ev_c (ev_cb (by wtm_at "ev") (rc_lenL h1)) ev_c) fun _ => ev_allX (fun x => [some (.ref p), some x]) sylV (ei_list (ev_var rfl) h1 (Ex.refl _)) (Ex.refl _) (by rw [List.length_map]; omega) (fun _ _ _ _ q => q) (fun _ => rfl) ?_) ?_) fun H1 o => o.retV k (j := 0) rfl rfl
    · intro x H2 e2 hx
      obtain ⟨z, hz, rfl⟩ := List.mem_map.mp hx
      exact ev_callO (S := R_is_syllable) (by wtm_at "ev") ⟨z, rfl, (ht z hz).1, rfl⟩
    · rw [List.length_map, List.all_map]
      rfl
theorem cut_line (l : List Str) (n : Nat) : cutV (l.map V.str) none (some (n : Int)) = (l.take n).map V.str := by rw [cutV_take, List.map_take]
def R_begins (K : PySem.W.Frag) : Rl := ⟨fun vs H r => ∃ (p q : Addr) (h l : List Str), vs = [.ref p, .ref q] ∧ Ln K H p h ∧ Ln K H q l ∧ r = .ok (is (.bl (begM h l))), fun e ⟨p, q, h, l, h1, h2, h3, h4⟩ => ⟨p, q, h, l, h1, h2.mono e, h3.mono e, h4⟩⟩
theorem ok_begins (B : Bt mg) (D : Df K mg "begins" s_begins ["heard", "line"]) : Ok P w K mg base 1 "begins" ["heard", "line"] ((R_begins K).sp mg) := by
  refine D.ok sc_begins (fun vs H Q E h => ?_) (fun f cdv A outer s H vs Q E hr h => ?_)
  · obtain ⟨r, ⟨p, q, h, l, rfl, _⟩, _⟩ := h
    rfl
  · obtain ⟨r, ⟨p, q, h, l, rfl, ⟨h1, hl, ht⟩, ⟨h2, hl2, ht2⟩, rfl⟩, k⟩ := h
    refine ⟨_, (pss_one (ps_ret (pe_cmpR (op_eqK K (hu65 hr)) (pe_slice (sl_K K) (pv 1) po_none (po_some (pe_callB (call_lenK K) (by rfl) B.len boot_b_len (pa_cons (pv 0) pa_nil)))) (pv 0) (nomark _)))), ?_⟩
    refine s_rv (Own.one H) (ev_op1 (ep_l (el_sl' (ev_var rfl) eo_none (eo_some (ev_cb (by wtm_at "ev") (rc_lenL h1))) h2)) (ev_var rfl) ?_) fun H1 o => o.retV k (j := 0) rfl rfl
    rintro v N H1 e i1 ⟨c, rfl, hc⟩
    rw [cut_line, List.length_map] at hc
    have z := rv_eqD (K := K) (H := H1) (dp_line.mpr ⟨c, rfl, sq_of (i1 _ _ hc)⟩) (dp_line.mpr ⟨p, rfl, ex_l e h1⟩) (shaped_line fun s hs => ht2 s (List.mem_of_mem_take hs)) (shaped_line ht)
    rw [eqv_line] at z
    exact z
def R_alike (K : PySem.W.Frag) : Rl := ⟨fun vs H r => ∃ (p q : Addr) (h l : List Str), vs = [.ref p, .ref q] ∧ Ln K H p h ∧ Ln K H q l ∧ r = .ok (is (.bl (alikeM h l))), fun e ⟨p, q, h, l, h1, h2, h3, h4⟩ => ⟨p, q, h, l, h1, h2.mono e, h3.mono e, h4⟩⟩
theorem ok_alike (B : Bt mg) (O_begins : Ok P w K mg base 1 "begins" ["heard", "line"] ((R_begins K).sp mg)) (D : Df K mg "alike" s_alike ["one", "other"]) : Ok P w K mg base 2 "alike" ["one", "other"] ((R_alike K).sp mg) := by
  refine D.ok sc_alike (fun vs H Q E h => ?_) (fun f cdv A outer s H vs Q E hr h => ?_)
  · obtain ⟨r, ⟨p, q, h, l, rfl, _⟩, _⟩ := h
    rfl
  · obtain ⟨r, ⟨p, q, h, l, rfl, h1, h2, rfl⟩, k⟩ := h
    refine ⟨_, (pss_one (ps_ret (pe_or (pe_callO O_begins (hr.mono (by omega)) (by rfl) (takes_of rfl rfl rfl rfl) (pa_cons (pv 0) (pa_cons (pv 1) pa_nil))) (pe_one (pe_callO O_begins (hr.mono (by omega)) (by rfl) (takes_of rfl rfl rfl rfl) (pa_cons (pv 1) (pa_cons (pv 0) pa_nil))))))), ?_⟩
    exact s_rv (Own.one H) (ev_orV (ev_callO (S := R_begins K) (by wtm_at "ev") ⟨p, q, h, l, rfl, h1, h2, rfl⟩) fun _ => ev_callO (S := R_begins K) (by wtm_at "ev") ⟨q, p, l, h, rfl, h2, h1, rfl⟩) fun H1 o => o.retV k (j := 0) rfl rfl
end
abbrev s_BadVersed__initd_ : Stmt := inClass (topS 4) 0
theorem sc_BadVersed__initd_ : FnScope ["self", "row"] ["self", "row"] (defScope s_BadVersed__initd_) := ⟨rfl, rfl, rfl, by decide +kernel, rfl, by decide +kernel, by decide +kernel⟩
abbrev s_Aliked__initd_ : Stmt := inClass (topS 5) 0
theorem sc_Aliked__initd_ : FnScope ["self", "one", "other"] ["self", "one", "other"] (defScope s_Aliked__initd_) := ⟨rfl, rfl, rfl, by decide +kernel, rfl, by decide +kernel, by decide +kernel⟩
abbrev s_need_verses : Stmt := topS 16
theorem sc_need_verses : FnScope ["verses", "row", "line", "other", "one"] ["verses"] (defScope s_need_verses) := ⟨rfl, rfl, rfl, by decide +kernel, rfl, by decide +kernel, by decide +kernel⟩
section
variable {P : Program} {w : World} {K : PySem.W.Frag} {mg : Str → Option Value} {base : Heap}
/-! ### what is refused of rows -/
def row1 (ls : List (List Str)) (i : Nat) : List Str := ls.getD i []
def badRow (ls : List (List Str)) : Option Nat := (List.range ls.length).find? fun i => !isVer (row1 ls i)
def badOne (ls : List (List Str)) (j : Nat) : Option Nat := (List.range j).find? fun i => alikeM (row1 ls i) (row1 ls j)
def badTwo (ls : List (List Str)) : Option Nat := (List.range ls.length).find? fun j => (badOne ls j).isSome
def needM (ls : List (List Str)) : Option (Str × List (Str × V)) :=
  if 1 ≤ ls.length ∧ ls.length ≤ 40 then
    match badRow ls with
    | some i => some ("BadVerse", [("row", .int (i : Nat))])
    | none => match badTwo ls with
      | some j => some ("Alike", [("other", .int (j : Nat)), ("one", .int (((badOne ls j).getD 0 : Nat)))])
      | none => none
  else some ("BadBook", [])
def needR (ls : List (List Str)) (P : Hp → V → Prop) : Res := match needM ls with
  | some (x, fs) => .err x fs
  | none => .ok P
/-- rows of texts at v -/
def Bk (K : PySem.W.Frag) (H : Hp) (v : Addr) (ls : List (List Str)) : Prop := Dp K H (.ref v) (eBook ls) ∧ ls.length ≤ 1000 ∧ ∀ l ∈ ls, l.length ≤ 1000 ∧ ∀ s ∈ l, TxtOk s
theorem Bk.mono {H H' : Hp} {v : Addr} {ls : List (List Str)} (e : Ex H H') (h : Bk K H v ls) : Bk K H' v ls := ⟨dp_mono e h.1, h.2⟩
theorem Bk.rows {H : Hp} {v : Addr} {ls : List (List Str)} (h : Bk K H v ls) : ∃ xs, SqL K H v xs ∧ Rows K H xs ls := by
  obtain ⟨q, xs, e, h1, h2⟩ := dp_book.mp h.1
  cases e
  exact ⟨xs, h1, h2⟩
theorem row1_get {ls : List (List Str)} {i : Nat} (h : i < ls.length) : ls[i]? = some (row1 ls i) := by
  unfold row1
  rw [List.getD_eq_getElem?_getD, List.getElem?_eq_getElem h]
  rfl
theorem row1_mem {ls : List (List Str)} {i : Nat} (h : i < ls.length) : row1 ls i ∈ ls := List.mem_of_getElem? (row1_get h)
/-- the i-th row, in whatever heap -/
theorem Bk.row {H : Hp} {v : Addr} {ls : List (List Str)} {xs : List V} {i : Nat} (h : Bk K H v ls) (r : Rows K H xs ls) (hi : i < ls.length) : ∃ q, xs[i]? = some (.ref q) ∧ Ln K H q (row1 ls i) := by
  obtain ⟨q, h1, h2⟩ := r.get (row1_get hi)
  exact ⟨q, h1, h2, h.2.2 _ (row1_mem hi)⟩
theorem okx_BadVerse {C : Addr} (T : OexC K C) (n1 : PySem.W.findIn K (.ref C) "row" = some none) {f : Addr} {fd : FuncData} (F : Fun K "__init__" "BadVerse.__init__" s_BadVersed__initd_ f fd) : FnOk P w K mg base (L2.CX P w) 1 f fd ["self", "row"] (spXi C ["row"]) := by
  refine F.okX sc_BadVersed__initd_ (fun vs H Q E h => ?_) (fun cdv A outer s H vs Q E hr h => ?_)
  · obtain ⟨a, us, G, rfl, hl, _⟩ := h
    simpa using hl
  · obtain ⟨a, us, G, rfl, hl, rfl, ha, k⟩ := h
    obtain ⟨y, rfl⟩ : ∃ y, us = [y] := by
      match us, hl with
      | [y], _ => exact ⟨y, rfl⟩
    refine ⟨_, (pss_one (ps_ostK K (pv 0) (pv 1))), ?_⟩
    refine ⟨y, rfl, .ref a, rfl, a, C, rfl, T, n1, .inl ⟨upd_same, fun dx hdx hne => ?_⟩⟩
    rw [upd_ne hne] at hdx
    exact k dx _ hdx hne upd_same (by rw [upd_ne hne, upd_same]; rfl) (fun b h1 h2 => by rw [upd_ne h1, upd_ne h2, upd_ne h1])
theorem okx_Alike {C : Addr} (T : OexC K C) (n1 : PySem.W.findIn K (.ref C) "one" = some none) (n2 : PySem.W.findIn K (.ref C) "other" = some none) {f : Addr} {fd : FuncData} (F : Fun K "__init__" "Alike.__init__" s_Aliked__initd_ f fd) : FnOk P w K mg base (L2.CX P w) 1 f fd ["self", "one", "other"] (spXi C ["one", "other"]) := by
  refine F.okX sc_Aliked__initd_ (fun vs H Q E h => ?_) (fun cdv A outer s H vs Q E hr h => ?_)
  · obtain ⟨a, us, G, rfl, hl, _⟩ := h
    simpa using hl
  · obtain ⟨a, us, G, rfl, hl, rfl, ha, k⟩ := h
    obtain ⟨y, z, rfl⟩ : ∃ y z, us = [y, z] := by
      match us, hl with
      | [y, z], _ => exact ⟨y, z, rfl⟩
    refine ⟨_, (pss_cons (ps_ostK K (pv 0) (pv 1))
      (pss_one (ps_ostK K (pv 0) (pv 2)))), ?_⟩
    refine ⟨y, rfl, .ref a, rfl, a, C, rfl, T, n1, .inl ⟨upd_same, fun dx hdx hne => ?_⟩⟩
    rw [upd_ne hne] at hdx
    refine ⟨z, rfl, .ref a, rfl, a, C, rfl, T, n2, .inr ⟨dx, [("one", y)], upd_same, by rw [upd_ne hne, upd_same], by show 1 ≤ 900; decide, ?_⟩⟩
    exact k dx _ hdx hne (by rw [upd_ne hne.symm, upd_same]) upd_same (fun b h1 h2 => by rw [upd_ne h2, upd_ne h1, upd_ne h2, upd_ne h1])
def R_need_verses (K : PySem.W.Frag) : Rl := ⟨fun vs H r => ∃ (v : Addr) (ls : List (List Str)), vs = [.ref v] ∧ Bk K H v ls ∧ r = needR ls (is .non), fun e ⟨v, ls, h1, h2, h3⟩ => ⟨v, ls, h1, h2.mono e, h3⟩⟩
theorem ok_need_verses (B : Bt mg) {t_MOST_VERSES : Tok} (c_MOST_VERSES : mg "MOST_VERSES" = some (.int 40 t_MOST_VERSES)) {C_BadBook C_BadVerse C_Alike : Addr} (X_BadBook : Xc K mg "BadBook" C_BadBook) (X_BadVerse : Xi P w K mg base "BadVerse" C_BadVerse ["row"]) (X_Alike : Xi P w K mg base "Alike" C_Alike ["one", "other"])
    (O_is_verse : Ok P w K mg base 2 "is_verse" ["line"] ((R_is_verse K).sp mg)) (O_alike : Ok P w K mg base 2 "alike" ["one", "other"] ((R_alike K).sp mg)) (D : Df K mg "need_verses" s_need_verses ["verses"]) : Ok P w K mg base 3 "need_verses" ["verses"] ((R_need_verses K).sp mg) := by
  refine D.ok sc_need_verses (fun vs H Q E h => ?_) (fun f cdv A outer s H vs Q E hr h => ?_)
  · obtain ⟨r, ⟨v, ls, rfl, _⟩, _⟩ := h
    rfl
  · obtain ⟨r, ⟨v, ls, rfl, hB, rfl⟩, k⟩ := h
    obtain ⟨xs, hS, hR⟩ := hB.rows
    have hlen := hR.len
    refine ⟨_, (pss_cons (ps_if (pt_not (pt_chain op_le op_le pe_int (pe_callB (call_lenK K) (by rfl) B.len boot_b_len (pa_cons (pv 0) pa_nil)) (pe_glob (v := .int 40) (by rfl) c_MOST_VERSES ⟨_, rfl⟩)))
        (pss_one (ps_raise rfl (takes_of rfl rfl rfl rfl) (pmk_ex X_BadBook (by rfl))))
        pss_nil)
      (pss_cons (ps_for (passes_of rfl) rfl (pi_enumK K (by rfl) B.enumerate (pa_cons (pv 0) pa_nil)) (pg_tupK K (n := 2) rfl (pgs_cons (pg_name (i := 1) sc_need_verses.nd rfl (.inl rfl)) (pgs_cons (pg_name (i := 2) sc_need_verses.nd rfl (.inl rfl)) pgs_nil)))
        (pss_one (ps_if (pt_not (pt_val (pe_callO O_is_verse (hr.mono (by omega)) (by rfl) (takes_of rfl rfl rfl rfl) (pa_cons (pv 2) pa_nil))))
          (pss_one (ps_raise rfl (takes_of rfl rfl rfl rfl) (pmk_exI X_BadVerse hr (by omega) (by rfl) (pa_cons (pv 1) pa_nil))))
          pss_nil)))
      (pss_one (ps_for (passes_of rfl) rfl (pi_range1 (by rfl) B.range (pa_cons (pe_callB (call_lenK K) (by rfl) B.len boot_b_len (pa_cons (pv 0) pa_nil)) pa_nil)) (pg_name (i := 3) sc_need_verses.nd rfl (.inl rfl))
        (pss_one (ps_for (passes_of rfl) rfl (pi_range1 (by rfl) B.range (pa_cons (pv 3) pa_nil)) (pg_name (i := 4) sc_need_verses.nd rfl (.inl rfl))
          (pss_one (ps_if (pt_val (pe_callO O_alike (hr.mono (by omega)) (by rfl) (takes_of rfl rfl rfl rfl) (pa_cons (pe_ix (ix_seqK K) (pv 0) (pv 4) (fun _ _ => rfl)) (pa_cons (pe_ix (ix_seqK K) (pv 0) (pv 3) (fun _ _ => rfl)) pa_nil))))
            (pss_one (ps_raise rfl (takes_of rfl rfl rfl rfl) (pmk_exI X_Alike hr (by omega) (by rfl) (pa_cons (pv 4) (pa_cons (pv 3) pa_nil)))))
            pss_nil)))))))), ?_⟩
    have hl2 := hB.2.1
    refine q_wh (Own.one H) (et_not (et_test (ev_chain ev_c (ev_cb (by wtm_at "ev") (rc_lenL hS)) ev_c))) (fun hb H1 o => ?_) (fun hb H1 o => ?_)
    · have hb : ¬ (1 ≤ ls.length ∧ ls.length ≤ 40) := by
        rw [hlen] at hb
        intro ⟨z1, z2⟩
        rw [decide_eq_true (show (1 : Int) ≤ ((ls.length : Nat) : Int) by omega), decide_eq_true (show ((ls.length : Nat) : Int) ≤ 40 by omega)] at hb
        cases hb
      have e : needR ls (is .non) = .err "BadBook" [] := by
        unfold needR needM
        rw [if_neg hb]
      rw [e] at k
      exact k H1 C_BadBook none (o.ix (i := 0) rfl) X_BadBook.g (.inl ⟨rfl, rfl⟩)
    · have hb : 1 ≤ ls.length ∧ ls.length ≤ 40 := by
        rw [hlen] at hb
        by_cases z1 : (1 : Int) ≤ ((ls.length : Nat) : Int)
        · by_cases z2 : ((ls.length : Nat) : Int) ≤ 40
          · omega
          · rw [decide_eq_false z2, Bool.and_false] at hb
            cases hb
        · rw [decide_eq_false z1, Bool.false_and] at hb
          cases hb
      -- the rows one by one
      refine q_for (G := H) o (ei_enum (by wtm_at "ev") hS o.e0) (fun i σ H' => ∃ y1 y2, σ = [some (.ref v), y1, y2, none, none] ∧ Own [H] H' ∧ ∀ j, j < i → isVer (row1 ls j) = true) (fun H1 o => ⟨_, _, rfl, o, fun j hj => absurd hj (Nat.not_lt_zero _)⟩) (fun i σ H' _ ⟨_, _, _, o, _⟩ => o.e0) ?_ ?_
      · rintro i x σ H1 H2 hi ⟨y1, y2, rfl, o, ha⟩ e ⟨T, y, rfl, hT, hy⟩
        obtain ⟨q, hq, hLn⟩ := hB.row hR (i := i) (by omega)
        rw [hq] at hy
        cases hy
        have o := o.mono e
        refine ⟨T, _, rfl, st_of hT, rfl, _, _, rfl, _, _, rfl, rfl, ?_⟩
        refine s_wh o (et_not (et_B (ev_callO (S := R_is_verse K) (vs := [.ref q]) (by wtm_at "ev") ⟨q, _, rfl, hLn.mono o.e0, rfl⟩))) (fun hb2 H3 o => ?_) (fun hb2 H3 o => ?_)
        · have hv : isVer (row1 ls i) = false := by simpa using hb2
          have er : badRow ls = some i := List.find?_range_eq_some.mpr ⟨by rw [hv]; rfl, List.mem_range.mpr (by omega), fun j hj => by rw [ha j hj]; rfl⟩
          have e : needR ls (is .non) = .err "BadVerse" [("row", .int (i : Nat))] := by
            unfold needR needM
            rw [if_pos hb, er]
          rw [e] at k
          exact raise_xi (j := 0) (vs := [.int (i : Nat)]) o rfl (by wtm_at "ev") rfl (by show 1 ≤ 1000; decide) (by decide) X_BadVerse.g k
        · have hv : isVer (row1 ls i) = true := by simpa using hb2
          exact ⟨_, _, rfl, o, fun j hj => by
            rcases Nat.lt_succ_iff_lt_or_eq.mp hj with z | z
            · exact ha j z
            · rw [z]; exact hv⟩
      · rintro σ H1 ⟨y1, y2, rfl, o, ha⟩
        have er : badRow ls = none := by
          unfold badRow
          rw [List.find?_range_eq_none]
          intro j hj
          rw [ha j (by rw [hlen]; exact hj)]
          rfl
        have hS1 := ex_l o.e0 hS
        refine s_forN (G := H) o (ei_rng1 (ea_cons (ev_cb (by wtm_at "ev") (rc_lenL hS1)) ea_nil) (by omega)) (fun i σ H' => ∃ y3 y4, σ = [some (.ref v), y1, y2, y3, y4] ∧ Own [H] H' ∧ ∀ j, j < i → badOne ls j = none) (fun H1 o => ⟨_, _, rfl, o, fun j hj => absurd hj (Nat.not_lt_zero _)⟩) (fun i σ H' _ ⟨_, _, _, o, _⟩ => o.e0) ?_ ?_
        · rintro j x σ H1 H2 hj ⟨y3, y4, rfl, o, hb1⟩ e rfl
          have hj : j < ls.length := by omega
          have o := o.mono e
          refine s_forN (G := H) o (ei_rng1 (by wtm_at "ev") (by omega)) (fun i σ H' => ∃ y4, σ = [some (.ref v), y1, y2, some (.int (j : Nat)), y4] ∧ Own [H] H' ∧ ∀ i', i' < i → alikeM (row1 ls i') (row1 ls j) = false) (fun H1 o => ⟨_, rfl, o, fun j hj => absurd hj (Nat.not_lt_zero _)⟩) (fun i σ H' _ ⟨_, _, o, _⟩ => o.e0) ?_ ?_
          · rintro i x σ H3 H4 hi ⟨y4, rfl, o, hb2⟩ e rfl
            have hi : i < j := by omega
            have o := o.mono e
            obtain ⟨q1, hq1, hL1⟩ := hB.row hR (i := i) (by omega)
            obtain ⟨q2, hq2, hL2⟩ := hB.row hR (i := j) (by omega)
            have a1 : atI xs ((i : Nat) : Int) = some (.ref q1) := atI_nat hq1
            have a2 : atI xs ((j : Nat) : Int) = some (.ref q2) := atI_nat hq2
            have ix1 : Ev (tOp (rIx K) (tVar 0) (tVar 4)) [some (.ref v), y1, y2, some (.int (j : Nat)), some (.int (i : Nat))] H4 (.ref q1) := ev_op (ev_var rfl) (ev_var rfl) (rv_ixLs (ex_l o.e0 hS) a1)
            have ix2 : Ev (tOp (rIx K) (tVar 0) (tVar 3)) [some (.ref v), y1, y2, some (.int (j : Nat)), some (.int (i : Nat))] H4 (.ref q2) := ev_op (ev_var rfl) (ev_var rfl) (rv_ixLs (ex_l o.e0 hS) a2)
            refine s_wh o (et_B (ev_callO (S := R_alike K) (vs := [.ref q1, .ref q2]) (ea_cons ix1 (ea_cons ix2 ea_nil)) ⟨q1, q2, _, _, rfl, hL1.mono o.e0, hL2.mono o.e0, rfl⟩)) (fun hb3 H5 o => ?_) (fun hb3 H5 o => ?_)
            · have e1 : badOne ls j = some i := List.find?_range_eq_some.mpr ⟨hb3, List.mem_range.mpr hi, fun i' hi' => by rw [hb2 i' hi']; rfl⟩
              have e2 : badTwo ls = some j := List.find?_range_eq_some.mpr ⟨by rw [e1]; rfl, List.mem_range.mpr hj, fun j' hj' => by rw [hb1 j' hj']; rfl⟩
              have e : needR ls (is .non) = .err "Alike" [("other", .int (j : Nat)), ("one", .int (i : Nat))] := by
                unfold needR needM
                rw [if_pos hb, er, e2]
                simp only [e1, Option.getD_some]
              rw [e] at k
              exact raise_xi (j := 0) (vs := [.int (i : Nat), .int (j : Nat)]) o rfl (by wtm_at "ev") rfl (by show 2 ≤ 1000; decide) (by decide) X_Alike.g k
            · exact ⟨_, rfl, o, fun i' hi' => by
                rcases Nat.lt_succ_iff_lt_or_eq.mp hi' with z | z
                · exact hb2 i' z
                · rw [z]; exact hb3⟩
          · rintro σ H3 ⟨y4, rfl, o, hb2⟩
            refine ⟨_, _, rfl, o, fun j' hj' => ?_⟩
            rcases Nat.lt_succ_iff_lt_or_eq.mp hj' with z | z
            · exact hb1 j' z
            · rw [z]
              unfold badOne
              rw [List.find?_range_eq_none]
              intro i hi
              rw [hb2 i (by omega)]
              rfl
        · rintro σ H1 ⟨y3, y4, rfl, o, hb1⟩
          have e2 : badTwo ls = none := by
            unfold badTwo
            rw [List.find?_range_eq_none]
            intro j hj
            rw [hb1 j (by omega)]
            rfl
          have e : needR ls (is .non) = .ok (is .non) := by
            unfold needR needM
            rw [if_pos hb, er, e2]
          rw [e] at k
          exact o.retV k (j := 0) rfl rfl
abbrev s_Bookd__initd_ : Stmt := inClass (topS 17) 0
theorem sc_Bookd__initd_ : FnScope ["self", "verses", "line"] ["self", "verses"] (defScope s_Bookd__initd_) := ⟨rfl, rfl, rfl, by decide +kernel, rfl, by decide +kernel, by decide +kernel⟩
abbrev s_Book_many : Stmt := inClass (topS 17) 1
theorem sc_Book_many : FnScope ["self"] ["self"] (defScope s_Book_many) := ⟨rfl, rfl, rfl, by decide +kernel, rfl, by decide +kernel, by decide +kernel⟩
abbrev s_Book_verse : Stmt := inClass (topS 17) 2
theorem sc_Book_verse : FnScope ["self", "number"] ["self", "number"] (defScope s_Book_verse) := ⟨rfl, rfl, rfl, by decide +kernel, rfl, by decide +kernel, by decide +kernel⟩
abbrev s_Book_verses : Stmt := inClass (topS 17) 3
theorem sc_Book_verses : FnScope ["self", "line"] ["self"] (defScope s_Book_verses) := ⟨rfl, rfl, rfl, by decide +kernel, rfl, by decide +kernel, by decide +kernel⟩
/-! ### books -/
/-- a book: its verses lie in lists of its own -/
def BookAt (K : PySem.W.Frag) (C : Addr) (H : Hp) (b : Addr) (ls : List (List Str)) : Prop := (∃ dx p, H b = some (.ins C dx [("lines", .ref p)]) ∧ Bk K H p ls) ∧ needM ls = none
theorem BookAt.mono {C : Addr} {H H' : Hp} {b : Addr} {ls : List (List Str)} (e : Ex H H') (h : BookAt K C H b ls) : BookAt K C H' b ls := by
  obtain ⟨⟨dx, p, h1, h2⟩, h3⟩ := h
  exact ⟨⟨dx, p, e _ _ h1, h2.mono e⟩, h3⟩
abbrev pBook (K : PySem.W.Frag) (C : Addr) (ls : List (List Str)) : Hp → V → Prop := fun N v => ∃ b, v = .ref b ∧ BookAt K C N b ls
/-- what the class of books has -/
structure TBook (K : PySem.W.Frag) (mg : Str → Option Value) (C : Addr) : Prop where
  cl : Cls K C
  g : mg "Book" = some (.ref C)
  n_lines : NoAttr K C "lines"
def R_Book (K : PySem.W.Frag) (C : Addr) : Rl := ⟨fun vs H r => ∃ (v : Addr) (ls : List (List Str)), vs = [.ref v] ∧ Bk K H v ls ∧ r = needR ls (pBook K C ls), fun e ⟨v, ls, h1, h2, h3⟩ => ⟨v, ls, h1, h2.mono e, h3⟩⟩
/-- a copy of rows: new lists -/
def Cells (N : Hp) (p : Addr) (ls : List (List Str)) : Prop := ∃ xs, N p = some (.lst xs) ∧ Paired (fun x l => ∃ q, x = V.ref q ∧ N q = some (.lst (l.map V.str))) xs ls
abbrev pRows (K : PySem.W.Frag) (ls : List (List Str)) : Hp → V → Prop := fun N v => ∃ p, v = .ref p ∧ Bk K N p ls ∧ Cells N p ls
theorem ep_list {σ : L2.St} {H : Hp} {te : TE} {p : Addr} {xs : List V} (h : Ev te σ H (.ref p)) (hs : SqL K H p xs ∨ SqT K H p xs) : EvP (tCB (rListS K) (tCons te tNil)) σ H (pLst xs) := fun H1 e Q q =>
  h H1 e _ fun H2 e2 => ⟨p, xs, rfl, hs.imp (ex_l (e.trans e2)) (ex_t (e.trans e2)), fun l hl => q (.ref l) _ (sing l (.lst xs)) (e2.trans (Ex.new hl)) (sing_ex upd_same) (sing_fr (fresh_back e2 hl)) ⟨l, rfl, sing_at⟩⟩
/-- [list(line) for line in rows]; S: the slots with the row at hand -/
theorem ep_copy {σ : L2.St} {H : Hp} {tl : TE} {p : Addr} {ls : List (List Str)} {j : Nat} {vs : List Nat} (S : V → L2.St) (h : Ev tl σ H (.ref p)) (hB : Bk K H p ls) (hg : ∀ x, (wipe σ vs).set j (some x) = S x) (hw : ∀ x, wipe (S x) vs = wipe σ vs) (hj : ∀ x, (S x)[j]? = some (some x)) :
    EvP (tLc (iList K tl) (gName j) tYes (tCB (rListS K) (tCons (tVar j) tNil)) vs) σ H (pRows K ls) := by
  obtain ⟨xs, hS, hR⟩ := hB.rows
  have hl := hR.len
  have hl2 := hB.2.1
  refine ep_imp (ep_lc (n := xs.length) (fun i => S (xs.getD i .non)) (fun _ => true) (fun i N y => ∃ p, y = .ref p ∧ N p = some (.lst ((row1 ls i).map V.str))) (fun i N N' v e ⟨p, h3, h4⟩ => ⟨p, h3, e _ _ h4⟩) (ei_list h hS (Ex.refl _)) (Ex.refl _) (by omega) (fun i x H' _ hx Q q => by rw [getD_of hx, ← hg] at q; exact q) (fun _ _ => hw _) (fun _ _ _ _ => et_yes) (fun i H1 e hlt _ => ?_)) ?_
  · obtain ⟨q, hq, hL⟩ := hB.row hR (i := i) (by omega)
    rw [getD_of hq]
    exact ep_list (ev_var (hj _)) (.inl (ex_l e hL.1))
  · rintro N v ⟨p', ys, rfl, hp, hpr⟩
    rw [picks_all] at hpr
    have hly := Paired.length hpr
    rw [List.length_range] at hly
    suffices z : Paired (fun x l => ∃ q, x = V.ref q ∧ N q = some (.lst (l.map V.str))) ys ls by
      exact ⟨p', rfl, ⟨dp_book.mpr ⟨p', ys, rfl, sq_of hp, paired_imp (fun _ _ ⟨q, h1, h2⟩ => ⟨q, h1, sq_of h2⟩) z⟩, hB.2⟩, ys, hp, z⟩
    refine paired_of (by omega) fun i y l h1 h2 => ?_
    have hi : i < ls.length := (List.getElem?_eq_some_iff.mp h2).1
    obtain ⟨y', h3, p, h4, h5⟩ := paired_get hpr (i := i) (x := i) (List.getElem?_range (by omega))
    rw [h1] at h3
    cases h3
    rw [row1_get hi] at h2
    cases h2
    exact ⟨p, h4, h5⟩
theorem ok_Bookd__initd_ (B : Bt mg) {C_Book : Addr} (T : TBook K mg C_Book) (O_need_verses : Ok P w K mg base 3 "need_verses" ["verses"] ((R_need_verses K).sp mg)) (D : Dm K C_Book "__init__" "Book.__init__" s_Bookd__initd_ ["self", "verses"]) : OkM P w K mg base 4 C_Book "__init__" ["self", "verses"] ((R_Book K C_Book).spI mg C_Book) := by
  refine D.ok sc_Bookd__initd_ (fun vs H Q E h => ?_) (fun f cdv A outer s H vs Q E hr h => ?_)
  · obtain ⟨x, dx, us, G, r, rfl, _, _, _, _, ⟨v, ls, rfl, _⟩, _⟩ := h
    rfl
  · obtain ⟨x, dx, us, G, r, rfl, rfl, hx, hdx, hne, ⟨v, ls, rfl, hB, rfl⟩, k⟩ := h
    refine ⟨_, (pss_cons (ps_expr (pe_callO O_need_verses (hr.mono (by omega)) (by rfl) (takes_of rfl rfl rfl rfl) (pa_cons (pv 1) pa_nil)))
      (pss_one (ps_fldK K (pv 0) (pe_lc (own := [("line", 2)]) rfl sc_Bookd__initd_.nd (pi_listK K (pv 1)) (blkOk_by (N := ["self", "verses", "line"]) (sc := defScope s_Bookd__initd_) (by decide +kernel)) (fun _ _ _ _ _ => (pg_name (i := 2) sc_Bookd__initd_.nd rfl (.inl rfl))) (fun _ _ _ _ _ => pts_nil) (fun _ _ _ _ _ => (pe_callTy (call_listK K) (by rfl) B.list boot_ty_list (pa_cons (pv 2) pa_nil))))))), ?_⟩
    have o : Own [sing x (.ins C_Book dx []), G] _ := own_init hx hdx hne
    cases hn : needM ls with
    | some z =>
      obtain ⟨xn, fs⟩ := z
      have e : needR ls (pBook K C_Book ls) = .err xn fs := by unfold needR; rw [hn]
      rw [e] at k
      exact q_der (er_call (S := R_need_verses K) (by wtm_at "ev") ⟨v, ls, rfl, hB.mono o.e1, by unfold needR; rw [hn]⟩) (k.fwd o.e1)
    | none =>
      have e : needR ls (pBook K C_Book ls) = .ok (pBook K C_Book ls) := by unfold needR; rw [hn]
      rw [e] at k
      refine q_dv o (ep_call (S := R_need_verses K) (P := is .non) (by wtm_at "ev") ⟨v, ls, rfl, hB.mono o.e1, by unfold needR; rw [hn]⟩) fun H1 o => ?_
      refine s_fld (j := 0) o rfl (ev_var rfl) (ep_copy (fun x' => [some (.ref x), some (.ref v), some x']) (ev_var rfl) (hB.mono o.e1) (fun _ => rfl) (fun _ => rfl) (fun _ => rfl)) T.cl T.n_lines (by show 0 < 1000; decide) fun v2 H1 N o hp => ?_
      obtain ⟨p, rfl, hp, _⟩ := hp
      have o : Own [N, sing x (.ins C_Book dx [("lines", .ref p)]), G] H1 := o
      exact k H1 (uni (sing x (.ins C_Book dx [("lines", .ref p)])) N) o.e2 o.merge.e0 (o.merge.dj (i := 0) (j := 1) (by decide) rfl rfl) ⟨x, rfl, ⟨dx, p, uni_l (o.dj (i := 0) (j := 1) (by decide) rfl rfl) _ _ sing_at, hp.mono uni_r⟩, hn⟩
end
section
variable {P : Program} {w : World} {K : PySem.W.Frag} {mg : Str → Option Value} {base : Heap}
abbrev pLine (l : List Str) : Hp → V → Prop := pLst (l.map V.str)
def R_Book_many (K : PySem.W.Frag) (C : Addr) : Rl := ⟨fun vs H r => ∃ (b : Addr) (ls : List (List Str)), vs = [.ref b] ∧ BookAt K C H b ls ∧ r = .ok (is (.int (ls.length : Nat))), fun e ⟨b, ls, h1, h2, h3⟩ => ⟨b, ls, h1, h2.mono e, h3⟩⟩
theorem ok_Book_many (B : Bt mg) {C_Book : Addr} (T : TBook K mg C_Book) (D : Dm K C_Book "many" "Book.many" s_Book_many ["self"]) : OkM P w K mg base 1 C_Book "many" ["self"] ((R_Book_many K C_Book).sp mg) := by
  refine D.ok sc_Book_many (fun vs H Q E h => ?_) (fun f cdv A outer s H vs Q E hr h => ?_)
  · obtain ⟨r, ⟨b, ls, rfl, _⟩, _⟩ := h
    rfl
  · obtain ⟨r, ⟨b, ls, rfl, ⟨⟨dx, p, hb, hB⟩, hn⟩, rfl⟩, k⟩ := h
    refine ⟨_, (pss_one (ps_ret (pe_callB (call_lenK K) (by rfl) B.len boot_b_len (pa_cons (pe_fldK K (pv 0)) pa_nil)))), ?_⟩
    obtain ⟨xs, hS, hR⟩ := hB.rows
    refine s_rv (Own.one H) (ev_cb (ea_cons (ev_fld (ev_var rfl) hb T.cl T.n_lines rfl) ea_nil) (rc_lenL hS)) fun H1 o => o.retV k (j := 0) rfl ?_
    rw [hR.len]
def verseR (ls : List (List Str)) (i : Int) : Res := if 0 ≤ i ∧ i < ls.length then .ok (pLine (row1 ls i.toNat)) else .err "NoVerse" []
def R_Book_verse (K : PySem.W.Frag) (C : Addr) : Rl := ⟨fun vs H r => ∃ (b : Addr) (ls : List (List Str)) (i : Int), vs = [.ref b, .int i] ∧ BookAt K C H b ls ∧ r = verseR ls i, fun e ⟨b, ls, i, h1, h2, h3⟩ => ⟨b, ls, i, h1, h2.mono e, h3⟩⟩
theorem ok_Book_verse (B : Bt mg) {C_Book C_NoVerse : Addr} (T : TBook K mg C_Book) (X_NoVerse : Xc K mg "NoVerse" C_NoVerse) (D : Dm K C_Book "verse" "Book.verse" s_Book_verse ["self", "number"]) : OkM P w K mg base 1 C_Book "verse" ["self", "number"] ((R_Book_verse K C_Book).sp mg) := by
  refine D.ok sc_Book_verse (fun vs H Q E h => ?_) (fun f cdv A outer s H vs Q E hr h => ?_)
  · obtain ⟨r, ⟨b, ls, i, rfl, _⟩, _⟩ := h
    rfl
  · obtain ⟨r, ⟨b, ls, i, rfl, ⟨⟨dx, p, hb, hB⟩, hn⟩, rfl⟩, k⟩ := h
    refine ⟨_, (pss_cons (ps_if (pt_not (pt_chain op_le op_lt pe_int (pv 1) (pe_callB (call_lenK K) (by rfl) B.len boot_b_len (pa_cons (pe_fldK K (pv 0)) pa_nil))))
        (pss_one (ps_raise rfl (takes_of rfl rfl rfl rfl) (pmk_ex X_NoVerse (by rfl))))
        pss_nil)
      (pss_one (ps_ret (pe_callTy (call_listK K) (by rfl) B.list boot_ty_list (pa_cons (pe_ix (ix_seqK K) (pe_fldK K (pv 0)) (pv 1) (fun _ _ => rfl)) pa_nil))))), ?_⟩
    obtain ⟨xs, hS, hR⟩ := hB.rows
    have hl := hR.len
    refine q_wh (Own.one H) (et_not (et_test (ev_chain ev_c (ev_var rfl) (ev_cb (ea_cons (ev_fld (ev_var rfl) hb T.cl T.n_lines rfl) ea_nil) (rc_lenL hS))))) (fun h0 H1 o => ?_) (fun h0 H1 o => ?_)
    · have h0 : ¬ (0 ≤ i ∧ i < ls.length) := fun ⟨z1, z2⟩ => by
        rw [hl, decide_eq_true z1, decide_eq_true z2] at h0
        cases h0
      unfold verseR at k
      rw [if_neg h0] at k
      exact k H1 C_NoVerse none (o.ix (i := 0) rfl) X_NoVerse.g (.inl ⟨rfl, rfl⟩)
    · have h0 : 0 ≤ i ∧ i < ls.length := by
        rw [hl] at h0
        by_cases z1 : 0 ≤ i
        · by_cases z2 : i < ls.length
          · exact ⟨z1, z2⟩
          · rw [decide_eq_false z2, Bool.and_false] at h0
            cases h0
        · rw [decide_eq_false z1, Bool.false_and] at h0
          cases h0
      unfold verseR at k
      rw [if_pos h0] at k
      obtain ⟨n, rfl⟩ : ∃ n : Nat, i = n := ⟨i.toNat, by omega⟩
      obtain ⟨q, hq, hL⟩ := hB.row hR (i := n) (by omega)
      refine s_rn o (ep_list (K := K) (ev_op (ev_fld (ev_var rfl) (o.e0 _ _ hb) T.cl T.n_lines rfl) (ev_var rfl) (rv_ixLs (ex_l o.e0 hS) (atI_nat hq))) (.inl (ex_l o.e0 hL.1))) fun v H1 N o p => o.ret k (i := 0) (j := 1) rfl rfl p
def R_Book_verses (K : PySem.W.Frag) (C : Addr) : Rl := ⟨fun vs H r => ∃ (b : Addr) (ls : List (List Str)), vs = [.ref b] ∧ BookAt K C H b ls ∧ r = .ok (pRows K ls), fun e ⟨b, ls, h1, h2, h3⟩ => ⟨b, ls, h1, h2.mono e, h3⟩⟩
theorem ok_Book_verses (B : Bt mg) {C_Book : Addr} (T : TBook K mg C_Book) (D : Dm K C_Book "verses" "Book.verses" s_Book_verses ["self"]) : OkM P w K mg base 1 C_Book "verses" ["self"] ((R_Book_verses K C_Book).sp mg) := by
  refine D.ok sc_Book_verses (fun vs H Q E h => ?_) (fun f cdv A outer s H vs Q E hr h => ?_)
  · obtain ⟨r, ⟨b, ls, rfl, _⟩, _⟩ := h
    rfl
  · obtain ⟨r, ⟨b, ls, rfl, ⟨⟨dx, p, hb, hB⟩, hn⟩, rfl⟩, k⟩ := h
    refine ⟨_, (pss_one (ps_ret (pe_lc (own := [("line", 1)]) rfl sc_Book_verses.nd (pi_listK K (pe_fldK K (pv 0))) (blkOk_by (N := ["self", "line"]) (sc := defScope s_Book_verses) (by decide +kernel)) (fun _ _ _ _ _ => (pg_name (i := 1) sc_Book_verses.nd rfl (.inl rfl))) (fun _ _ _ _ _ => pts_nil) (fun _ _ _ _ _ => (pe_callTy (call_listK K) (by rfl) B.list boot_ty_list (pa_cons (pv 1) pa_nil)))))), ?_⟩
    exact s_rn (Own.one H) (ep_copy (fun x => [some (.ref b), some x]) (ev_fld (ev_var rfl) hb T.cl T.n_lines rfl) hB (fun _ => rfl) (fun _ => rfl) (fun _ => rfl)) fun v H1 N o p => o.ret k (i := 0) (j := 1) rfl rfl p
end
abbrev s__law_sound : Stmt := topS 25
theorem sc__law_sound : FnScope ["_law_number", "_law_letters", "_law_k"] ["_law_number"] (defScope s__law_sound) := ⟨rfl, rfl, rfl, by decide +kernel, rfl, by decide +kernel, by decide +kernel⟩
abbrev s__law_pool : Stmt := topS 26
theorem sc__law_pool : FnScope ["_law_d", "_law_k"] ["_law_d"] (defScope s__law_pool) := ⟨rfl, rfl, rfl, by decide +kernel, rfl, by decide +kernel, by decide +kernel⟩
abbrev s__law_alike : Stmt := topS 27
theorem sc__law_alike : FnScope ["_law_one", "_law_other", "_law_size"] ["_law_one", "_law_other"] (defScope s__law_alike) := ⟨rfl, rfl, rfl, by decide +kernel, rfl, by decide +kernel, by decide +kernel⟩
section
variable {P : Program} {w : World} {K : PySem.W.Frag} {mg : Str → Option Value} {base : Heap}
theorem LT_lt {c : Nat} (h : c ∈ LT) : c < 128 := by
  have z : LT.all (fun c => decide (c < 128)) = true := by decide +kernel
  exact of_decide_eq_true (List.all_eq_true.mp z c h)
theorem syl_ok {s : Str} (h : isSyl s = true) : TxtOk s := by
  unfold isSyl at h
  simp only [Bool.and_eq_true, decide_eq_true_eq, List.all_eq_true] at h
  exact ⟨by omega, fun c hc => LT_lt (h.2 c hc)⟩
theorem join1 (a : Nat) : Txt.join ("" : Str) [⟨#[a]⟩] = ⟨#[a]⟩ := by rw [TL.join_eq]; rfl
theorem join2 (a b : Nat) : Txt.join ("" : Str) [⟨#[a]⟩, ⟨#[b]⟩] = ⟨#[a, b]⟩ := by rw [TL.join_eq]; rfl
theorem join3 (a b c : Nat) : Txt.join ("" : Str) [⟨#[a]⟩, ⟨#[b]⟩, ⟨#[c]⟩] = ⟨#[a, b, c]⟩ := by rw [TL.join_eq]; rfl
abbrev pStr (C : Str → Prop) : Hp → V → Prop := fun _ v => ∃ s, v = .str s ∧ C s
def R__law_sound : Rl := ⟨fun vs _ r => ∃ n : Int, vs = [.int n] ∧ 0 ≤ n ∧ n < 10000 ∧ r = .ok (pStr fun s => isSyl s = true), fun _ h => h⟩
def soundC (n : Int) (k : Int) : Nat := LT.getD ((n / 3 + k * (n / 79)) % 26).toNat 0
theorem sound_at (n k : Int) : atI LT ((n / 3 + k * (n / 79)) % 26) = some (soundC n k) ∧ soundC n k ∈ LT := by
  have h0 : 0 ≤ (n / 3 + k * (n / 79)) % 26 := Int.emod_nonneg _ (by decide)
  have h1 : (n / 3 + k * (n / 79)) % 26 < 26 := Int.emod_lt_of_pos _ (by decide)
  unfold soundC
  generalize (n / 3 + k * (n / 79)) % 26 = z at *
  obtain ⟨m, rfl⟩ : ∃ m : Nat, z = m := ⟨z.toNat, by omega⟩
  have hl : LT.length = 26 := by decide +kernel
  have hm : m < LT.length := by omega
  have e : LT.getD m 0 = LT[m] := by rw [List.getD_eq_getElem?_getD, List.getElem?_eq_getElem hm]; rfl
  rw [show ((m : Nat) : Int).toNat = m from rfl, e]
  exact ⟨atI_nat (List.getElem?_eq_getElem hm), List.getElem_mem hm⟩
theorem isSyl_of {l : List Nat} (h1 : 1 ≤ l.length) (h3 : l.length ≤ 3) (h : ∀ c ∈ l, c ∈ LT) : isSyl ⟨l.toArray⟩ = true := by
  unfold isSyl
  have e : (⟨l.toArray⟩ : Str).length = l.length := by simp [Str.length]
  rw [e]
  simp only [Bool.and_eq_true, decide_eq_true_eq, List.all_eq_true]
  exact ⟨⟨by omega, by omega⟩, fun c hc => h c (by simpa using hc)⟩
theorem mt_join_ev {σ : L2.St} {H : Hp} {te : TE} {ys : List Str} {a : Str} (h : EvL te σ H (ys.map V.str)) (hz : (ys.map (·.length)).sum + ys.length * a.length ≤ 16777216) : Ev (tBM K "str" (rJoin K) (tC (.str a)) (tCons te tNil)) σ H (.str (Txt.join a ys)) := fun H1 e Q q =>
  ⟨rfl, h H1 e _ fun p H2 hp e2 h2 => ⟨a, p, ys, rfl, rfl, .inl (sq_of h2), hz, q H2 e2⟩⟩
theorem ok__law_sound (B : Bt mg) (D : Df K mg "_law_sound" s__law_sound ["_law_number"]) : Ok P w K mg base 1 "_law_sound" ["_law_number"] (R__law_sound.sp mg) := by
  refine D.ok sc__law_sound (fun vs H Q E h => ?_) (fun f cdv A outer s H vs Q E hr h => ?_)
  · obtain ⟨r, ⟨n, rfl, _⟩, _⟩ := h
    rfl
  · obtain ⟨r, ⟨n, rfl, h0, h1, rfl⟩, k⟩ := h
    refine ⟨_, (pss_cons (ps_set (i := 1) sc__law_sound.nd rfl (.inr rfl) pe_str)
      (pss_one (ps_ret (pe_bmK K PySem.F.plainAttrs_str PySem.F.slot_str_join PySem.F.type_str_join (mt_joinK K) pe_str (pa_cons (pe_lc (own := [("_law_k", 2)]) rfl sc__law_sound.nd (pi_range1 (by rfl) B.range (pa_cons (pe_op (op_addK K) pe_int (pe_op op_mod (pv 0) pe_int)) pa_nil)) (blkOk_by (N := ["_law_number", "_law_letters", "_law_k"]) (sc := defScope s__law_sound) (by decide +kernel)) (fun _ _ _ _ _ => (pg_name (i := 2) sc__law_sound.nd rfl (.inl rfl))) (fun _ _ _ _ _ => pts_nil) (fun _ _ _ _ _ => (pe_ix (ix_seqK K) (pv 1) (pe_op op_mod (pe_op (op_addK K) (pe_op op_fdiv (pv 0) pe_int) (pe_op op_mulU (pv 2) (pe_op op_fdiv (pv 0) pe_int))) pe_int) (fun _ _ => rfl)))) pa_nil))))), ?_⟩
    refine q_v (Own.one H) ev_c fun H1 o => ?_
    have hnn : -100 ≤ n / 79 ∧ n / 79 ≤ 1000 := by omega
    have hm : n % 3 = 0 ∨ n % 3 = 1 ∨ n % 3 = 2 := by omega
    have fin : isSyl (Txt.join ("" : Str) ((List.range (1 + n % 3).toNat).map fun i => (⟨#[soundC n (i : Nat)]⟩ : Str))) = true ∧ (((List.range (1 + n % 3).toNat).map fun i => (⟨#[soundC n (i : Nat)]⟩ : Str)).map (·.length)).sum ≤ 3 ∧ ((List.range (1 + n % 3).toNat).map fun i => (⟨#[soundC n (i : Nat)]⟩ : Str)).length ≤ 3 := by
      have m : ∀ k : Int, soundC n k ∈ LT := fun k => (sound_at n k).2
      rcases hm with hm | hm | hm
      · rw [hm]
        refine ⟨?_, Nat.le_of_ble_eq_true rfl, Nat.le_of_ble_eq_true rfl⟩
        show isSyl (Txt.join ("" : Str) [⟨#[soundC n 0]⟩]) = true
        rw [join1]
        exact isSyl_of (l := [_]) (Nat.le_of_ble_eq_true rfl) (Nat.le_of_ble_eq_true rfl) (by simp [m])
      · rw [hm]
        refine ⟨?_, Nat.le_of_ble_eq_true rfl, Nat.le_of_ble_eq_true rfl⟩
        show isSyl (Txt.join ("" : Str) [⟨#[soundC n 0]⟩, ⟨#[soundC n 1]⟩]) = true
        rw [join2]
        exact isSyl_of (l := [_, _]) (Nat.le_of_ble_eq_true rfl) (Nat.le_of_ble_eq_true rfl) (by simp [m])
      · rw [hm]
        refine ⟨?_, Nat.le_of_ble_eq_true rfl, Nat.le_of_ble_eq_true rfl⟩
        show isSyl (Txt.join ("" : Str) [⟨#[soundC n 0]⟩, ⟨#[soundC n 1]⟩, ⟨#[soundC n 2]⟩]) = true
        rw [join3]
        exact isSyl_of (l := [_, _, _]) (Nat.le_of_ble_eq_true rfl) (Nat.le_of_ble_eq_true rfl) (by simp [m])
    refine s_rv o (mt_join_ev (ys := (List.range (1 + n % 3).toNat).map fun i => (⟨#[soundC n (i : Nat)]⟩ : Str)) (el_is (el_lcX (fun x => [some (.int n), some (.str "abcdefghijklmnopqrstuvwxyz"), some x]) (fun _ => true) (fun x => match x with | .int i => .str ⟨#[soundC n i]⟩ | _ => .non) (ei_rngX (G := H1) (by wtm_at "ev") (by omega)) (Ex.refl _) (by rw [rngV_len]; omega) (fun _ _ _ _ q => q) (fun _ => rfl) (fun _ _ _ _ => et_yes) ?_) ?_) ?_) fun H1 o => o.retV k (j := 0) rfl ⟨_, rfl, fin.1⟩
    · intro x H2 e2 hx _
      obtain ⟨i, hi, rfl⟩ := List.mem_map.mp hx
      have hi := List.mem_range.mp hi
      exact ev_op (ev_var rfl) (by wtm_at "ev") (rv_ixSs (by decide) (sound_at n (i : Nat)).1)
    · rw [filter_all]
      unfold rngV
      rw [List.map_map, List.map_map]
      rfl
    · have h2 := fin.2.1
      have h3 : ("" : Str).length = 0 := by decide +kernel
      rw [h3]
      omega
/-- drawn numbers at p -/
def Nm (K : PySem.W.Frag) (H : Hp) (p : Addr) (ns : List Int) : Prop := SqL K H p (ns.map V.int) ∧ ∀ n ∈ ns, 0 ≤ n ∧ n < 9967
theorem Nm.mono {H H' : Hp} {p : Addr} {ns : List Int} (e : Ex H H') (h : Nm K H p ns) : Nm K H' p ns := ⟨ex_l e h.1, h.2⟩
theorem strs_of {C : Str → Prop} {α : Type} : ∀ {xs : List α} {ys : List V}, Paired (fun _ y => ∃ s, y = V.str s ∧ C s) xs ys → ∃ l : List Str, ys = l.map V.str ∧ l.length = xs.length ∧ ∀ s ∈ l, C s
  | _, _, .nil => ⟨[], rfl, rfl, fun _ h => nomatch h⟩
  | _, _, .cons ⟨s, e, h⟩ r => by
    obtain ⟨l, e2, h2, h3⟩ := strs_of r
    subst e e2
    exact ⟨s :: l, rfl, by simp [h2], fun t ht => by
      rcases List.mem_cons.mp ht with z | z
      · rw [z]; exact h
      · exact h3 t z⟩
abbrev pPool (n : Nat) : Hp → V → Prop := fun N v => ∃ (p : Addr) (l : List Str), v = .ref p ∧ N p = some (.lst (l.map V.str)) ∧ l.length = n ∧ ∀ s ∈ l, isSyl s = true
def R__law_pool (K : PySem.W.Frag) : Rl := ⟨fun vs H r => ∃ (p : Addr) (ns : List Int), vs = [.ref p] ∧ Nm K H p ns ∧ 7 ≤ ns.length ∧ r = .ok (pPool 6), fun e ⟨p, ns, h1, h2, h3⟩ => ⟨p, ns, h1, h2.mono e, h3⟩⟩
theorem atI_map {ns : List Int} {j : Nat} (h : j < ns.length) : atI (ns.map V.int) (j : Int) = some (V.int ns[j]) := atI_nat (by rw [List.getElem?_map, List.getElem?_eq_getElem h]; rfl)
theorem ok__law_pool (B : Bt mg) (O__law_sound : Ok P w K mg base 1 "_law_sound" ["_law_number"] (R__law_sound.sp mg)) (D : Df K mg "_law_pool" s__law_pool ["_law_d"]) : Ok P w K mg base 2 "_law_pool" ["_law_d"] ((R__law_pool K).sp mg) := by
  refine D.ok sc__law_pool (fun vs H Q E h => ?_) (fun f cdv A outer s H vs Q E hr h => ?_)
  · obtain ⟨r, ⟨p, ns, rfl, _⟩, _⟩ := h
    rfl
  · obtain ⟨r, ⟨p, ns, rfl, ⟨hS, hall⟩, hl, rfl⟩, k⟩ := h
    refine ⟨_, (pss_cons (ps_if (pt_cmpR (op_eqK K (hu65 hr)) (pe_op op_mod (pe_ix (ix_seqK K) (pv 0) pe_int (fun _ _ => rfl)) pe_int) pe_int (nomark _))
        (pss_one (ps_ret (pe_lst (pa_cons pe_str (pa_cons pe_str (pa_cons pe_str (pa_cons pe_str (pa_cons pe_str (pa_cons pe_str pa_nil)))))))))
        pss_nil)
      (pss_cons (ps_if (pt_cmpR (op_eqK K (hu65 hr)) (pe_op op_mod (pe_ix (ix_seqK K) (pv 0) pe_int (fun _ _ => rfl)) pe_int) pe_int (nomark _))
        (pss_one (ps_ret (pe_lst (pa_cons pe_str (pa_cons pe_str (pa_cons pe_str (pa_cons pe_str (pa_cons pe_str (pa_cons pe_str pa_nil)))))))))
        pss_nil)
      (pss_one (ps_ret (pe_lc (own := [("_law_k", 1)]) rfl sc__law_pool.nd (pi_range2 (by rfl) B.range (pa_cons pe_int (pa_cons pe_int pa_nil))) (blkOk_by (N := ["_law_d", "_law_k"]) (sc := defScope s__law_pool) (by decide +kernel)) (fun _ _ _ _ _ => (pg_name (i := 1) sc__law_pool.nd rfl (.inl rfl))) (fun _ _ _ _ _ => pts_nil) (fun _ _ _ _ _ => (pe_callO O__law_sound (hr.mono (by omega)) (by rfl) takes0 (pa_cons (pe_ix (ix_seqK K) (pv 0) (pv 1) (fun _ _ => rfl)) pa_nil)))))))), ?_⟩
    have a0 := atI_map (ns := ns) (j := 0) (by omega)
    refine q_wh (Own.one H) (by wtm_at "ev") (fun hb H1 o => ?_) (fun hb H1 o => ?_)
    · exact s_rn o (ep_lst (by wtm_at "ev")) fun v H1 N o ⟨q, e, hq⟩ => o.ret k (i := 0) (j := 1) rfl rfl ⟨q, ["a", "b", "ab", "ba", "aa", "bab"], e, hq, rfl, by decide +kernel⟩
    · refine q_wh o (by wtm_at "ev") (fun hb H1 o => ?_) (fun hb H1 o => ?_)
      · exact s_rn o (ep_lst (by wtm_at "ev")) fun v H1 N o ⟨q, e, hq⟩ => o.ret k (i := 0) (j := 1) rfl rfl ⟨q, ["ka", "ki", "k", "i", "kik", "ma"], e, hq, rfl, by decide +kernel⟩
      · refine s_rn o (ep_lcX (fun x => [some (.ref p), some x]) (fun _ => true) (fun x N v => ∃ s, v = .str s ∧ isSyl s = true) (fun _ _ _ _ _ h => h) (ei_rngX2 (G := H1) (by wtm_at "ev") (by decide) (by decide)) (Ex.refl _) (by rw [rngV2_len]; decide) (fun _ _ _ _ q => q) (fun _ => rfl) (fun _ _ _ _ => et_yes) ?_) fun v H1 N o hp => o.ret k (i := 0) (j := 1) rfl rfl ?_
        · intro x H2 e2 hx _
          obtain ⟨i, hi, rfl⟩ := List.mem_map.mp hx
          have hi : i < 6 := List.mem_range.mp hi
          have hi1 : 1 + i < ns.length := by omega
          have ai : atI (ns.map V.int) (1 + ((i : Nat) : Int)) = some (V.int ns[1 + i]) := atI_map (j := 1 + i) hi1
          have hn := hall _ (List.getElem_mem hi1)
          exact ep_call (S := R__law_sound) (vs := [.int ns[1 + i]]) (ea_cons (ev_op (ev_var rfl) (ev_var rfl) (rv_ixLs (ex_l (o.e0.trans e2) hS) ai)) ea_nil) ⟨_, rfl, hn.1, by omega, rfl⟩
        · obtain ⟨q, ys, rfl, hq, hpr⟩ := hp
          obtain ⟨l, rfl, h2, h3⟩ := strs_of hpr
          rw [filter_all, rngV2_len] at h2
          exact ⟨q, l, rfl, hq, h2, h3⟩
theorem take_min (a b : List Str) : decide (a.take (min a.length b.length) = b.take (min a.length b.length)) = alikeM a b := by
  unfold alikeM begM
  rcases Nat.le_total a.length b.length with h | h
  · rw [Nat.min_eq_left h, List.take_length]
    by_cases h2 : b.take a.length = a
    · rw [decide_eq_true h2.symm, decide_eq_true h2]; rfl
    · rw [decide_eq_false (fun z => h2 z.symm), decide_eq_false h2, Bool.false_or, Eq.comm]
      refine decide_eq_false fun z => ?_
      have hl : b.length ≤ a.length := by
        have := congrArg List.length z
        rw [List.length_take] at this
        omega
      have e : a.length = b.length := by omega
      rw [← e, List.take_length] at z
      exact h2 (by rw [e, List.take_length]; exact z.symm)
  · rw [Nat.min_eq_right h, List.take_length]
    by_cases h2 : a.take b.length = b
    · rw [decide_eq_true h2, Bool.or_true]
    · rw [decide_eq_false h2, Bool.or_false, Eq.comm]
      refine decide_eq_false fun z => ?_
      have hl : a.length ≤ b.length := by
        have := congrArg List.length z
        rw [List.length_take] at this
        omega
      have e : a.length = b.length := by omega
      rw [e, List.take_length] at z
      exact h2 (by rw [← e, List.take_length]; exact z.symm)
theorem rc_min2 {H : Hp} {i j : Int} : RC (fun xs H Q => ∃ i j, xs = [.int i, .int j] ∧ Q (.int (if j < i then j else i)) H) [.int i, .int j] H (.int (min i j)) := fun H1 _ _ q => ⟨i, j, rfl, by
  have e : (if j < i then j else i) = min i j := by
    split <;> omega
  rw [e]
  exact q H1 (Ex.refl H1)⟩
theorem ok__law_alike (B : Bt mg) (D : Df K mg "_law_alike" s__law_alike ["_law_one", "_law_other"]) : Ok P w K mg base 1 "_law_alike" ["_law_one", "_law_other"] ((R_alike K).sp mg) := by
  refine D.ok sc__law_alike (fun vs H Q E h => ?_) (fun f cdv A outer s H vs Q E hr h => ?_)
  · obtain ⟨r, ⟨p, q, h, l, rfl, _⟩, _⟩ := h
    rfl
  · obtain ⟨r, ⟨p, q, h, l, rfl, ⟨h1, hl1, ht1⟩, ⟨h2, hl2, ht2⟩, rfl⟩, k⟩ := h
    refine ⟨_, (pss_cons (ps_set (i := 2) sc__law_alike.nd rfl (.inl rfl) (pe_callB (call_min2 rfl) (by rfl) B.min boot_b_min (pa_cons (pe_callB (call_lenK K) (by rfl) B.len boot_b_len (pa_cons (pv 0) pa_nil)) (pa_cons (pe_callB (call_lenK K) (by rfl) B.len boot_b_len (pa_cons (pv 1) pa_nil)) pa_nil))))
      (pss_one (ps_ret (pe_cmpR (op_eqK K (hu65 hr)) (pe_slice (sl_K K) (pv 0) po_none (po_some (pv 2))) (pe_slice (sl_K K) (pv 1) po_none (po_some (pv 2))) (nomark _))))), ?_⟩
    refine q_v (Own.one H) (ev_cb (ea_cons (ev_cb (by wtm_at "ev") (rc_lenL h1)) (ea_cons (ev_cb (by wtm_at "ev") (rc_lenL h2)) ea_nil)) rc_min2) fun H1 o => ?_
    have e : min (((h.map V.str).length : Nat) : Int) (((l.map V.str).length : Nat) : Int) = ((min h.length l.length : Nat) : Int) := by
      rw [List.length_map, List.length_map]
      omega
    rw [e]
    refine s_rv o (ev_opN (ep_l (el_sl' (ev_var rfl) eo_none (eo_some (ev_var rfl)) (ex_l o.e0 h1))) (ep_l (el_sl' (ev_var rfl) eo_none (eo_some (ev_var rfl)) (ex_l o.e0 h2))) ?_) fun H1 o => o.retV k (j := 0) rfl rfl
    rintro v1 v2 N1 N2 H2 e2 i1 i2 ⟨c1, rfl, g1⟩ ⟨c2, rfl, g2⟩
    rw [cut_line] at g1 g2
    have z := rv_eqD (K := K) (H := H2) (dp_line.mpr ⟨c1, rfl, sq_of (i1 _ _ g1)⟩) (dp_line.mpr ⟨c2, rfl, sq_of (i2 _ _ g2)⟩) (shaped_line fun s hs => ht1 s (List.mem_of_mem_take hs)) (shaped_line fun s hs => ht2 s (List.mem_of_mem_take hs))
    rw [eqv_line, take_min] at z
    exact z
end
abbrev s__law_verse : Stmt := topS 28
theorem sc__law_verse : FnScope ["_law_verses", "_law_pool_here", "_law_d", "_law_line", "_law_ahead", "_law_k"] ["_law_verses", "_law_pool_here", "_law_d"] (defScope s__law_verse) := ⟨rfl, rfl, rfl, by decide +kernel, rfl, by decide +kernel, by decide +kernel⟩
abbrev s__law_wide : Stmt := topS 29
theorem sc__law_wide : FnScope ["_law_d", "_law_size", "_law_verses", "_law_k", "_law_at", "_law_line"] ["_law_d", "_law_size"] (defScope s__law_wide) := ⟨rfl, rfl, rfl, by decide +kernel, rfl, by decide +kernel, by decide +kernel⟩
abbrev s__law_book : Stmt := topS 30
theorem sc__law_book : FnScope ["_law_d", "_law_most", "_law_pool_here", "_law_verses", "_law_k", "_law_line", "_law_one"] ["_law_d", "_law_most"] (defScope s__law_book) := ⟨rfl, rfl, rfl, by decide +kernel, rfl, by decide +kernel, by decide +kernel⟩
abbrev s__law_copy : Stmt := topS 31
theorem sc__law_copy : FnScope ["_law_rows", "_law_row"] ["_law_rows"] (defScope s__law_copy) := ⟨rfl, rfl, rfl, by decide +kernel, rfl, by decide +kernel, by decide +kernel⟩
section
variable {P : Program} {w : World} {K : PySem.W.Frag} {mg : Str → Option Value} {base : Heap}
theorem cutV_mid {xs : List V} (a b : Nat) (h : a ≤ b) : cutV xs (some (a : Int)) (some (b : Int)) = (xs.drop a).take (b - a) := by
  unfold cutV
  rw [HT.sIx_nat, HT.sIx_nat]
  by_cases h1 : a ≤ xs.length
  · rw [Nat.min_eq_left h1]
    by_cases h2 : b ≤ xs.length
    · rw [Nat.min_eq_left h2]
    · rw [Nat.min_eq_right (by omega)]
      have e1 : (xs.drop a).take (xs.length - a) = xs.drop a := List.take_of_length_le (by rw [List.length_drop]; omega)
      have e2 : (xs.drop a).take (b - a) = xs.drop a := List.take_of_length_le (by rw [List.length_drop]; omega)
      rw [e1, e2]
  · rw [Nat.min_eq_right (show xs.length ≤ a by omega), Nat.min_eq_right (show xs.length ≤ b by omega), List.drop_length, List.drop_of_length_le (by omega)]
    simp
theorem cut_mid (ns : List Int) (a b : Nat) (h : a ≤ b) : cutV (ns.map V.int) (some (a : Int)) (some (b : Int)) = ((ns.drop a).take (b - a)).map V.int := by rw [cutV_mid a b h, List.map_take, List.map_drop]
abbrev pVer : Hp → V → Prop := fun N v => ∃ (p : Addr) (l : List Str), v = .ref p ∧ N p = some (.lst (l.map V.str)) ∧ isVer l = true
def SylL (l : List Str) : Prop := ∀ s ∈ l, isSyl s = true
theorem isVer_iff {l : List Str} : isVer l = true ↔ 1 ≤ l.length ∧ l.length ≤ 8 ∧ SylL l := by
  unfold isVer SylL
  simp only [Bool.and_eq_true, decide_eq_true_eq, List.all_eq_true]
  constructor
  · rintro ⟨⟨h1, h2⟩, h3⟩
    exact ⟨by omega, by omega, h3⟩
  · rintro ⟨h1, h2, h3⟩
    exact ⟨⟨by omega, by omega⟩, h3⟩
/-- rows that are verses, at v; ps: where the rows lie -/
def Vs (K : PySem.W.Frag) (H : Hp) (v : Addr) (ls : List (List Str)) : Prop := Bk K H v ls ∧ ∀ l ∈ ls, isVer l = true
theorem Vs.mono {H H' : Hp} {v : Addr} {ls : List (List Str)} (e : Ex H H') (h : Vs K H v ls) : Vs K H' v ls := ⟨h.1.mono e, h.2⟩
def R__law_verse (K : PySem.W.Frag) : Rl := ⟨fun vs H r => ∃ (v p q : Addr) (ls : List (List Str)) (pool : List Str) (ns : List Int), vs = [.ref v, .ref p, .ref q] ∧ Vs K H v ls ∧ SqL K H p (pool.map V.str) ∧ 1 ≤ pool.length ∧ pool.length ≤ 1000 ∧ SylL pool ∧ Nm K H q ns ∧ 6 ≤ ns.length ∧ r = .ok pVer,
  fun e ⟨v, p, q, ls, pool, ns, h1, h2, h3, h4, h5, h6, h7, h8⟩ => ⟨v, p, q, ls, pool, ns, h1, h2.mono e, ex_l e h3, h4, h5, h6, h7.mono e, h8⟩⟩
theorem eqv_book_nil (ls : List (List Str)) : PyData.eqv (eBook ls) (.list []) = decide (ls = []) := by
  have h := eqv_book ls []
  exact h
theorem ok__law_verse (B : Bt mg) (D : Df K mg "_law_verse" s__law_verse ["_law_verses", "_law_pool_here", "_law_d"]) : Ok P w K mg base 1 "_law_verse" ["_law_verses", "_law_pool_here", "_law_d"] ((R__law_verse K).sp mg) := by
  refine D.ok sc__law_verse (fun vs H Q E h => ?_) (fun f cdv A outer s H vs Q E hr h => ?_)
  · obtain ⟨r, ⟨v, p, q, ls, pool, ns, rfl, _⟩, _⟩ := h
    rfl
  · obtain ⟨r, ⟨v, p, q, ls, pool, ns, rfl, ⟨hB, hV⟩, hP, hp1, hp2, hsyl, ⟨hN, hall⟩, hl, rfl⟩, k⟩ := h
    refine ⟨_, (pss_cons (ps_set (i := 3) sc__law_verse.nd rfl (.inl rfl) (pe_lst pa_nil))
      (Evl.pss_cut (ps_if (PW.pt (pw_and (pt_cmpR (op_neK K (hu65 hr)) (pv 0) (pe_lst pa_nil) (nomark _)) (pw_and1 (pt_cmpR op_gt (pe_op op_mod (pe_ix (ix_seqK K) (pv 2) pe_int (fun _ _ => rfl)) pe_int) pe_int (nomark _)))))
        (pss_cons (ps_set (i := 4) sc__law_verse.nd rfl (.inl rfl) (pe_ix (ix_seqK K) (pv 0) (pe_op op_mod (pe_ix (ix_seqK K) (pv 2) pe_int (fun _ _ => rfl)) (pe_callB (call_lenK K) (by rfl) B.len boot_b_len (pa_cons (pv 0) pa_nil))) (fun _ _ => rfl)))
        (pss_one (ps_set (i := 3) sc__law_verse.nd rfl (.inl rfl) (pe_slice (sl_K K) (pv 4) po_none (po_some (pe_op op_mod (pe_op op_fdiv (pe_ix (ix_seqK K) (pv 2) pe_int (fun _ _ => rfl)) pe_int) (pe_op (op_addK K) (pe_callB (call_lenK K) (by rfl) B.len boot_b_len (pa_cons (pv 4) pa_nil)) pe_int)))))))
        pss_nil)
      (pss_cons (ps_set (i := 3) sc__law_verse.nd rfl (.inl rfl) (pe_op (op_addK K) (pv 3) (pe_lc (own := [("_law_k", 5)]) rfl sc__law_verse.nd (pi_range1 (by rfl) B.range (pa_cons (pe_op (op_addK K) pe_int (pe_op op_mod (pe_ix (ix_seqK K) (pv 2) pe_int (fun _ _ => rfl)) pe_int)) pa_nil)) (blkOk_by (N := ["_law_verses", "_law_pool_here", "_law_d", "_law_line", "_law_ahead", "_law_k"]) (sc := defScope s__law_verse) (by decide +kernel)) (fun _ _ _ _ _ => (pg_name (i := 5) sc__law_verse.nd rfl (.inl rfl))) (fun _ _ _ _ _ => pts_nil) (fun _ _ _ _ _ => (pe_ix (ix_seqK K) (pv 1) (pe_op op_mod (pe_ix (ix_seqK K) (pv 2) (pe_op (op_addK K) pe_int (pv 5)) (fun _ _ => rfl)) (pe_callB (call_lenK K) (by rfl) B.len boot_b_len (pa_cons (pv 1) pa_nil))) (fun _ _ => rfl))))))
      (pss_one (ps_ret (pe_slice (sl_K K) (pv 3) po_none (po_some pe_int))))))), ?_⟩
    have a0 := atI_map (ns := ns) (j := 0) (by omega)
    have a1 := atI_map (ns := ns) (j := 1) (by omega)
    have a2 := atI_map (ns := ns) (j := 2) (by omega)
    have n0 := hall _ (List.getElem_mem (show 0 < ns.length by omega))
    have n1 := hall _ (List.getElem_mem (show 1 < ns.length by omega))
    obtain ⟨xs, hS, hR⟩ := hB.rows
    have hlen := hR.len
    have hl2 := hB.2.1
    refine q_l (Own.one H) (by wtm_at "ev") fun l0 H1 o => ?_
    refine q_cut (M := fun σ H' => ∃ l y4 N line, σ = [some (.ref v), some (.ref p), some (.ref q), some (.ref l), y4, none] ∧ Own [N, H] H' ∧ N l = some (.lst (line.map V.str)) ∧ line.length ≤ 8 ∧ SylL line) ?_ ?_
    · have hne : EvT (tTest (tOp (rNeU K) (tVar 0) (tLst tNil))) [some (.ref v), some (.ref p), some (.ref q), some (.ref l0), none, none] H1 (!decide (ls = [])) := et_test (ev_opN (ep_v (ev_var rfl)) (ep_lst ea_nil) fun v1 v2 N1 N2 H2 e2 i1 i2 hv1 ⟨c, hc, g⟩ => by
        have hv1 : v1 = .ref v := hv1
        subst hv1 hc
        have z := rv_neD (K := K) (H := H2) (dp_mono (o.e1.trans e2) hB.1) (Dp.lst (sq_of (i2 _ _ g)) .nil) (shaped_book fun l hl s hs => (hB.2.2 l hl).2 s hs) (by decide)
        rw [eqv_book_nil] at z
        exact z)
      refine s_wh o (et_and hne fun _ => by wtm_at "ev") (fun hb H1 o => ?_) (fun hb H1 o => ⟨l0, _, _, [], rfl, o, sing_at, by simp, fun _ h => nomatch h⟩)
      have hb1 : ls ≠ [] := by
        rw [Bool.and_eq_true] at hb
        simpa using hb.1
      have hpos : 0 < ls.length := List.length_pos_iff.mpr hb1
      -- ahead = verses[d[1] % len(verses)]
      obtain ⟨i, hi⟩ : ∃ i : Nat, ns[1] % ((xs.length : Nat) : Int) = i := ⟨(ns[1] % ((xs.length : Nat) : Int)).toNat, by have := Int.emod_nonneg ns[1] (show ((xs.length : Nat) : Int) ≠ 0 by omega); omega⟩
      have hi2 : i < ls.length := by
        have := Int.emod_lt_of_pos ns[1] (show 0 < ((xs.length : Nat) : Int) by omega)
        omega
      obtain ⟨c, hc, hL⟩ := hB.row hR hi2
      have hv := isVer_iff.mp (hV _ (row1_mem hi2))
      have hS1 := ex_l o.e1 hS
      have hN1 := ex_l o.e1 hN
      refine q_v (v := .ref c) o (ev_op (ev_var rfl) (ev_is (ev_op (ev_op (ev_var rfl) ev_c (rv_ixLs hN1 a1)) (ev_cb (by wtm_at "ev") (rc_lenL hS1)) (rv_I (show (0 : Int) < _ by omega))) (by rw [hi])) (rv_ixLs hS1 (atI_nat hc))) fun H1 o => ?_
      have hL1 := ex_l o.e1 hL.1
      have hN1 := ex_l o.e1 hN
      obtain ⟨m, hm⟩ : ∃ m : Nat, (ns[0] / 4) % ((((row1 ls i).map V.str).length : Nat) + 1 : Int) = m := ⟨((ns[0] / 4) % ((((row1 ls i).map V.str).length : Nat) + 1 : Int)).toNat, by have := Int.emod_nonneg (ns[0] / 4) (show ((((row1 ls i).map V.str).length : Nat) + 1 : Int) ≠ 0 by omega); omega⟩
      refine s_n (P := pLst (((row1 ls i).take m).map V.str)) o (ep_imp (ep_l (el_sl' (ev_var rfl) eo_none (eo_some (ev_is (ev_op (ev_op (ev_op (ev_var rfl) ev_c (rv_ixLs hN1 a0)) ev_c (rv_I ⟨by decide, by decide⟩)) (ev_op (ev_cb (by wtm_at "ev") (rc_lenL hL1)) ev_c rv_addI) (rv_I (show (0 : Int) < _ by omega))) (by rw [hm]))) hL1)) fun N v h => by rw [cut_line] at h; exact h) fun v2 H1 N o hp => ?_
      obtain ⟨c2, rfl, hc2⟩ := hp
      exact ⟨c2, _, N, (row1 ls i).take m, rfl, ⟨o.1, fun M hM => o.2.1 M (List.mem_cons_of_mem _ hM), o.2.2.2.2⟩, hc2, by rw [List.length_take]; omega, fun s hs => hv.2.2 s (List.mem_of_mem_take hs)⟩
    · rintro σ H2 ⟨l, y4, N, line, rfl, o, hl1, hl8, hsl⟩
      have n2 := hall _ (List.getElem_mem (show 2 < ns.length by omega))
      -- line + [pool[d[3 + k] % len(pool)] for k in range(1 + d[2] % 3)]
      refine q_n (P := fun N v => ∃ (c : Addr) (more : List Str), v = .ref c ∧ N c = some (.lst ((line ++ more).map V.str)) ∧ 1 ≤ more.length ∧ more.length ≤ 3 ∧ SylL more) o (ep_cat (xs := line.map V.str) (P2 := fun N v => ∃ (c : Addr) (more : List Str), v = .ref c ∧ N c = some (.lst (more.map V.str)) ∧ 1 ≤ more.length ∧ more.length ≤ 3 ∧ SylL more) (ev_var rfl) (o.e0 _ _ hl1) (ep_imp (ep_lcX (fun x => [some (.ref v), some (.ref p), some (.ref q), some (.ref l), y4, some x]) (fun _ => true) (fun x N v => ∃ s, v = .str s ∧ isSyl s = true) (fun _ _ _ _ _ h => h) (ei_rngX (G := H2) (ea_cons (ev_op ev_c (ev_op (ev_op (ev_var rfl) ev_c (rv_ixLs (ex_l o.e1 hN) a2)) ev_c (rv_I (by decide))) rv_addI) ea_nil) (by omega)) (Ex.refl _) (by rw [rngV_len]; omega) (fun _ _ _ _ q => q) (fun _ => rfl) (fun _ _ _ _ => et_yes) ?_) ?_) ?_) fun v2 H1 N2 o hp => ?_
      · intro x H3 e3 hx _
        obtain ⟨i, hi, rfl⟩ := List.mem_map.mp hx
        have hi : i < (1 + ns[2] % 3).toNat := List.mem_range.mp hi
        have hi3 : 3 + i < ns.length := by omega
        have ai : atI (ns.map V.int) (3 + ((i : Nat) : Int)) = some (V.int ns[3 + i]) := atI_map (j := 3 + i) hi3
        have e := (o.e1.trans e3)
        obtain ⟨m, hm⟩ : ∃ m : Nat, ns[3 + i] % (((pool.map V.str).length : Nat) : Int) = m := ⟨(ns[3 + i] % (((pool.map V.str).length : Nat) : Int)).toNat, by have := Int.emod_nonneg ns[3 + i] (show (((pool.map V.str).length : Nat) : Int) ≠ 0 by rw [List.length_map]; omega); omega⟩
        have hm2 : m < pool.length := by
          have := Int.emod_lt_of_pos ns[3 + i] (show 0 < (((pool.map V.str).length : Nat) : Int) by rw [List.length_map]; omega)
          rw [List.length_map] at this
          rw [List.length_map] at hm
          omega
        have am : atI (pool.map V.str) ((m : Nat) : Int) = some (.str pool[m]) := atI_nat (by rw [List.getElem?_map, List.getElem?_eq_getElem hm2]; rfl)
        exact ep_imp (ep_v (ev_op (ev_var rfl) (ev_is (ev_op (ev_op (ev_var rfl) (ev_op ev_c (ev_var rfl) rv_addI) (rv_ixLs (ex_l e hN) ai)) (ev_cb (by wtm_at "ev") (rc_lenL (ex_l e hP))) (rv_I (show (0 : Int) < _ by rw [List.length_map]; omega))) (by rw [hm])) (rv_ixLs (ex_l e hP) am))) fun N v h => ⟨_, h, hsyl _ (List.getElem_mem hm2)⟩
      · rintro N v ⟨c, ys, rfl, hc, hpr⟩
        obtain ⟨more, rfl, h2, h3⟩ := strs_of hpr
        rw [filter_all, rngV_len] at h2
        exact ⟨c, more, rfl, hc, by omega, by omega, h3⟩
      · rintro N v ⟨c, more, rfl, hc, hm1, hm2, hm3⟩
        refine ⟨c, more.map V.str, rfl, hc, by rw [List.length_map, List.length_map]; omega, fun p => ⟨p, more, rfl, ?_, hm1, hm2, hm3⟩⟩
        rw [sing_at, List.map_append]
      · obtain ⟨c, more, rfl, hc, hm1, hm2, hm3⟩ := hp
        refine s_rn o (ep_l (el_sl' (ev_var rfl) eo_none (eo_some ev_c) (sq_of (o.e0 _ _ hc)))) fun v H1 N o hp => o.ret k (i := 0) (j := 3) rfl rfl ?_
        obtain ⟨d, rfl, hd⟩ := hp
        rw [show cutV ((line ++ more).map V.str) none (some 8) = ((line ++ more).take 8).map V.str from cut_line _ 8] at hd
        refine ⟨d, _, rfl, hd, isVer_iff.mpr ⟨?_, ?_, fun s hs => ?_⟩⟩
        · rw [List.length_take, List.length_append]; omega
        · rw [List.length_take]; omega
        · rcases List.mem_append.mp (List.mem_of_mem_take hs) with z | z
          · exact hsl s z
          · exact hm3 s z
/-! ### good books -/
theorem alikeM_comm (a b : List Str) : alikeM a b = alikeM b a := Bool.or_comm _ _
def Apart (ls : List (List Str)) : Prop := ls.Pairwise fun a b => alikeM a b = false
structure GB (n : Nat) (ls : List (List Str)) : Prop where
  pos : 1 ≤ ls.length
  len : ls.length ≤ n
  ver : ∀ l ∈ ls, isVer l = true
  apart : Apart ls
theorem GB.need {n : Nat} {ls : List (List Str)} (h : GB n ls) (hn : n ≤ 40) : needM ls = none := by
  have h1 : badRow ls = none := by
    unfold badRow
    rw [List.find?_range_eq_none]
    intro i hi
    rw [h.ver _ (row1_mem hi)]
    rfl
  have h2 : badTwo ls = none := by
    unfold badTwo
    rw [List.find?_range_eq_none]
    intro j hj
    have e : badOne ls j = none := by
      unfold badOne
      rw [List.find?_range_eq_none]
      intro i hi
      have z := List.pairwise_iff_getElem.mp h.apart i j (by omega) hj hi
      have e1 : row1 ls i = ls[i] := by unfold row1; rw [List.getD_eq_getElem?_getD, List.getElem?_eq_getElem (by omega)]; rfl
      have e2 : row1 ls j = ls[j] := by unfold row1; rw [List.getD_eq_getElem?_getD, List.getElem?_eq_getElem hj]; rfl
      rw [e1, e2, z]
      rfl
    rw [e]
    rfl
  unfold needM
  rw [if_pos ⟨h.pos, Nat.le_trans h.len hn⟩, h1, h2]
theorem ver_txt {l : List Str} (h : isVer l = true) : l.length ≤ 1000 ∧ ∀ s ∈ l, TxtOk s := by
  obtain ⟨h1, h2, h3⟩ := isVer_iff.mp h
  exact ⟨by omega, fun s hs => syl_ok (h3 s hs)⟩
theorem vs_of {H : Hp} {v : Addr} {xs : List V} {ls : List (List Str)} (h : SqL K H v xs) (r : Rows K H xs ls) (hl : ls.length ≤ 1000) (hv : ∀ l ∈ ls, isVer l = true) : Vs K H v ls := ⟨⟨dp_book.mpr ⟨v, xs, rfl, h, r⟩, hl, fun l hl => ver_txt (hv l hl)⟩, hv⟩
abbrev pGood (K : PySem.W.Frag) (n : Nat) : Hp → V → Prop := fun N v => ∃ (p : Addr) (ls : List (List Str)), v = .ref p ∧ Vs K N p ls ∧ GB n ls ∧ Cells N p ls
/-- rows that lie in the heap itself -/
def CR (N : Hp) (xs : List V) (ls : List (List Str)) : Prop := Paired (fun x l => ∃ q, x = V.ref q ∧ N q = some (.lst (l.map V.str))) xs ls
theorem CR.rows {N : Hp} {xs : List V} {ls : List (List Str)} (h : CR N xs ls) : Rows K N xs ls := paired_imp (fun _ _ ⟨q, h1, h2⟩ => ⟨q, h1, sq_of h2⟩) h
theorem CR.mono {N M : Hp} {xs : List V} {ls : List (List Str)} (e : Ex N M) (h : CR N xs ls) : CR M xs ls := paired_imp (fun _ _ ⟨q, h1, h2⟩ => ⟨q, h1, e _ _ h2⟩) h
theorem cr_snoc {H : Hp} {xs : List V} {ls : List (List Str)} {c : Addr} {l : List Str} (r : CR H xs ls) (h : H c = some (.lst (l.map V.str))) : CR H (xs ++ [.ref c]) (ls ++ [l]) := paired_snoc r ⟨c, rfl, h⟩
theorem Nm.drop {H : Hp} {p : Addr} {ns : List Int} {a b : Nat} (h : ∀ n ∈ ns, 0 ≤ n ∧ n < 9967) (hp : H p = some (.lst (((ns.drop a).take b).map V.int))) : Nm K H p ((ns.drop a).take b) := ⟨sq_of hp, fun n hn => h n (List.mem_of_mem_drop (List.mem_of_mem_take hn))⟩
end
section
variable {P : Program} {w : World} {K : PySem.W.Frag} {mg : Str → Option Value} {base : Heap}
/-! ### wide books -/
def wA : List Str := ["a", "b", "ab", "ba"]
def wB : List Str := ["a", "aa", "ba", "b"]
def wC : List Str := ["ka", "k", "a", "ki"]
def wT : List Str := ["ma", "a", "bab", "a", "b"]
def wN (a : Nat) : List Str := [wA.getD (a / 16) "", wB.getD (a / 4 % 4) "", wC.getD (a % 4) ""]
theorem wN_all : ((List.range 64).all fun a => (wN a).all isSyl && (List.range 64).all fun b => decide (a = b) || !decide (wN a = wN b)) = true := by decide +kernel
theorem wN_syl {a : Nat} (h : a < 64) : SylL (wN a) := by
  have z := List.all_eq_true.mp wN_all a (List.mem_range.mpr h)
  simp only [Bool.and_eq_true] at z
  exact List.all_eq_true.mp z.1
theorem wN_inj {a b : Nat} (h : a < 64) (h2 : b < 64) (hab : a ≠ b) : wN a ≠ wN b := by
  have z := List.all_eq_true.mp wN_all a (List.mem_range.mpr h)
  simp only [Bool.and_eq_true] at z
  have z2 := List.all_eq_true.mp z.2 b (List.mem_range.mpr h2)
  simp only [Bool.or_eq_true, decide_eq_true_eq] at z2
  rcases z2 with z2 | z2
  · exact absurd z2 hab
  · simpa using z2
theorem wT_syl : SylL wT := by
  have z : wT.all isSyl = true := by decide +kernel
  exact List.all_eq_true.mp z
theorem odd64 : ((List.range 32).all fun m => (List.range 64).all fun x => decide (x = 0) || !decide (x * (1 + 2 * m) % 64 = 0)) = true := by decide +kernel
theorem odd_ne {m x : Nat} (hm : m < 32) (hx : x < 64) (h0 : x ≠ 0) : x * (1 + 2 * m) % 64 ≠ 0 := by
  have z := List.all_eq_true.mp odd64 m (List.mem_range.mpr hm)
  have z2 := List.all_eq_true.mp z x (List.mem_range.mpr hx)
  simp only [Bool.or_eq_true, decide_eq_true_eq] at z2
  rcases z2 with z2 | z2
  · exact absurd z2 h0
  · simpa using z2
def atW (d0 d1 : Int) (k : Nat) : Nat := ((d0 + (k : Int) * (1 + 2 * (d1 % 32))) % 64).toNat
theorem atW_lt (d0 d1 : Int) (k : Nat) : atW d0 d1 k < 64 := by
  unfold atW
  have h1 := Int.emod_nonneg (d0 + (k : Int) * (1 + 2 * (d1 % 32))) (show (64 : Int) ≠ 0 by decide)
  have h2 := Int.emod_lt_of_pos (d0 + (k : Int) * (1 + 2 * (d1 % 32))) (show (0 : Int) < 64 by decide)
  omega
theorem atW_inj {d0 d1 : Int} {i j : Nat} (hij : i < j) (hj : j < 64) : atW d0 d1 i ≠ atW d0 d1 j := by
  intro h
  unfold atW at h
  obtain ⟨m, hm⟩ : ∃ m : Nat, d1 % 32 = m := ⟨(d1 % 32).toNat, by omega⟩
  have hm2 : m < 32 := by omega
  rw [hm] at h
  have e : ((j : Int) * (1 + 2 * (m : Int))) = (i : Int) * (1 + 2 * (m : Int)) + ((j - i : Nat) : Int) * (1 + 2 * (m : Int)) := by
    rw [← Int.add_mul]
    congr 1
    omega
  rw [e] at h
  have key : (((j - i : Nat) : Int) * (1 + 2 * (m : Int))) % 64 = 0 := by
    generalize (i : Int) * (1 + 2 * (m : Int)) = u at h
    generalize ((j - i : Nat) : Int) * (1 + 2 * (m : Int)) = t at h
    omega
  have z := odd_ne hm2 (show j - i < 64 by omega) (by omega)
  apply z
  have c : (((j - i) * (1 + 2 * m) : Nat) : Int) = ((j - i : Nat) : Int) * (1 + 2 * (m : Int)) := by
    rw [Int.natCast_mul, Int.natCast_add, Int.natCast_mul]
    rfl
  rw [← c] at key
  omega
theorem alike_head {a b s t : List Str} (hl : a.length = b.length) (hne : a ≠ b) : alikeM (a ++ s) (b ++ t) = false := by
  unfold alikeM begM
  have key : ∀ {a b s t : List Str}, a.length = b.length → a ≠ b → decide ((b ++ t).take (a ++ s).length = a ++ s) = false := by
    intro a b s t hl hne
    refine decide_eq_false fun z => hne ?_
    have z2 := congrArg (List.take a.length) z
    rw [List.take_take, List.length_append, Nat.min_eq_left (by omega), List.take_left', List.take_left'] at z2
    · exact z2.symm
    · rfl
    · exact hl.symm
  rw [key hl hne, key hl.symm (fun z => hne z.symm)]
  rfl
def lineW (d0 d1 d2 d3 : Int) (k : Nat) : List Str := wN (atW d0 d1 k) ++ wT.take ((d2 + (k : Int) * d3) % 6).toNat
theorem lineW_ver (d0 d1 d2 d3 : Int) (k : Nat) : isVer (lineW d0 d1 d2 d3 k) = true := by
  refine isVer_iff.mpr ⟨?_, ?_, fun s hs => ?_⟩
  · unfold lineW; rw [List.length_append]; show 1 ≤ 3 + _; omega
  · unfold lineW
    rw [List.length_append, List.length_take]
    have : wT.length = 5 := rfl
    show 3 + _ ≤ 8
    omega
  · rcases List.mem_append.mp hs with z | z
    · exact wN_syl (atW_lt d0 d1 k) s z
    · exact wT_syl s (List.mem_of_mem_take z)
theorem wide_good (d0 d1 d2 d3 : Int) {n : Nat} (h1 : 1 ≤ n) (h2 : n ≤ 40) : GB n ((List.range n).map (lineW d0 d1 d2 d3)) where
  pos := by simpa using h1
  len := by simp
  ver := fun l hl => by
    obtain ⟨k, _, rfl⟩ := List.mem_map.mp hl
    exact lineW_ver d0 d1 d2 d3 k
  apart := by
    unfold Apart
    rw [List.pairwise_iff_getElem]
    intro i j hi hj hij
    simp only [List.getElem_map, List.getElem_range]
    simp at hi hj
    exact alike_head rfl (wN_inj (atW_lt d0 d1 i) (atW_lt d0 d1 j) (atW_inj hij (by omega)))
def R__law_wide (K : PySem.W.Frag) : Rl := ⟨fun vs H r => ∃ (p : Addr) (ns : List Int) (n : Int), vs = [.ref p, .int n] ∧ Nm K H p ns ∧ 4 ≤ ns.length ∧ 1 ≤ n ∧ n ≤ 40 ∧ r = .ok (pGood K n.toNat), fun e ⟨p, ns, n, h1, h2, h3⟩ => ⟨p, ns, n, h1, h2.mono e, h3⟩⟩
theorem at4 {l : List Str} (hl : l.length = 4) {i : Nat} (hi : i < 4) : atI (l.map V.str) ((i : Nat) : Int) = some (.str (l.getD i "")) := atI_nat (by
  rw [List.getElem?_map, List.getElem?_eq_getElem (by omega), List.getD_eq_getElem?_getD, List.getElem?_eq_getElem (by omega)]
  rfl)
theorem ok__law_wide (B : Bt mg) (D : Df K mg "_law_wide" s__law_wide ["_law_d", "_law_size"]) : Ok P w K mg base 1 "_law_wide" ["_law_d", "_law_size"] ((R__law_wide K).sp mg) := by
  refine D.ok sc__law_wide (fun vs H Q E h => ?_) (fun f cdv A outer s H vs Q E hr h => ?_)
  · obtain ⟨r, ⟨p, ns, n, rfl, _⟩, _⟩ := h
    rfl
  · obtain ⟨r, ⟨p, ns, n, rfl, ⟨hN, hall⟩, hl, hn1, hn2, rfl⟩, k⟩ := h
    refine ⟨_, (pss_cons (ps_set (i := 2) sc__law_wide.nd rfl (.inl rfl) (pe_lst pa_nil))
      (pss_cons (ps_for (passes_of rfl) rfl (pi_range1 (by rfl) B.range (pa_cons (pv 1) pa_nil)) (pg_name (i := 3) sc__law_wide.nd rfl (.inl rfl))
        (pss_cons (ps_set (i := 4) sc__law_wide.nd rfl (.inl rfl) (pe_op op_mod (pe_op (op_addK K) (pe_ix (ix_seqK K) (pv 0) pe_int (fun _ _ => rfl)) (pe_op op_mulU (pv 3) (pe_op (op_addK K) pe_int (pe_op op_mulU pe_int (pe_op op_mod (pe_ix (ix_seqK K) (pv 0) pe_int (fun _ _ => rfl)) pe_int))))) pe_int))
        (pss_cons (ps_set (i := 5) sc__law_wide.nd rfl (.inl rfl) (pe_lst (pa_cons (pe_ix (ix_seqK K) (pe_lst (pa_cons pe_str (pa_cons pe_str (pa_cons pe_str (pa_cons pe_str pa_nil))))) (pe_op op_fdiv (pv 4) pe_int) (fun _ _ => rfl)) (pa_cons (pe_ix (ix_seqK K) (pe_lst (pa_cons pe_str (pa_cons pe_str (pa_cons pe_str (pa_cons pe_str pa_nil))))) (pe_op op_mod (pe_op op_fdiv (pv 4) pe_int) pe_int) (fun _ _ => rfl)) (pa_cons (pe_ix (ix_seqK K) (pe_lst (pa_cons pe_str (pa_cons pe_str (pa_cons pe_str (pa_cons pe_str pa_nil))))) (pe_op op_mod (pv 4) pe_int) (fun _ _ => rfl)) pa_nil)))))
        (pss_one (ps_expr (pe_bmK K PySem.F.plainAttrs_list PySem.F.slot_list_append PySem.F.type_list_append mt_append (pv 2) (pa_cons (pe_op (op_addK K) (pv 5) (pe_slice (sl_K K) (pe_lst (pa_cons pe_str (pa_cons pe_str (pa_cons pe_str (pa_cons pe_str (pa_cons pe_str pa_nil)))))) po_none (po_some (pe_op op_mod (pe_op (op_addK K) (pe_ix (ix_seqK K) (pv 0) pe_int (fun _ _ => rfl)) (pe_op op_mulU (pv 3) (pe_ix (ix_seqK K) (pv 0) pe_int (fun _ _ => rfl)))) pe_int)))) pa_nil)))))))
      (pss_one (ps_ret (pv 2))))), ?_⟩
    have a0 := atI_map (ns := ns) (j := 0) (by omega)
    have a1 := atI_map (ns := ns) (j := 1) (by omega)
    have a2 := atI_map (ns := ns) (j := 2) (by omega)
    have a3 := atI_map (ns := ns) (j := 3) (by omega)
    have n0 := hall _ (List.getElem_mem (show 0 < ns.length by omega))
    have n1 := hall _ (List.getElem_mem (show 1 < ns.length by omega))
    have n2 := hall _ (List.getElem_mem (show 2 < ns.length by omega))
    have n3 := hall _ (List.getElem_mem (show 3 < ns.length by omega))
    refine q_l (Own.one H) (by wtm_at "ev") fun l H1 o => ?_
    refine q_forN (G := emp) o (ei_rng1 (by wtm_at "ev") (by omega)) (fun i σ H' => ∃ xs N y3 y4 y5, σ = [some (.ref p), some (.int n), some (.ref l), y3, y4, y5] ∧ Own [sing l (.lst xs), N, H] H' ∧ CR N xs ((List.range i).map (lineW ns[0] ns[1] ns[2] ns[3]))) (fun H1 o => ⟨[], emp, _, _, _, rfl, ⟨o.1, fun M hM => ?_, emp_ex, (fun _ _ a ha => absurd rfl ha), o.2.2⟩, .nil⟩) (fun i σ H' _ _ => emp_ex) ?_ ?_
    · rcases List.mem_cons.mp hM with z | z
      · subst z; exact fun _ _ => rfl
      · exact o.2.1 M z
    · rintro i x σ H2 H3 hi ⟨xs, N, y3, y4, y5, rfl, o, hC⟩ e rfl
      have o := o.mono e
      have hR : Rows K N xs _ := hC.rows
      have hlen := hR.len
      rw [List.length_map, List.length_range] at hlen
      have hN1 := ex_l o.e2 hN
      -- at
      refine q_v (v := .int (atW ns[0] ns[1] i : Nat)) o (ev_is (ev_op (ev_op (ev_op (ev_var rfl) ev_c (rv_ixLs hN1 a0)) (ev_op (ev_var rfl) (ev_op ev_c (ev_op ev_c (ev_op (ev_op (ev_var rfl) ev_c (rv_ixLs hN1 a1)) ev_c (rv_I (by decide))) (rv_mulI (cmul_small (by decide) (by omega)))) rv_addI) (rv_mulI (cmul_small (by omega) (by omega)))) rv_addI) ev_c (rv_I (by decide))) (by
        have h1 : 0 ≤ (ns[0] + (i : Int) * (1 + 2 * (ns[1] % 32))) % 64 := Int.emod_nonneg _ (by decide)
        unfold atW
        congr 1
        exact (Int.toNat_of_nonneg h1).symm)) fun H1 o => ?_
      have ha := atW_lt ns[0] ns[1] i
      generalize hat : atW ns[0] ns[1] i = at' at ha ⊢
      have q16 : ((at' : Nat) : Int) / 16 = ((at' / 16 : Nat) : Int) := by omega
      have q4 : ((at' : Nat) : Int) / 4 % 4 = ((at' / 4 % 4 : Nat) : Int) := by omega
      have q1 : ((at' : Nat) : Int) % 4 = ((at' % 4 : Nat) : Int) := by omega
      have c16 : CDiv ((at' : Nat) : Int) 16 := ⟨by decide, by decide⟩
      have c4 : CDiv ((at' : Nat) : Int) 4 := ⟨by decide, by decide⟩
      refine q_n (P := pLst ((wN at').map V.str)) o (ep_lst (vs := (wN at').map V.str) (ea_cons (ev_op1 (P := pLst (wA.map V.str)) (ep_lst (by wtm_at "ev")) (ev_is (ev_op (ev_var rfl) ev_c (rv_I c16)) (by rw [q16])) fun v N H1 _ i1 ⟨c, e, hc⟩ => by subst e; exact rv_ixLs (sq_of (i1 _ _ hc)) (at4 rfl (by omega)))
        (ea_cons (ev_op1 (P := pLst (wB.map V.str)) (ep_lst (by wtm_at "ev")) (ev_is (ev_op (ev_op (ev_var rfl) ev_c (rv_I c4)) ev_c (rv_I (by decide))) (by rw [q4])) fun v N H1 _ i1 ⟨c, e, hc⟩ => by subst e; exact rv_ixLs (sq_of (i1 _ _ hc)) (at4 rfl (by omega)))
        (ea_cons (ev_op1 (P := pLst (wC.map V.str)) (ep_lst (by wtm_at "ev")) (ev_is (ev_op (ev_var rfl) ev_c (rv_I (by decide))) (by rw [q1])) fun v N H1 _ i1 ⟨c, e, hc⟩ => by subst e; exact rv_ixLs (sq_of (i1 _ _ hc)) (at4 rfl (by omega))) ea_nil)))) fun v2 H1 N2 o hp => ?_
      obtain ⟨c, rfl, hc⟩ := hp
      have hN1 := ex_l o.e3 hN
      obtain ⟨m, hm⟩ : ∃ m : Nat, (ns[2] + (i : Int) * ns[3]) % 6 = m := ⟨((ns[2] + (i : Int) * ns[3]) % 6).toNat, by have := Int.emod_nonneg (ns[2] + (i : Int) * ns[3]) (show (6 : Int) ≠ 0 by decide); omega⟩
      have el : lineW ns[0] ns[1] ns[2] ns[3] i = wN at' ++ wT.take m := by unfold lineW; rw [hat, hm]; rfl
      refine s_appN (P := pLst ((lineW ns[0] ns[1] ns[2] ns[3] i).map V.str)) (j := 1) o rfl (ev_var rfl) (ep_catN (P1 := is (.ref c)) (P2 := pLst ((wT.take m).map V.str)) (ep_v (ev_var rfl)) (ep_slN (xs := wT.map V.str) (ep_lst (by wtm_at "ev")) eo_none (eo_some (ev_is (ev_op (ev_op (ev_op (ev_var rfl) ev_c (rv_ixLs hN1 a2)) (ev_op (ev_var rfl) (ev_op (ev_var rfl) ev_c (rv_ixLs hN1 a3)) (rv_mulI (cmul_small (by omega) (by omega)))) rv_addI) ev_c (rv_I (by decide))) (by rw [hm]))) (cut_line wT m)) fun N1 N2 H1 v1 v2 e i1 i2 p1 ⟨b, e2, hb⟩ => ⟨c, b, _, _, p1, e2, e _ _ (o.e0 _ _ hc), i2 _ _ hb, ?_, fun p => ⟨p, rfl, ?_⟩⟩) (by omega) fun v2 H1 N3 o hp => ?_
      · rw [List.length_map, List.length_map, List.length_take]
        have : wT.length = 5 := rfl
        show 3 + _ ≤ _
        omega
      · rw [sing_at, el, List.map_append]
      · obtain ⟨b, rfl, hb⟩ := hp
        have o : Own [N3, N2, sing l (.lst (xs ++ [.ref b])), N, H] H1 := o
        have o2 : Own [sing l (.lst (xs ++ [.ref b])), N3, N, H] H1 := by
          have z : Own [sing l (.lst (xs ++ [.ref b])), N3, N2, N, H] H1 := o.pull (i := 2) rfl
          have z2 : Own [N2, sing l (.lst (xs ++ [.ref b])), N3, N, H] H1 := z.pull (i := 2) rfl
          exact z2.tail
        have dN : ∀ a, N3 a ≠ none → N a = none := o2.dj (i := 1) (j := 2) (by decide) rfl rfl
        refine ⟨xs ++ [.ref b], uni N N3, _, _, _, rfl, ?_, ?_⟩
        · exact own_merge2 o2
        · rw [List.range_succ, List.map_append]
          exact cr_snoc (hC.mono (uni_l dN)) (uni_r _ _ hb)
    · rintro σ H2 ⟨xs, N, y3, y4, y5, rfl, o, hC⟩
      have hR : Rows K N xs _ := hC.rows
      refine s_rv o (ev_var rfl) fun H1 o => ?_
      have o2 : Own [uni N (sing l (.lst xs)), H] H1 := o.merge
      have dN : ∀ a, sing l (.lst xs) a ≠ none → N a = none := o.dj (i := 0) (j := 1) (by decide) rfl rfl
      obtain ⟨m, rfl⟩ : ∃ m : Nat, n = m := ⟨n.toNat, by omega⟩
      exact o2.ret k (i := 0) (j := 1) rfl rfl ⟨l, _, rfl, vs_of (sq_of (uni_r _ _ sing_at)) (hR.mono (uni_l dN)) (by simp; omega) (fun l hl => (wide_good _ _ _ _ (n := m) (by omega) (by omega)).ver l hl), wide_good _ _ _ _ (by omega) (by omega), xs, uni_r _ _ sing_at, hC.mono (uni_l dN)⟩
end
section
variable {P : Program} {w : World} {K : PySem.W.Frag} {mg : Str → Option Value} {base : Heap}
def R__law_book (K : PySem.W.Frag) : Rl := ⟨fun vs H r => ∃ (p : Addr) (ns : List Int) (n : Int), vs = [.ref p, .int n] ∧ Nm K H p ns ∧ 9 + 6 * n ≤ ns.length ∧ 1 ≤ n ∧ n ≤ 40 ∧ r = .ok (pGood K n.toNat), fun e ⟨p, ns, n, h1, h2, h3⟩ => ⟨p, ns, n, h1, h2.mono e, h3⟩⟩
theorem apart_snoc {ls : List (List Str)} {l : List Str} (h : Apart ls) (ha : (List.range ls.length).all (fun i => !alikeM l (row1 ls i)) = true) : Apart (ls ++ [l]) := by
  unfold Apart at *
  rw [List.pairwise_append]
  refine ⟨h, List.pairwise_singleton _ _, fun a ha2 b hb => ?_⟩
  have e : b = l := by simpa using hb
  subst e
  obtain ⟨i, hi, rfl⟩ := List.getElem_of_mem ha2
  have z := List.all_eq_true.mp ha i (List.mem_range.mpr hi)
  have e1 : row1 ls i = ls[i] := by unfold row1; rw [List.getD_eq_getElem?_getD, List.getElem?_eq_getElem hi]; rfl
  rw [e1] at z
  rw [alikeM_comm]
  simpa using z
theorem GB.le {n m : Nat} {ls : List (List Str)} (h : GB n ls) (hm : n ≤ m) : GB m ls := ⟨h.pos, Nat.le_trans h.len hm, h.ver, h.apart⟩
theorem ok__law_book (B : Bt mg) (O__law_pool : Ok P w K mg base 2 "_law_pool" ["_law_d"] ((R__law_pool K).sp mg)) (O__law_verse : Ok P w K mg base 1 "_law_verse" ["_law_verses", "_law_pool_here", "_law_d"] ((R__law_verse K).sp mg)) (O__law_wide : Ok P w K mg base 1 "_law_wide" ["_law_d", "_law_size"] ((R__law_wide K).sp mg)) (O__law_alike : Ok P w K mg base 1 "_law_alike" ["_law_one", "_law_other"] ((R_alike K).sp mg)) (D : Df K mg "_law_book" s__law_book ["_law_d", "_law_most"]) : Ok P w K mg base 3 "_law_book" ["_law_d", "_law_most"] ((R__law_book K).sp mg) := by
  refine D.ok sc__law_book (fun vs H Q E h => ?_) (fun f cdv A outer s H vs Q E hr h => ?_)
  · obtain ⟨r, ⟨p, ns, n, rfl, _⟩, _⟩ := h
    rfl
  · obtain ⟨r, ⟨p, ns, n, rfl, ⟨hN, hall⟩, hl, hn1, hn2, rfl⟩, k⟩ := h
    refine ⟨_, (pss_cons (ps_if (pt_cmpR (op_eqK K (hu65 hr)) (pe_op op_mod (pe_op op_fdiv (pe_ix (ix_seqK K) (pv 0) pe_int (fun _ _ => rfl)) pe_int) pe_int) pe_int (nomark _))
        (pss_one (ps_ret (pe_callO O__law_wide (hr.mono (by omega)) (by rfl) (takes_of rfl rfl rfl rfl) (pa_cons (pe_slice (sl_K K) (pv 0) (po_some pe_int) (po_some pe_int)) (pa_cons (pe_op (op_addK K) pe_int (pe_op op_mod (pe_ix (ix_seqK K) (pv 0) pe_int (fun _ _ => rfl)) (pv 1))) pa_nil)))))
        pss_nil)
      (pss_cons (ps_set (i := 2) sc__law_book.nd rfl (.inl rfl) (pe_slice (sl_K K) (pe_callO O__law_pool (hr.mono (by omega)) (by rfl) (takes_of rfl rfl rfl rfl) (pa_cons (pe_slice (sl_K K) (pv 0) (po_some pe_int) (po_some pe_int)) pa_nil)) po_none (po_some (pe_op (op_addK K) pe_int (pe_op op_mod (pe_ix (ix_seqK K) (pv 0) pe_int (fun _ _ => rfl)) pe_int)))))
      (pss_cons (ps_set (i := 3) sc__law_book.nd rfl (.inl rfl) (pe_lst pa_nil))
      (pss_cons (ps_for (passes_of rfl) rfl (pi_range1 (by rfl) B.range (pa_cons (pe_op (op_addK K) pe_int (pe_op op_mod (pe_ix (ix_seqK K) (pv 0) pe_int (fun _ _ => rfl)) (pv 1))) pa_nil)) (pg_name (i := 4) sc__law_book.nd rfl (.inl rfl))
        (pss_cons (ps_set (i := 5) sc__law_book.nd rfl (.inr rfl) (pe_callO O__law_verse (hr.mono (by omega)) (by rfl) (takes_of rfl rfl rfl rfl) (pa_cons (pv 3) (pa_cons (pv 2) (pa_cons (pe_slice (sl_K K) (pv 0) (po_some (pe_op (op_addK K) pe_int (pe_op op_mulU pe_int (pv 4)))) (po_some (pe_op (op_addK K) pe_int (pe_op op_mulU pe_int (pv 4))))) pa_nil)))))
        (pss_one (ps_if (pt_val (pe_callB (cr_allK K rfl) (by rfl) B.all boot_b_all (pa_cons (pe_lc (own := [("_law_one", 6)]) rfl sc__law_book.nd (pi_listK K (pv 3)) (blkOk_by (N := ["_law_d", "_law_most", "_law_pool_here", "_law_verses", "_law_k", "_law_line", "_law_one"]) (sc := defScope s__law_book) (by decide +kernel)) (fun _ _ _ _ _ => (pg_name (i := 6) sc__law_book.nd rfl (.inl rfl))) (fun _ _ _ _ _ => pts_nil) (fun _ _ _ _ _ => (pe_not (pe_callO O__law_alike (hr.mono (by omega)) (by rfl) takes0 (pa_cons (pv 5) (pa_cons (pv 6) pa_nil)))))) pa_nil)))
          (pss_one (ps_expr (pe_bmK K PySem.F.plainAttrs_list PySem.F.slot_list_append PySem.F.type_list_append mt_append (pv 3) (pa_cons (pv 5) pa_nil))))
          pss_nil))))
      (pss_one (ps_ret (pv 3))))))), ?_⟩
    have a0 := atI_map (ns := ns) (j := 0) (by omega)
    have a8 := atI_map (ns := ns) (j := 8) (by omega)
    have n0 := hall _ (List.getElem_mem (show 0 < ns.length by omega))
    have n8 := hall _ (List.getElem_mem (show 8 < ns.length by omega))
    have hm0 := Int.emod_nonneg ns[0] (show n ≠ 0 by omega)
    have hm1 := Int.emod_lt_of_pos ns[0] (show 0 < n by omega)
    have c5 : CDiv ns[8] 5 := ⟨by decide, by decide⟩
    refine q_wh (Own.one H) (et_test (ev_op (ev_op (ev_op (ev_op (ev_var rfl) ev_c (rv_ixLs hN a8)) ev_c (rv_I c5)) ev_c (rv_I (by decide))) ev_c rv_eqI)) (fun hb H1 o => ?_) (fun hb H1 o => ?_)
    · have hN1 := ex_l o.e0 hN
      refine s_rn o (P := pGood K n.toNat) (ep_imp (ep_callN (S := R__law_wide K) (P := pGood K (1 + ns[0] % n).toNat) (eps_cons (P := pLst (((ns.drop 1).take 4).map V.int)) (ep_l (el_is (el_sl' (ev_var rfl) (eo_some ev_c) (eo_some ev_c) hN1) (cut_mid ns 1 5 (by decide)))) (eps_cons (ep_v (ev_op ev_c (ev_op (ev_op (ev_var rfl) ev_c (rv_ixLs hN1 a0)) (ev_var rfl) (rv_I (show (0 : Int) < n by omega))) rv_addI)) eps_nil)) fun vs H2 e2 ha => ?_) fun N v ⟨p, ls, h1, h2, h3, h4⟩ => ⟨p, ls, h1, h2, h3.le (by omega), h4⟩) fun v H1 N o hp => o.ret k (i := 0) (j := 1) rfl rfl hp
      cases ha with
      | cons h1 hr =>
        cases hr with
        | cons h2 hr =>
          cases hr
          obtain ⟨N1, i1, c, rfl, hc⟩ := h1
          obtain ⟨N2, i2, h2⟩ := h2
          have h2 : _ = V.int (1 + ns[0] % n) := h2
          subst h2
          refine ⟨c, _, _, rfl, Nm.drop hall (i1 _ _ hc), ?_, by omega, by omega, rfl⟩
          rw [List.length_take, List.length_drop]; omega
    · have hN1 := ex_l o.e0 hN
      obtain ⟨m, hm⟩ : ∃ m : Nat, (2 : Int) + ns[8] % 5 = (m : Int) := ⟨(2 + ns[8] % 5).toNat, by omega⟩
      refine q_n (P := fun N v => ∃ (c : Addr) (l : List Str), v = .ref c ∧ N c = some (.lst (l.map V.str)) ∧ 1 ≤ l.length ∧ l.length ≤ 1000 ∧ SylL l) o (ep_slP (P := pPool 6) (ep_callN (S := R__law_pool K) (eps_cons (P := pLst (((ns.drop 1).take 7).map V.int)) (ep_l (el_is (el_sl' (ev_var rfl) (eo_some ev_c) (eo_some ev_c) hN1) (cut_mid ns 1 8 (by decide)))) eps_nil) fun vs H2 e2 ha => ?_) eo_none (eo_some (i := (m : Int)) (ev_is (ev_op ev_c (ev_op (ev_op (ev_var rfl) ev_c (rv_ixLs hN1 a8)) ev_c (rv_I (by decide))) rv_addI) (congrArg V.int hm))) ?_) fun v H1 Np o hp => ?_
      · cases ha with
        | cons h1 hr =>
          cases hr
          obtain ⟨N1, i1, c, rfl, hc⟩ := h1
          refine ⟨c, _, rfl, Nm.drop hall (i1 _ _ hc), ?_, rfl⟩
          rw [List.length_take, List.length_drop]; omega
      · rintro N v ⟨c, l, rfl, hc, hlen, hs⟩
        refine ⟨c, _, rfl, hc, fun p => ⟨p, l.take m, rfl, ?_, ?_, ?_, fun s hs2 => hs s (List.mem_of_mem_take hs2)⟩⟩
        · rw [sing_at, cut_line]
        · rw [List.length_take]; omega
        · rw [List.length_take]; omega
      obtain ⟨pp, pool, rfl, hP, hp1, hp2, hsyl⟩ := hp
      refine q_l o (by wtm_at "ev") fun l H1 o => ?_
      have hN2 := ex_l o.e2 hN
      refine q_forN (G := emp) o (ei_rng1 (m := 1 + ns[0] % n) (ea_cons (ev_op ev_c (ev_op (ev_op (ev_var rfl) ev_c (rv_ixLs hN2 a0)) (ev_var rfl) (rv_I (show (0 : Int) < n by omega))) rv_addI) ea_nil) (by omega)) (fun i σ H' => ∃ xs N ls y4 y5, σ = [some (.ref p), some (.int n), some (.ref pp), some (.ref l), y4, y5, none] ∧ Own [sing l (.lst xs), N, Np, H] H' ∧ CR N xs ls ∧ ls.length ≤ i ∧ (1 ≤ i → 1 ≤ ls.length) ∧ (∀ l ∈ ls, isVer l = true) ∧ Apart ls) (fun H1 o => ⟨[], emp, [], _, _, rfl, own_emp o, .nil, Nat.le_refl _, (fun h => absurd h (by decide)), (fun _ h => nomatch h), List.Pairwise.nil⟩) (fun i σ H' _ _ => emp_ex) ?_ ?_
      · rintro i x σ H2 H3 hi ⟨xs, N, ls, y4, y5, rfl, o, hC, hli, hl1, hver, hap⟩ e rfl
        have o := o.mono e
        have hR : Rows K N xs ls := hC.rows
        have hlen := hR.len
        have hN3 := ex_l o.e3 hN
        have hV : Vs K H3 l ls := vs_of (sq_of (o.e0 _ _ sing_at)) (hR.mono o.e1) (by omega) hver
        have hPo := o.e2 _ _ hP
        refine q_n (P := pVer) o (ep_callN (S := R__law_verse K) (eps_cons (ep_v (ev_var rfl)) (eps_cons (ep_v (ev_var rfl)) (eps_cons (P := pLst (((ns.drop (9 + 6 * i)).take 6).map V.int)) (ep_l (el_is (el_sl' (lo := some ((9 + 6 * i : Nat) : Int)) (hi := some ((15 + 6 * i : Nat) : Int)) (ev_var rfl) (eo_some (ev_is (ev_op ev_c (ev_op ev_c (ev_var rfl) (rv_mulI (cmul_small (by decide) (by omega)))) rv_addI) (by congr 1))) (eo_some (ev_is (ev_op ev_c (ev_op ev_c (ev_var rfl) (rv_mulI (cmul_small (by decide) (by omega)))) rv_addI) (by congr 1))) hN3) (by rw [cut_mid ns _ _ (by omega), show 15 + 6 * i - (9 + 6 * i) = 6 by omega]))) eps_nil))) fun vs H4 e4 ha => ?_) fun v H1 Nl o hp => ?_
        · cases ha with
          | cons h1 hr => cases hr with
            | cons h2 hr => cases hr with
              | cons h3 hr =>
                cases hr
                obtain ⟨_, _, h1⟩ := h1
                obtain ⟨_, _, h2⟩ := h2
                have h1 : _ = V.ref l := h1
                have h2 : _ = V.ref pp := h2
                subst h1 h2
                obtain ⟨N1, i1, c, rfl, hc⟩ := h3
                refine ⟨l, pp, c, ls, pool, _, rfl, hV.mono e4, sq_of (e4 _ _ hPo), hp1, hp2, hsyl, Nm.drop hall (i1 _ _ hc), ?_, rfl⟩
                rw [List.length_take, List.length_drop]; omega
        obtain ⟨c, line, rfl, hc, hline⟩ := hp
        have hV : Vs K H1 l ls := vs_of (sq_of (o.e1 _ _ sing_at)) (hR.mono o.e2) (by omega) hver
        have hln : Ln K H1 c line := ⟨sq_of (o.e0 _ _ hc), ver_txt hline⟩
        have hRr := hR.mono o.e2
        refine s_wh o (et_test (ev_allI (n := xs.length) (fun j => [some (.ref p), some (.int n), some (.ref pp), some (.ref l), some (.int (i : Nat)), some (.ref c), some (xs.getD j .non)]) (fun j => !alikeM line (row1 ls j)) (ei_list (ev_var rfl) (sq_of (o.e1 _ _ sing_at)) (Ex.refl _)) (Ex.refl _) (by omega) (fun j x H' _ hx Q q => by rw [getD_of hx] at q; exact q) (fun _ _ => rfl) (fun j H4 e4 hj => ?_))) (fun hb H1 o => ?_) (fun hb H1 o => ?_)
        · obtain ⟨q, hq, hL⟩ := hV.1.row hRr (i := j) (by omega)
          refine ev_notV ((ev_callO (S := R_alike K) (vs := [.ref c, .ref q]) (ea_cons (ev_var rfl) (ea_cons (ev_var (by rw [getD_of hq]; rfl)) ea_nil)) ⟨c, q, line, row1 ls j, rfl, hln.mono e4, hL.mono e4, rfl⟩))
        · refine s_app (j := 1) o rfl (ev_var rfl) (ev_var rfl) (by omega) fun H1 o => ?_
          have o : Own [Nl, sing l (.lst (xs ++ [.ref c])), N, Np, H] H1 := o
          have o2 : Own [sing l (.lst (xs ++ [.ref c])), Nl, N, Np, H] H1 := o.swap
          have dN : ∀ a, Nl a ≠ none → N a = none := o2.dj (i := 1) (j := 2) (by decide) rfl rfl
          refine ⟨xs ++ [.ref c], uni N Nl, ls ++ [line], _, _, rfl, own_merge2 o2, cr_snoc (hC.mono (uni_l dN)) (uni_r _ _ hc), ?_, ?_, ?_, ?_⟩
          · rw [List.length_append, List.length_singleton]; omega
          · intro _; rw [List.length_append, List.length_singleton]; omega
          · intro l hl
            rcases List.mem_append.mp hl with z | z
            · exact hver l z
            · rw [List.mem_singleton.mp z]; exact hline
          · rw [hlen] at hb
            exact apart_snoc hap hb
        · refine ⟨xs, N, ls, _, _, rfl, o.tail, hC, by omega, fun _ => ?_, hver, hap⟩
          rcases Nat.eq_zero_or_pos ls.length with z | z
          · rw [hlen, z] at hb
            cases hb
          · exact z
      · rintro σ H2 ⟨xs, N, ls, y4, y5, rfl, o, hC, hli, hl1, hver, hap⟩
        have hR : Rows K N xs ls := hC.rows
        refine s_rv o (ev_var rfl) fun H1 o => ?_
        have o2 : Own [uni N (sing l (.lst xs)), Np, H] H1 := o.merge
        have dN : ∀ a, sing l (.lst xs) a ≠ none → N a = none := o.dj (i := 0) (j := 1) (by decide) rfl rfl
        exact o2.ret k (i := 0) (j := 2) rfl rfl ⟨l, ls, rfl, vs_of (sq_of (uni_r _ _ sing_at)) (hR.mono (uni_l dN)) (by omega) hver, ⟨hl1 (by omega), by omega, hver, hap⟩, xs, uni_r _ _ sing_at, hC.mono (uni_l dN)⟩
end
section
variable {P : Program} {w : World} {K : PySem.W.Frag} {mg : Str → Option Value} {base : Heap}
def R__law_copy (K : PySem.W.Frag) : Rl := ⟨fun vs H r => ∃ (v : Addr) (ls : List (List Str)), vs = [.ref v] ∧ Bk K H v ls ∧ r = .ok (pRows K ls), fun e ⟨v, ls, h1, h2, h3⟩ => ⟨v, ls, h1, h2.mono e, h3⟩⟩
theorem Bk.sm {H : Hp} {v : Addr} {ls : List (List Str)} (h : Bk K H v ls) : smD (eBook ls) := smD_book (by have := h.2.1; omega) fun l hl => by have := (h.2.2 l hl).1; omega
theorem needR_ok {ls : List (List Str)} {P : Hp → V → Prop} (h : needM ls = none) : needR ls P = .ok P := by unfold needR; rw [h]
theorem depth_book (ls : List (List Str)) : (eBook ls).depth < 3 := by
  have := depth_rows ls
  simp only [PyData.depth]
  omega
theorem depth_line (l : List Str) : (eLine l).depth < 3 := by
  simp only [PyData.depth, depth_strs]
  omega
theorem depth_int (i : Int) : (PyData.int i).depth < 3 := by simp only [PyData.depth]; omega
end
abbrev s__law_book_told : Stmt := topS 32
theorem sc__law_book_told : FnScope ["_law_book_here", "_law_verses", "_law_verse_here"] ["_law_book_here", "_law_verses"] (defScope s__law_book_told) := ⟨rfl, rfl, rfl, by decide +kernel, rfl, by decide +kernel, by decide +kernel⟩
section
variable {P : Program} {w : World} {K : PySem.W.Frag} {mg : Str → Option Value} {base : Heap}
def R__law_book_told (K : PySem.W.Frag) (C : Addr) : Rl := ⟨fun vs H r => ∃ (b v : Addr) (ls : List (List Str)), vs = [.ref b, .ref v] ∧ BookAt K C H b ls ∧ Bk K H v ls ∧ r = .ok (is (.bl true)), fun e ⟨b, v, ls, h1, h2, h3, h4⟩ => ⟨b, v, ls, h1, h2.mono e, h3.mono e, h4⟩⟩
theorem ok__law_book_told (B : Bt mg) {C_Book : Addr} (O_Book_many : OkM P w K mg base 1 C_Book "many" ["self"] ((R_Book_many K C_Book).sp mg)) (O_Book_verse : OkM P w K mg base 1 C_Book "verse" ["self", "number"] ((R_Book_verse K C_Book).sp mg)) (O_Book_verses : OkM P w K mg base 1 C_Book "verses" ["self"] ((R_Book_verses K C_Book).sp mg)) (O__law_same : ∀ n, Ok P w K mg base n "_law_same" ["_law_found", "_law_due"] ((R__law_same K n).sp mg)) (D : Df K mg "_law_book_told" s__law_book_told ["_law_book_here", "_law_verses"]) : Ok P w K mg base 4 "_law_book_told" ["_law_book_here", "_law_verses"] ((R__law_book_told K C_Book).sp mg) := by
  have O__law_same := O__law_same 3
  refine D.ok sc__law_book_told (fun vs H Q E h => ?_) (fun f cdv A outer s H vs Q E hr h => ?_)
  · obtain ⟨r, ⟨b, v, ls, rfl, _⟩, _⟩ := h
    rfl
  · obtain ⟨r, ⟨b, v, ls, rfl, hBk, hB, rfl⟩, k⟩ := h
    refine ⟨_, (pss_cons (ps_if (PW.pt (pw_or (pt_not (pt_val (pe_callO O__law_same (hr.mono (by omega)) (by rfl) (takes_of rfl rfl rfl rfl) (pa_cons (pe_methO0 O_Book_many (pv 0) (hr.mono (by omega)) (takes_of rfl rfl rfl rfl)) (pa_cons (pe_callB (call_lenK K) (by rfl) B.len boot_b_len (pa_cons (pv 1) pa_nil)) pa_nil))))) (pw_or1 (pt_not (pt_val (pe_callO O__law_same (hr.mono (by omega)) (by rfl) (takes_of rfl rfl rfl rfl) (pa_cons (pe_methO0 O_Book_verses (pv 0) (hr.mono (by omega)) (takes_of rfl rfl rfl rfl)) (pa_cons (pv 1) pa_nil))))))))
        (pss_one (ps_ret pe_bl))
        pss_nil)
      (pss_one (ps_ret (pe_callB (cr_allK K rfl) (by rfl) B.all boot_b_all (pa_cons (pe_lc (own := [("_law_verse_here", 2)]) rfl sc__law_book_told.nd (pi_range1 (by rfl) B.range (pa_cons (pe_callB (call_lenK K) (by rfl) B.len boot_b_len (pa_cons (pv 1) pa_nil)) pa_nil)) (blkOk_by (N := ["_law_book_here", "_law_verses", "_law_verse_here"]) (sc := defScope s__law_book_told) (by decide +kernel)) (fun _ _ _ _ _ => (pg_name (i := 2) sc__law_book_told.nd rfl (.inl rfl))) (fun _ _ _ _ _ => pts_nil) (fun _ _ _ _ _ => (pe_callO O__law_same (hr.mono (by omega)) (by rfl) takes0 (pa_cons (pe_methO O_Book_verse (pv 0) (hr.mono (by omega)) takes0 (pa_cons (pv 2) pa_nil)) (pa_cons (pe_ix (ix_seqK K) (pv 1) (pv 2) (fun _ _ => rfl)) pa_nil))))) pa_nil))))), ?_⟩
    obtain ⟨⟨dx, p, hb, hBp⟩, hn⟩ := hBk
    have hBk : BookAt K C_Book H b ls := ⟨⟨dx, p, hb, hBp⟩, hn⟩
    obtain ⟨xs, hS, hR⟩ := hB.rows
    have hl := hR.len
    have hl2 := hB.2.1
    refine q_wh (b := false) (Own.one H) (et_or (et_not (et_B (ev_callO (S := R__law_same K 3) (vs := [.int (ls.length : Nat), .int (ls.length : Nat)]) (ea_cons (ev_p (ep_meth (S := R_Book_many K C_Book) (ev_var rfl) hb rfl ea_nil ⟨b, ls, rfl, hBk, rfl⟩)) (ea_cons (ev_is (ev_cb (by wtm_at "ev") (rc_lenL hS)) (by rw [hl])) ea_nil)) ⟨_, _, .int _, rfl, .int _, .int _, trivial, depth_int _, rfl⟩))) fun _ => et_not (et_B (ev_callN (v := .bl true) (S := R__law_same K 3) (eps_cons (P := pRows K ls) (ep_meth (S := R_Book_verses K C_Book) (ev_var rfl) hb rfl ea_nil ⟨b, ls, rfl, hBk, rfl⟩) (eps_cons (ep_v (ev_var rfl)) eps_nil)) fun vs H2 e2 ha => ?_))) (fun h => nomatch h) (fun _ H1 o => ?_)
    · cases ha with
      | cons h1 hr => cases hr with
        | cons h2 hr =>
          cases hr
          obtain ⟨N1, i1, c, rfl, hc, _⟩ := h1
          obtain ⟨_, _, h2⟩ := h2
          have h2 : _ = V.ref v := h2
          subst h2
          exact ⟨_, _, eBook ls, rfl, dp_mono i1 hc.1, dp_mono e2 hB.1, hB.sm, depth_book ls, rfl⟩
    · have hBk := hBk.mono o.e0
      have hB := hB.mono o.e0
      have hS := ex_l o.e0 hS
      have hR := hR.mono o.e0
      have hb := o.e0 _ _ hb
      refine s_rv o (ev_allI (n := ls.length) (fun i => [some (.ref b), some (.ref v), some (.int (i : Nat))]) (fun _ => true) (ei_rng1 (m := (ls.length : Nat)) (ea_cons (ev_is (ev_cb (by wtm_at "ev") (rc_lenL hS)) (by rw [hl])) ea_nil) (by omega)) (Ex.refl _) (by omega) (fun i x H' _ hx Q q => by rw [hx]; exact q) (fun _ _ => rfl) (fun i H2 e2 hi => ?_)) fun H1 o => o.retV k (j := 0) rfl ?_
      · obtain ⟨q, hq, hL⟩ := hB.row hR (i := i) hi
        refine ev_callN (S := R__law_same K 3) (eps_cons (P := pLine (row1 ls i)) (ep_meth (S := R_Book_verse K C_Book) (ev_var rfl) (e2 _ _ hb) rfl (ea_cons (ev_var rfl) ea_nil) ⟨b, ls, (i : Nat), rfl, hBk.mono e2, ?_⟩) (eps_cons (ep_v (ev_op (ev_var rfl) (ev_var rfl) (rv_ixLs (ex_l e2 hS) (atI_nat hq)))) eps_nil)) fun vs H3 e3 ha => ?_
        · unfold verseR
          rw [if_pos ⟨by omega, by omega⟩]
          rfl
        · cases ha with
          | cons h1 hr => cases hr with
            | cons h2 hr =>
              cases hr
              obtain ⟨N1, i1, c, rfl, hc⟩ := h1
              obtain ⟨_, _, h2⟩ := h2
              have h2 : _ = V.ref q := h2
              subst h2
              exact ⟨_, _, eLine (row1 ls i), rfl, dp_line.mpr ⟨c, rfl, sq_of (i1 _ _ hc)⟩, dp_line.mpr ⟨q, rfl, ex_l (e2.trans e3) hL.1⟩, smD_line (by have := hL.2.1; omega), depth_line _, rfl⟩
      · exact congrArg V.bl (List.all_eq_true.mpr fun _ _ => rfl)
/-! ### rows that are spoiled -/
end
abbrev s__law_is_line : Stmt := topS 33
theorem sc__law_is_line : FnScope ["_law_line", "_law_text", "_law_sign"] ["_law_line"] (defScope s__law_is_line) := ⟨rfl, rfl, rfl, by decide +kernel, rfl, by decide +kernel, by decide +kernel⟩
section
variable {P : Program} {w : World} {K : PySem.W.Frag} {mg : Str → Option Value} {base : Heap}
theorem not_tB {b : Bool} (h : (!b) = true) : b = false := by cases b <;> trivial
theorem not_fB {b : Bool} (h : (!b) = false) : b = true := by cases b <;> trivial
theorem ok__law_is_line (B : Bt mg) (D : Df K mg "_law_is_line" s__law_is_line ["_law_line"]) : Ok P w K mg base 1 "_law_is_line" ["_law_line"] ((R_is_verse K).sp mg) := by
  refine D.ok sc__law_is_line (fun vs H Q E h => ?_) (fun f cdv A outer s H vs Q E hr h => ?_)
  · obtain ⟨r, ⟨p, l, rfl, _⟩, _⟩ := h
    rfl
  · obtain ⟨r, ⟨p, l, rfl, ⟨h1, hl, ht⟩, rfl⟩, k⟩ := h
    refine ⟨_, (pss_cons (ps_if (pt_not (pt_chain op_le op_le pe_int (pe_callB (call_lenK K) (by rfl) B.len boot_b_len (pa_cons (pv 0) pa_nil)) pe_int))
        (pss_one (ps_ret pe_bl))
        pss_nil)
      (pss_cons (ps_for (passes_of rfl) rfl (pi_listK K (pv 0)) (pg_name (i := 1) sc__law_is_line.nd rfl (.inl rfl))
        (pss_one (ps_if (PW.pt (pw_or (pt_not (pt_chain op_le op_le pe_int (pe_callB (call_lenK K) (by rfl) B.len boot_b_len (pa_cons (pv 1) pa_nil)) pe_int)) (pw_or1 (pt_not (pt_val (pe_callB (cr_allK K rfl) (by rfl) B.all boot_b_all (pa_cons (pe_lc (own := [("_law_sign", 2)]) rfl sc__law_is_line.nd (pi_str (pv 1)) (blkOk_by (N := ["_law_line", "_law_text", "_law_sign"]) (sc := defScope s__law_is_line) (by decide +kernel)) (fun _ _ _ _ _ => (pg_name (i := 2) sc__law_is_line.nd rfl (.inl rfl))) (fun _ _ _ _ _ => pts_nil) (fun _ _ _ _ _ => (pe_cmpR (op_inK K (hu65 hr)) (pv 2) pe_str (by rfl)))) pa_nil)))))))
          (pss_one (ps_ret pe_bl))
          pss_nil)))
      (pss_one (ps_ret pe_bl)))), ?_⟩
    refine q_wh (Own.one H) (et_not (et_test (ev_chain ev_c (ev_cb (by wtm_at "ev") (rc_lenL h1)) ev_c))) (fun hb H1 o => ?_) (fun hb H1 o => ?_)
    · rw [List.length_map] at hb
      refine s_rv o ev_c fun H1 o => o.retV k (j := 0) rfl ?_
      unfold isVer
      rw [not_tB hb, Bool.false_and]
    · rw [List.length_map] at hb
      have hb := not_fB hb
      refine q_forN (G := H) o (ei_list (ev_var rfl) h1 o.e0) (fun i σ H' => ∃ y1, σ = [some (.ref p), y1, none] ∧ Own [H] H' ∧ ∀ (j : Nat) (s : Str), j < i → l[j]? = some s → isSyl s = true) (fun H1 o => ⟨_, rfl, o, fun j s hj => absurd hj (Nat.not_lt_zero _)⟩) (fun i σ H' _ ⟨_, _, o, _⟩ => o.e0) ?_ ?_
      · rintro i x σ H1 H2 hi ⟨y1, rfl, o, ha⟩ e hx
        have o := o.mono e
        rw [List.length_map] at hi
        have hx : (l.map V.str)[i]? = some x := hx
        rw [List.getElem?_map, List.getElem?_eq_getElem hi] at hx
        obtain rfl : V.str l[i] = x := Option.some.inj hx
        have hz := (ht _ (List.getElem_mem hi)).1
        refine s_wh (b := !isSyl l[i]) o (et_is (et_or (et_not (et_test (ev_chain ev_c (ev_cb (by wtm_at "ev") (rc_lenS (by omega))) ev_c))) fun _ => et_not (et_B (ev_allX (fun x => [some (.ref p), some (.str l[i]), some x]) inLT (ei_strX (G := H2) (ev_var rfl)) (Ex.refl _) (by rw [signs_len]; omega) (fun _ _ _ _ q => q) (fun _ => rfl) (fun x H2 e2 hx => by
            obtain ⟨c, _, rfl⟩ := List.mem_map.mp hx
            exact ev_is (ev_op (ev_var rfl) ev_c rv_sign) (by simp [inLT, LT]))))) (by rw [signs_in]; unfold isSyl; rw [← Bool.not_and])) (fun hb2 H3 o => ?_) (fun hb2 H3 o => ?_)
        · refine s_rv o ev_c fun H1 o => o.retV k (j := 0) rfl ?_
          have hb2 : isSyl l[i] = false := by simpa using hb2
          have : l.all isSyl = false := List.all_eq_false.mpr ⟨_, List.getElem_mem hi, by rw [hb2]; decide⟩
          unfold isVer
          rw [this, Bool.and_false]
        · have hb2 : isSyl l[i] = true := by simpa using hb2
          exact ⟨_, rfl, o, fun j s hj hs => by
            rcases Nat.lt_succ_iff_lt_or_eq.mp hj with z | z
            · exact ha j s z hs
            · rw [z, List.getElem?_eq_getElem hi] at hs
              rw [← Option.some.inj hs]
              exact hb2⟩
      · rintro σ H1 ⟨y1, rfl, o, ha⟩
        refine s_rv o ev_c fun H1 o => o.retV k (j := 0) rfl ?_
        have : l.all isSyl = true := List.all_eq_true.mpr fun s hs => by
          obtain ⟨j, hj, rfl⟩ := List.getElem_of_mem hs
          exact ha j _ (by rw [List.length_map]; exact hj) (List.getElem?_eq_getElem hj)
        unfold isVer
        rw [hb, this]
        rfl
end
section
variable {P : Program} {w : World} {K : PySem.W.Frag} {mg : Str → Option Value} {base : Heap}
section
variable {σ : L2.St} {H : Hp} {te ta tb : TE}
end
def OkL (m : Nat) (l : List Str) : Prop := l.length ≤ m ∧ ∀ s ∈ l, TxtOk s
def cLine (m : Nat) : Hp → V → Prop := fun H v => ∃ c l, v = .ref c ∧ H c = some (.lst (l.map V.str)) ∧ OkL m l
theorem Cells.mono {H H' : Hp} {p : Addr} {ls : List (List Str)} (e : Ex H H') (h : Cells H p ls) : Cells H' p ls := by
  obtain ⟨xs, h1, h2⟩ := h
  exact ⟨xs, e _ _ h1, CR.mono e h2⟩
theorem paired_append {α β : Type} {R : α → β → Prop} : ∀ {xs : List α} {ys : List β} {us : List α} {ws : List β}, Paired R xs ys → Paired R us ws → Paired R (xs ++ us) (ys ++ ws)
  | _, _, _, _, .nil, h => h
  | _, _, _, _, .cons a r, h => .cons a (paired_append r h)
theorem paired_take {α β : Type} {R : α → β → Prop} : ∀ {xs : List α} {ys : List β} (n : Nat), Paired R xs ys → Paired R (xs.take n) (ys.take n)
  | _, _, 0, _ => by rw [List.take_zero, List.take_zero]; exact .nil
  | _, _, n + 1, .nil => by simp only [List.take_nil]; exact .nil
  | _, _, n + 1, .cons a r => by simp only [List.take_succ_cons]; exact .cons a (paired_take n r)
theorem paired_drop {α β : Type} {R : α → β → Prop} : ∀ {xs : List α} {ys : List β} (n : Nat), Paired R xs ys → Paired R (xs.drop n) (ys.drop n)
  | _, _, 0, h => by rw [List.drop_zero, List.drop_zero]; exact h
  | _, _, n + 1, .nil => by simp only [List.drop_nil]; exact .nil
  | _, _, n + 1, .cons a r => by simp only [List.drop_succ_cons]; exact paired_drop n r
end
section
variable {P : Program} {w : World} {K : PySem.W.Frag} {mg : Str → Option Value} {base : Heap}
/-- whole numbers at u -/
def Nl (K : PySem.W.Frag) (H : Hp) (u : Addr) (ns : List Int) : Prop := SqL K H u (ns.map V.int) ∧ ns.length ≤ 1000
theorem Nl.mono {H H' : Hp} {u : Addr} {ns : List Int} (e : Ex H H') (h : Nl K H u ns) : Nl K H' u ns := ⟨ex_l e h.1, h.2⟩
def okN (m : Nat) (ns : List Int) : Bool := ns.all fun n => decide (0 ≤ n) && decide (n < (m : Int))
end
section
variable {P : Program} {w : World} {K : PySem.W.Frag} {mg : Str → Option Value} {base : Heap}
theorem dpa_map {α : Type} {f : α → PyData} {H : Hp} : ∀ {xs : List V} {l : List α}, Paired (fun x q => Dp K H x (f q)) xs l → DpAll K H xs (l.map f)
  | _, _, .nil => .nil
  | _, _, .cons h r => .cons h (dpa_map r)
/-- a new list of new pairs -/
def CP (N : Hp) (xs : List V) (acc : List (Str × Nat)) : Prop := Paired (fun x q => ∃ t, x = V.ref t ∧ N t = some (.tup [.str q.1, .int (q.2 : Nat)])) xs acc
theorem CP.mono {N M : Hp} {xs : List V} {acc : List (Str × Nat)} (e : Ex N M) (h : CP N xs acc) : CP M xs acc := paired_imp (fun _ _ ⟨q, h1, h2⟩ => ⟨q, h1, e _ _ h2⟩) h
abbrev eCnt (p : Str × Nat) : PyData := .tuple [.str p.1, .int (p.2 : Nat)]
theorem CP.dp {N : Hp} {xs : List V} {acc : List (Str × Nat)} (h : CP N xs acc) : DpAll K N xs (acc.map eCnt) := dpa_map (paired_imp (fun x q ⟨t, h1, h2⟩ => by rw [h1]; exact .tup (st_of h2) (.cons (.str _) (.cons (.int _) .nil))) h)
end
section
variable {P : Program} {w : World} {K : PySem.W.Frag} {mg : Str → Option Value} {base : Heap}
/-- numbers of verses below n -/
def Un (n : Nat) (us : List Nat) : Prop := (∀ i ∈ us, i < n) ∧ us.length ≤ n + 2
end
section
variable {P : Program} {w : World} {K : PySem.W.Frag} {mg : Str → Option Value} {base : Heap}
abbrev intsN (us : List Nat) : List Int := us.map fun i => ((i : Nat) : Int)
theorem Un.ok {n : Nat} {us : List Nat} (h : Un n us) : okN n (intsN us) = true := by
  unfold okN
  refine List.all_eq_true.mpr fun x hx => ?_
  obtain ⟨i, hi, rfl⟩ := List.mem_map.mp hx
  have := h.1 i hi
  rw [decide_eq_true (by omega), decide_eq_true (by omega)]
  rfl
end
section
variable {K : PySem.W.Frag} {σ : L2.St} {H : Hp} {ta tb te : TE} {D : Ends} {tz : TS} {Ns : List Hp}
section
variable {n j : Nat} {tu : TS}
end
end
section
variable {P : Program} {w : World} {K : PySem.W.Frag} {mg : Str → Option Value} {base : Heap}
/-! ### rows of numbers -/
abbrev eRws (rs : List (List Int)) : PyData := .list (rs.map eInts)
def RwS (K : PySem.W.Frag) (H : Hp) (xs : List V) (rs : List (List Int)) : Prop := Paired (fun x l => ∃ q, x = V.ref q ∧ SqL K H q (l.map V.int)) xs rs
theorem RwS.mono {H H' : Hp} {xs : List V} {rs : List (List Int)} (e : Ex H H') (h : RwS K H xs rs) : RwS K H' xs rs := paired_imp (fun _ _ ⟨q, a, b⟩ => ⟨q, a, ex_l e b⟩) h
theorem dp_rws {H : Hp} {x : V} {rs : List (List Int)} : Dp K H x (eRws rs) ↔ ∃ q xs, x = .ref q ∧ SqL K H q xs ∧ RwS K H xs rs := by
  constructor
  · intro h
    cases h with
    | lst h r =>
      refine ⟨_, _, rfl, h, ?_⟩
      clear h
      rename_i q xs
      induction rs generalizing xs with
      | nil => cases r; exact .nil
      | cons l rs ih =>
        cases r with
        | cons a r =>
          obtain ⟨q, e, s⟩ := dp_ints.mp a
          exact .cons ⟨q, e, s⟩ (ih r)
  · rintro ⟨q, xs, rfl, h, r⟩
    exact .lst h (dpa_map (paired_imp (fun x l ⟨q, e, s⟩ => dp_ints.mpr ⟨q, e, s⟩) r))
/-- rows of numbers at r -/
def Rw (K : PySem.W.Frag) (H : Hp) (r : Addr) (rs : List (List Int)) : Prop := Dp K H (.ref r) (eRws rs) ∧ rs.length ≤ 1000 ∧ ∀ l ∈ rs, l.length ≤ 1000
theorem Rw.mono {H H' : Hp} {r : Addr} {rs : List (List Int)} (e : Ex H H') (h : Rw K H r rs) : Rw K H' r rs := ⟨dp_mono e h.1, h.2⟩
theorem Rw.rows {H : Hp} {r : Addr} {rs : List (List Int)} (h : Rw K H r rs) : ∃ xs, SqL K H r xs ∧ RwS K H xs rs := by
  obtain ⟨q, xs, e, h1, h2⟩ := dp_rws.mp h.1
  cases e
  exact ⟨xs, h1, h2⟩
theorem Rw.ly {H : Hp} {r : Addr} {rs : List (List Int)} (h : Rw K H r rs) : Ly 2 (eRws rs) := ly_list (by rw [List.length_map]; have := h.2.1; omega) fun d hd => by
  obtain ⟨l, hl, rfl⟩ := List.mem_map.mp hd
  exact ly_ints (by have := h.2.2 l hl; omega)
theorem RwS.get {H : Hp} {xs : List V} {rs : List (List Int)} {i : Nat} {l : List Int} (h : RwS K H xs rs) (hi : rs[i]? = some l) : ∃ q, xs[i]? = some (.ref q) ∧ SqL K H q (l.map V.int) := by
  have hlen := Paired.length h
  have hlt := (List.getElem?_eq_some_iff.mp hi).1
  have hx : xs[i]? = some xs[i] := List.getElem?_eq_getElem (by omega)
  obtain ⟨y, hy, q, e, s⟩ := LiI.paired_get h hx
  rw [hi] at hy
  cases hy
  exact ⟨q, by rw [hx, e], s⟩
/-- rows that lie in N itself -/
def CIi (N : Hp) (xs : List V) (rs : List (List Int)) : Prop := Paired (fun x l => ∃ t, x = V.ref t ∧ N t = some (.lst (l.map V.int))) xs rs
theorem CIi.mono {N N' : Hp} {xs : List V} {rs : List (List Int)} (e : Ex N N') (h : CIi N xs rs) : CIi N' xs rs := paired_imp (fun _ _ ⟨t, a, b⟩ => ⟨t, a, e _ _ b⟩) h
theorem CIi.rw {N : Hp} {p : Addr} {xs : List V} {rs : List (List Int)} (h : N p = some (.lst xs)) (c : CIi N xs rs) (h1 : rs.length ≤ 1000) (h2 : ∀ l ∈ rs, l.length ≤ 1000) : Rw K N p rs := ⟨dp_rws.mpr ⟨p, xs, rfl, sq_of h, paired_imp (fun _ _ ⟨t, a, b⟩ => ⟨t, a, sq_of b⟩) c⟩, h1, h2⟩
/-! ### what a field may be -/
def okCd (n : Nat) (c : Int) : Bool := decide (0 ≤ c) && decide (c < (n : Int))
def okRw (n : Nat) (l : List Int) : Bool := decide ((l.length : Int) ≤ 12) && l.all (okCd n)
def fldM (n : Nat) (rs : List (List Int)) : Bool := (decide ((1 : Int) ≤ (rs.length : Int)) && decide ((rs.length : Int) ≤ 3)) && rs.all (okRw n)
end
section
variable {P : Program} {w : World} {K : PySem.W.Frag} {mg : Str → Option Value} {base : Heap}
/-! ### where the cards lie -/
abbrev Pl := Int × Nat × Nat × Nat
def cardsP (f r : Nat) (l : List Int) : List Pl := l.zipIdx.map fun p => (p.1, f, r, p.2)
def rowsP (f : Nat) (rs : List (List Int)) : List Pl := rs.zipIdx.flatMap fun p => cardsP f p.2 p.1
def plM (Fs : List (List (List Int))) : List Pl := Fs.zipIdx.flatMap fun p => rowsP p.2 p.1
/-- the dict of the places; the tuples lie in N -/
def KP (N : Hp) (kvs : List (Key × V)) (acc : List Pl) : Prop := Paired (fun kv q => kv.1 = .inl q.1 ∧ ∃ t, kv.2 = V.ref t ∧ N t = some (.tup [.int (q.2.1 : Nat), .int (q.2.2.1 : Nat), .int (q.2.2.2 : Nat)])) kvs acc
theorem KP.mono {N N' : Hp} {kvs : List (Key × V)} {acc : List Pl} (e : Ex N N') (h : KP N kvs acc) : KP N' kvs acc := paired_imp (fun _ _ ⟨a, t, b, c⟩ => ⟨a, t, b, e _ _ c⟩) h
theorem KP.has : ∀ {N : Hp} {kvs : List (Key × V)} {acc : List Pl} (c : Int), KP N kvs acc → (valV kvs (.inl c)).isSome = decide (c ∈ acc.map (·.1))
  | _, [], _, c, .nil => by simp [valV]
  | _, (k, v) :: kvs, q :: acc, c, .cons h r => by
    have ih := KP.has c r
    have hk : k = .inl q.1 := h.1
    by_cases e : q.1 = c
    · have h1 : valV ((k, v) :: kvs) (.inl c) = some v := valV_pos (p := (k, v)) (by rw [hk, e])
      rw [h1]
      simp [e]
    · have h1 : valV ((k, v) :: kvs) (.inl c) = valV kvs (.inl c) := valV_neg (p := (k, v)) (fun z => e (by rw [hk] at z; exact Sum.inl.inj z))
      rw [h1, ih]
      have : c ∈ (q :: acc).map (·.1) ↔ c ∈ acc.map (·.1) := by
        rw [List.map_cons, List.mem_cons]
        exact ⟨fun z => z.elim (fun y => absurd y.symm e) id, .inr⟩
      by_cases hm : c ∈ acc.map (·.1)
      · rw [decide_eq_true hm, decide_eq_true (this.mpr hm)]
      · rw [decide_eq_false hm, decide_eq_false fun z => hm (this.mp z)]
theorem KP.val : ∀ {N : Hp} {kvs : List (Key × V)} {acc : List Pl} {q : Pl}, KP N kvs acc → (acc.map (·.1)).Nodup → q ∈ acc → ∃ t, valV kvs (.inl q.1) = some (.ref t) ∧ N t = some (.tup [.int (q.2.1 : Nat), .int (q.2.2.1 : Nat), .int (q.2.2.2 : Nat)])
  | _, [], _, q, .nil, _, hq => by cases hq
  | _, (k, v) :: kvs, p :: acc, q, .cons h r, nd, hq => by
    rw [List.map_cons] at nd
    obtain ⟨n1, n2⟩ := List.nodup_cons.mp nd
    have hk : k = .inl p.1 := h.1
    rcases List.mem_cons.mp hq with e | e
    · subst e
      obtain ⟨_, t, hv, ht⟩ := h
      exact ⟨t, by rw [valV_pos (p := (k, v)) (show k = .inl q.1 from hk)]; exact congrArg some hv, ht⟩
    · have ne : ¬ k = .inl q.1 := fun z => n1 (by
        rw [hk] at z
        rw [Sum.inl.inj z]
        exact List.mem_map.mpr ⟨q, e, rfl⟩)
      obtain ⟨t, h1, h2⟩ := KP.val r n2 e
      exact ⟨t, by rw [valV_neg (p := (k, v)) ne]; exact h1, h2⟩
/-- fields of rows at f -/
def Fd (K : PySem.W.Frag) (H : Hp) (f : Addr) (Fs : List (List (List Int))) : Prop := ∃ xs, SqL K H f xs ∧ Paired (fun x F => ∃ q, x = V.ref q ∧ Rw K H q F) xs Fs ∧ Fs.length ≤ 100 ∧ (plM Fs).length ≤ 1000
theorem Fd.mono {H H' : Hp} {f : Addr} {Fs : List (List (List Int))} (e : Ex H H') (h : Fd K H f Fs) : Fd K H' f Fs := by
  obtain ⟨xs, h1, h2, h3⟩ := h
  exact ⟨xs, ex_l e h1, paired_imp (fun _ _ ⟨q, a, b⟩ => ⟨q, a, b.mono e⟩) h2, h3⟩
def goodP (Fs : List (List (List Int))) : Bool := decide (((plM Fs).map (·.1)).Nodup)
/-- what stands while the places are gathered -/
def StP (H : Hp) (d : Addr) (acc : List Pl) (H' : Hp) : Prop := ∃ (T : Hp) (kvs : List (Key × V)), Own [sing d (.dK kvs), T, H] H' ∧ KP T kvs acc ∧ (acc.map (·.1)).Nodup
theorem StP.mono {H G G' : Hp} {d : Addr} {acc : List Pl} (e : Ex G G') : StP H d acc G → StP H d acc G' := fun ⟨T, kvs, o, h1, h2⟩ => ⟨T, kvs, o.mono e, h1, h2⟩
theorem StP.eH {H G : Hp} {d : Addr} {acc : List Pl} : StP H d acc G → Ex H G := fun ⟨T, kvs, o, _⟩ => o.e2
end
section
variable {P : Program} {w : World} {K : PySem.W.Frag} {mg : Str → Option Value} {base : Heap}
theorem fld_rows {n : Nat} {rs : List (List Int)} (h : fldM n rs = true) : (1 ≤ rs.length ∧ rs.length ≤ 3) ∧ ∀ l ∈ rs, l.length ≤ 12 ∧ ∀ c ∈ l, 0 ≤ c ∧ c < (n : Int) := by
  unfold fldM at h
  simp only [Bool.and_eq_true, decide_eq_true_eq, List.all_eq_true] at h
  refine ⟨⟨by omega, by omega⟩, fun l hl => ?_⟩
  have h2 := h.2 l hl
  unfold okRw okCd at h2
  simp only [Bool.and_eq_true, decide_eq_true_eq, List.all_eq_true] at h2
  exact ⟨by omega, fun c hc => h2.2 c hc⟩
/-- rows of the heap's own -/
def HC (H : Hp) (a : Addr) (F : List (List Int)) : Prop := ∃ xs, H a = some (.lst xs) ∧ CIi H xs F
theorem HC.mono {H H' : Hp} {a : Addr} {F : List (List Int)} (e : Ex H H') (h : HC H a F) : HC H' a F := by
  obtain ⟨xs, h1, h2⟩ := h
  exact ⟨xs, e _ _ h1, h2.mono e⟩
/-- a deal: its rows and the places lie in things of its own -/
def DealK (K : PySem.W.Frag) (C : Addr) (H : Hp) (d b : Addr) (F0 F1 : List (List Int)) (kvs : List (Key × V)) : Prop := ∃ dx pf ph a0 a1, H d = some (.ins C dx [("bound", .ref b), ("fields", .ref pf), ("homes", .ref ph)]) ∧ H pf = some (.lst [.ref a0, .ref a1]) ∧ Rw K H a0 F0 ∧ Rw K H a1 F1 ∧ H ph = some (.dK kvs) ∧ KP H kvs (plM [F0, F1]) ∧ HC H a0 F0 ∧ HC H a1 F1
theorem DealK.mono {C : Addr} {H H' : Hp} {d b : Addr} {F0 F1 : List (List Int)} {kvs : List (Key × V)} (e : Ex H H') (h : DealK K C H d b F0 F1 kvs) : DealK K C H' d b F0 F1 kvs := by
  obtain ⟨dx, pf, ph, a0, a1, h1, h2, h3, h4, h5, h6, h7, h8⟩ := h
  exact ⟨dx, pf, ph, a0, a1, e _ _ h1, e _ _ h2, h3.mono e, h4.mono e, e _ _ h5, h6.mono e, h7.mono e, h8.mono e⟩
def dealM (n : Nat) (F0 F1 : List (List Int)) : Bool := fldM n F0 && (fldM n F1 && goodP [F0, F1])
structure TDeal (K : PySem.W.Frag) (mg : Str → Option Value) (C : Addr) : Prop where
  cl : Cls K C
  g : mg "Deal" = some (.ref C)
  n_bound : NoAttr K C "bound"
  n_fields : NoAttr K C "fields"
  n_homes : NoAttr K C "homes"
def fieldM (F0 F1 : List (List Int)) (i : Int) : List (List Int) := if i = 0 then F0 else F1
end
section
variable {P : Program} {w : World} {K : PySem.W.Frag} {mg : Str → Option Value} {base : Heap}
/-! ### lists of new lists, unlike one another -/
def CA (N : Hp) (ts : List Addr) (Cs : List (List V)) : Prop := Paired (fun t l => N t = some (.lst l)) ts Cs
theorem CA.mono {N N' : Hp} {ts : List Addr} {Cs : List (List V)} (e : Ex N N') (h : CA N ts Cs) : CA N' ts Cs := paired_imp (fun _ _ a => e _ _ a) h
theorem ep_lcNew {σ : L2.St} {H G : Hp} {te : TE} {g : TG} {wi : TI} {n : Nat} {Y : Nat → V → Hp → Prop} {vs : List Nat} (S : Nat → L2.St) (v : Nat → List V) (hi : EvI wi σ H G n Y) (eG : Ex G H) (hn : n ≤ 50000) (hg : ∀ i x H', i < n → Y i x H' → ∀ Q : L2.St → Hp → Prop, Q (S i) H' → g x (wipe σ vs) H' Q) (hw : ∀ i, i < n → wipe (S i) vs = wipe σ vs)
    (he : ∀ i H1, Ex H H1 → i < n → EvL te (S i) H1 (v i)) :
    EvP (tLc wi g tYes te vs) σ H (fun N w => ∃ p ts, w = .ref p ∧ N p = some (.lst (ts.map V.ref)) ∧ CA N ts ((List.range n).map v) ∧ (p :: ts).Nodup) := fun H0 e Q q =>
  hi H0 e _ fun J H1 e1 d Dl hD => lc_drw d (fun i H' => ∃ (N : Hp) (ts : List Addr), Own [sing Dl (.lst (ts.map V.ref)), N, H1] H' ∧ CA N ts ((List.range i).map v) ∧ (Dl :: ts).Nodup ∧ ts.length = i)
    ⟨emp, [], ⟨sing_ex upd_same, fun M hM a ha => by
      rcases List.mem_cons.mp hM with z | z
      · subst z; rfl
      · have z : M = H1 := by simpa using z
        subst z
        by_cases qa : a = Dl
        · subst qa; exact hD
        · exact absurd (sing_ne qa) ha, emp_ex, (fun _ _ a ha => absurd rfl ha), Ex.new hD, (fun _ h => nomatch h), trivial⟩, .nil, by simp, rfl⟩
    (fun i H' _ ⟨N, ts, o, _⟩ => ((eG.trans e).trans e1).trans o.e2) (fun i x H' H'' hlt ⟨N, ts, o, pr, nd, hl⟩ e2 hy => hg i x H'' hlt hy _ ⟨hw i hlt, by
      have o2 := o.mono e2
      show te (S i) H'' _
      refine he i H'' ((e.trans e1).trans o2.e2) hlt H'' (Ex.refl _) _ fun t H4 ht e4 h4 => ?_
      have o4 : Own [sing t (.lst (v i)), sing Dl (.lst (ts.map V.ref)), N, H1] H4 := o2.add e4 (sing_ex h4) (sing_fr ht)
      have hN : N t = none := ex_none o2.e1 ht
      have htD : t ≠ Dl := fun z => by
        have := o2.e0 Dl _ sing_at
        rw [← z, ht] at this
        cases this
      have htn : t ∉ ts := fun hm => by
        obtain ⟨j, l, _, _, g3⟩ := LiI.paired_ix pr hm
        rw [hN] at g3
        cases g3
      refine ⟨ts.map V.ref, o4.at (j := 1) rfl, by rw [List.length_map]; exact sz_lt (by omega), uni N (sing t (.lst (v i))), ts ++ [t], ?_, ?_, ?_, by rw [List.length_append, hl]; rfl⟩
      · have e5 : (ts ++ [t]).map V.ref = ts.map V.ref ++ [.ref t] := by rw [List.map_append]; rfl
        rw [e5]
        have o5 : Own [sing t (.lst (v i)), sing Dl (.lst (ts.map V.ref ++ [.ref t])), N, H1] (upd H4 Dl (.lst (ts.map V.ref ++ [.ref t]))) := o4.set (j := 1) rfl
        exact own_merge2 o5.swap
      · have dj : ∀ a, (sing t (.lst (v i))) a ≠ none → N a = none := o4.dj (i := 0) (j := 2) (by decide) rfl rfl
        rw [List.range_succ, List.map_append]
        exact paired_append (CA.mono (uni_l dj) pr) (.cons (uni_r _ _ sing_at) .nil)
      · obtain ⟨n1, n2⟩ := List.nodup_cons.mp nd
        refine List.nodup_cons.mpr ⟨fun z => ?_, List.nodup_append.mpr ⟨n2, by simp, fun a ha b hb e => ?_⟩⟩
        · rcases List.mem_append.mp z with z | z
          · exact n1 z
          · exact htD (List.mem_singleton.mp z).symm
        · exact htn (by rw [← List.mem_singleton.mp hb, ← e]; exact ha)⟩) (fun H' ⟨N, ts, o, pr, nd, _⟩ => q (.ref Dl) H' (uni N (sing Dl (.lst (ts.map V.ref)))) (e1.trans o.e2) (uni_ex o.e1 o.e0) (uni_fr (Fr.back e1 (o.dj (i := 1) (j := 2) (by decide) rfl rfl)) (sing_fr (fresh_back e1 hD))) ⟨Dl, ts, rfl, uni_r _ _ sing_at, pr.mono (uni_l (o.dj (i := 0) (j := 1) (by decide) rfl rfl)), nd⟩)
/-! ### the fields drawn -/
/-- rows of both fields, behind one another; n0: so many are the first field's -/
structure FOk (m n0 : Nat) (C : List (List Int)) : Prop where
  lo : 1 ≤ n0 ∧ n0 ≤ 3
  hi : n0 + 1 ≤ C.length ∧ C.length ≤ n0 + 3
  len : ∀ l ∈ C, l.length ≤ 12
  rng : ∀ c ∈ C.flatten, 0 ≤ c ∧ c < (m : Int)
  nd : C.flatten.Nodup
theorem FOk.up {m n0 : Nat} {C : List (List Int)} (h : FOk m n0 C) : FOk (m + 1) n0 C := ⟨h.lo, h.hi, h.len, fun c hc => by have := h.rng c hc; omega, h.nd⟩
theorem pl_keys (Fs : List (List (List Int))) : (plM Fs).map (·.1) = (Fs.map List.flatten).flatten := by
  have hc : ∀ f r (l : List Int), (cardsP f r l).map (·.1) = l := fun f r l => by
    unfold cardsP
    rw [List.map_map]
    show (l.zipIdx).map Prod.fst = l
    exact List.zipIdx_map_fst ..
  have hr : ∀ f (rs : List (List Int)) k, ((rs.zipIdx k).flatMap fun p => cardsP f p.2 p.1).map (·.1) = rs.flatten := fun f rs => by
    induction rs with
    | nil => intro k; rfl
    | cons x r ih => intro k; rw [List.zipIdx_cons, List.flatMap_cons, List.map_append, hc, ih]; rfl
  have hp : ∀ (Fs : List (List (List Int))) k, ((Fs.zipIdx k).flatMap fun p => rowsP p.2 p.1).map (·.1) = (Fs.map List.flatten).flatten := fun Fs => by
    induction Fs with
    | nil => intro k; rfl
    | cons x r ih =>
      intro k
      rw [List.zipIdx_cons, List.flatMap_cons, List.map_append, ih]
      unfold rowsP
      rw [hr]
      rfl
  exact hp Fs 0
theorem FOk.fld {m n0 : Nat} {C : List (List Int)} (h : FOk m n0 C) : fldM m (C.take n0) = true ∧ fldM m (C.drop n0) = true ∧ goodP [C.take n0, C.drop n0] = true := by
  have row : ∀ {R : List (List Int)}, (1 ≤ R.length ∧ R.length ≤ 3) → (∀ l ∈ R, l ∈ C) → fldM m R = true := fun {R} hl hm => by
    unfold fldM okRw okCd
    simp only [Bool.and_eq_true, decide_eq_true_eq, List.all_eq_true]
    exact ⟨⟨by omega, by omega⟩, fun l hl => ⟨by have := h.len l (hm l hl); omega, fun c hc => h.rng c (List.mem_flatten.mpr ⟨l, hm l hl, hc⟩)⟩⟩
  have h1 := h.lo
  have h2 := h.hi
  refine ⟨row (by rw [List.length_take]; omega) fun l hl => List.mem_of_mem_take hl, row (by rw [List.length_drop]; omega) fun l hl => List.mem_of_mem_drop hl, ?_⟩
  unfold goodP
  refine decide_eq_true ?_
  rw [pl_keys]
  show ((C.take n0).flatten ++ ((C.drop n0).flatten ++ [])).Nodup
  rw [List.append_nil, ← List.flatten_append, List.take_append_drop]
  exact h.nd
/-- the fields as they lie in M -/
def FAt (M : Hp) (p : Addr) (n0 : Nat) (C : List (List Int)) : Prop := ∃ (a b : Addr) (L : List Addr), M p = some (.lst [.ref a, .ref b]) ∧ M a = some (.lst ((L.take n0).map V.ref)) ∧ M b = some (.lst ((L.drop n0).map V.ref)) ∧ CA M L (C.map fun l => l.map V.int) ∧ (p :: a :: b :: L).Nodup
end
section
variable {P : Program} {w : World} {K : PySem.W.Frag} {mg : Str → Option Value} {base : Heap}
/-- new rows of numbers, unlike one another -/
abbrev pRwN (rs : List (List Int)) : Hp → V → Prop := fun N w => ∃ p ts, w = V.ref p ∧ N p = some (.lst (ts.map V.ref)) ∧ CA N ts (rs.map fun l => l.map V.int) ∧ (p :: ts).Nodup
theorem range_rows (rs : List (List Int)) : ((List.range rs.length).map fun i => (rs.getD i []).map V.int) = rs.map fun l => l.map V.int := by
  refine List.ext_getElem (by simp) fun i h1 h2 => ?_
  have hi : i < rs.length := by simpa using h1
  simp [List.getD_eq_getElem?_getD, List.getElem?_eq_getElem hi]
/-- [list(row) for row in rows] -/
theorem ep_copyNI {σ : L2.St} {H : Hp} {tl : TE} {p : Addr} {rs : List (List Int)} {j : Nat} {vs : List Nat} (S : V → L2.St) (h : Ev tl σ H (.ref p)) (hB : Rw K H p rs) (hg : ∀ x, (wipe σ vs).set j (some x) = S x) (hw : ∀ x, wipe (S x) vs = wipe σ vs) (hj : ∀ x, (S x)[j]? = some (some x)) :
    EvP (tLc (iList K tl) (gName j) tYes (tCB (rListS K) (tCons (tVar j) tNil)) vs) σ H (pRwN rs) := by
  obtain ⟨xs, hS, hR⟩ := hB.rows
  have hl := Paired.length hR
  have hl2 := hB.2.1
  refine ep_imp (ep_lcNew (n := xs.length) (fun i => S (xs.getD i .non)) (fun i => (rs.getD i []).map V.int) (ei_list h hS (Ex.refl _)) (Ex.refl _) (by omega) (fun i x H' _ hx Q q => by rw [getD_of hx, ← hg] at q; exact q) (fun _ _ => hw _) (fun i H1 e hlt => ?_)) ?_
  · have hi : rs[i]? = some (rs.getD i []) := by rw [List.getD_eq_getElem?_getD, List.getElem?_eq_getElem (by omega)]; rfl
    obtain ⟨q, hq, hL⟩ := hR.get hi
    rw [getD_of hq]
    exact fun H2 e2 Q k => ev_var (hj _) H2 e2 _ fun H3 e3 => ⟨q, _, rfl, .inl (ex_l ((e.trans e2).trans e3) hL), fun l hl => k l _ (fresh_back e3 hl) (e3.trans (Ex.new hl)) upd_same⟩
  · rintro N v ⟨p', ts, rfl, hp, hca, nd⟩
    rw [hl, range_rows] at hca
    exact ⟨p', ts, rfl, hp, hca, nd⟩
def R_copiedN (K : PySem.W.Frag) : Rl := ⟨fun vs H r => ∃ (v : Addr) (rs : List (List Int)), vs = [.ref v] ∧ Rw K H v rs ∧ r = .ok (pRwN rs), fun e ⟨v, rs, h1, h2, h3⟩ => ⟨v, rs, h1, h2.mono e, h3⟩⟩
/-- rows of texts, or rows of numbers -/
def R__law_copy2 (K : PySem.W.Frag) : Rl := ⟨fun vs H r => (R__law_copy K).R vs H r ∨ (R_copiedN K).R vs H r, fun e h => h.imp ((R__law_copy K).mono e) ((R_copiedN K).mono e)⟩
theorem ok__law_copy (B : Bt mg) (D : Df K mg "_law_copy" s__law_copy ["_law_rows"]) : Ok P w K mg base 1 "_law_copy" ["_law_rows"] ((R__law_copy2 K).sp mg) := by
  refine D.ok sc__law_copy (fun vs H Q E h => ?_) (fun f cdv A outer s H vs Q E hr h => ?_)
  · obtain ⟨r, h | h, _⟩ := h
    · obtain ⟨v, ls, rfl, _⟩ := h
      rfl
    · obtain ⟨v, ls, rfl, _⟩ := h
      rfl
  · obtain ⟨r, h, k⟩ := h
    refine ⟨_, (pss_one (ps_ret (pe_lc (own := [("_law_row", 1)]) rfl sc__law_copy.nd (pi_listK K (pv 0)) (blkOk_by (N := ["_law_rows", "_law_row"]) (sc := defScope s__law_copy) (by decide +kernel)) (fun _ _ _ _ _ => (pg_name (i := 1) sc__law_copy.nd rfl (.inl rfl))) (fun _ _ _ _ _ => pts_nil) (fun _ _ _ _ _ => (pe_callTy (call_listK K) (by rfl) B.list boot_ty_list (pa_cons (pv 1) pa_nil)))))), ?_⟩
    rcases h with ⟨v, ls, rfl, hB, rfl⟩ | ⟨v, rs, rfl, hB, rfl⟩
    · exact s_rn (Own.one H) (ep_copy (fun x => [some (.ref v), some x]) (ev_var rfl) hB (fun _ => rfl) (fun _ => rfl) (fun _ => rfl)) fun v H1 N o p => o.ret k (i := 0) (j := 1) rfl rfl p
    · exact s_rn (Own.one H) (ep_copyNI (fun x => [some (.ref v), some x]) (ev_var rfl) hB (fun _ => rfl) (fun _ => rfl) (fun _ => rfl)) fun v H1 N o p => o.ret k (i := 0) (j := 1) rfl rfl p
/-- two fields at p -/
def Fl (K : PySem.W.Frag) (H : Hp) (p : Addr) (F0 F1 : List (List Int)) : Prop := ∃ a b, SqL K H p [.ref a, .ref b] ∧ Rw K H a F0 ∧ Rw K H b F1
theorem Fl.mono {H H' : Hp} {p : Addr} {F0 F1 : List (List Int)} (e : Ex H H') (h : Fl K H p F0 F1) : Fl K H' p F0 F1 := by
  obtain ⟨a, b, h1, h2, h3⟩ := h
  exact ⟨a, b, ex_l e h1, h2.mono e, h3.mono e⟩
theorem Fl.at {H : Hp} {p : Addr} {F0 F1 : List (List Int)} (h : Fl K H p F0 F1) {i : Nat} (hi : i < 2) : ∃ xs c, SqL K H p xs ∧ atI xs ((i : Nat) : Int) = some (.ref c) ∧ Rw K H c (fieldM F0 F1 ((i : Nat) : Int)) := by
  obtain ⟨a, b, h1, h2, h3⟩ := h
  rcases i with _ | _ | i
  · exact ⟨_, a, h1, rfl, h2⟩
  · exact ⟨_, b, h1, rfl, h3⟩
  · omega
theorem CA.rws {M : Hp} {ts : List Addr} {C : List (List Int)} (h : CA M ts (C.map fun l => l.map V.int)) : CIi M (ts.map V.ref) C := by
  induction C generalizing ts with
  | nil => cases h; exact .nil
  | cons l r ih =>
    cases h with
    | cons h1 h2 => exact .cons ⟨_, rfl, h1⟩ (ih h2)
theorem FAt.fl {M : Hp} {p : Addr} {m n0 : Nat} {C : List (List Int)} (h : FAt M p n0 C) (o : FOk m n0 C) : Fl K M p (C.take n0) (C.drop n0) := by
  obtain ⟨a, b, L, h1, h2, h3, h4, _⟩ := h
  have lo := o.lo
  have hi := o.hi
  have len : ∀ l ∈ C, l.length ≤ 1000 := fun l hl => by have := o.len l hl; omega
  refine ⟨a, b, sq_of h1, CIi.rw h2 ?_ (by rw [List.length_take]; omega) fun l hl => len l (List.mem_of_mem_take hl), CIi.rw h3 ?_ (by rw [List.length_drop]; omega) fun l hl => len l (List.mem_of_mem_drop hl)⟩
  · rw [List.map_take]
    exact paired_take n0 (CA.rws h4)
  · rw [List.map_drop]
    exact paired_drop n0 (CA.rws h4)
theorem FOk.deal {m n0 : Nat} {C : List (List Int)} (h : FOk m n0 C) : dealM m (C.take n0) (C.drop n0) = true := by
  obtain ⟨h1, h2, h3⟩ := h.fld
  unfold dealM
  rw [h1, h2, h3]
  rfl
end
section
variable {P : Program} {w : World} {K : PySem.W.Frag} {mg : Str → Option Value} {base : Heap}
/-- two fields, in lists of their own, at p -/
def FlX (H : Hp) (p : Addr) (F0 F1 : List (List Int)) : Prop := ∃ a b xs ys, H p = some (.lst [.ref a, .ref b]) ∧ H a = some (.lst xs) ∧ CIi H xs F0 ∧ H b = some (.lst ys) ∧ CIi H ys F1
theorem FlX.mono {H H' : Hp} {p : Addr} {F0 F1 : List (List Int)} (e : Ex H H') (h : FlX H p F0 F1) : FlX H' p F0 F1 := by
  obtain ⟨a, b, xs, ys, h1, h2, h3, h4, h5⟩ := h
  exact ⟨a, b, xs, ys, e _ _ h1, e _ _ h2, h3.mono e, e _ _ h4, h5.mono e⟩
theorem FlX.fl {H : Hp} {p : Addr} {F0 F1 : List (List Int)} {n : Nat} (h : FlX H p F0 F1) (h0 : fldM n F0 = true) (h1 : fldM n F1 = true) : Fl K H p F0 F1 := by
  obtain ⟨a, b, xs, ys, g1, g2, g3, g4, g5⟩ := h
  obtain ⟨⟨_, l0⟩, r0⟩ := fld_rows h0
  obtain ⟨⟨_, l1⟩, r1⟩ := fld_rows h1
  exact ⟨a, b, sq_of g1, CIi.rw g2 g3 (by omega) (fun l hl => by have := (r0 l hl).1; omega), CIi.rw g4 g5 (by omega) (fun l hl => by have := (r1 l hl).1; omega)⟩
theorem FlX.at {H : Hp} {p : Addr} {F0 F1 : List (List Int)} (h : FlX H p F0 F1) {i : Nat} (hi : i < 2) : ∃ zs c xs, H p = some (.lst zs) ∧ atI zs ((i : Nat) : Int) = some (.ref c) ∧ H c = some (.lst xs) ∧ CIi H xs (fieldM F0 F1 ((i : Nat) : Int)) := by
  obtain ⟨a, b, xs, ys, g1, g2, g3, g4, g5⟩ := h
  rcases i with _ | _ | i
  · exact ⟨_, a, xs, g1, rfl, g2, g3⟩
  · exact ⟨_, b, ys, g1, rfl, g4, g5⟩
  · omega
end
section
end
section
variable {P : Program} {w : World} {K : PySem.W.Frag} {mg : Str → Option Value} {base : Heap}
def rowOk (F0 F1 : List (List Int)) (f r : Int) : Bool := (decide (0 ≤ f) && decide (f ≤ 1)) && (decide (0 ≤ r) && decide (r < ((fieldM F0 F1 f).length : Int)))
def rowAt (F0 F1 : List (List Int)) (f r : Int) : List Int := (fieldM F0 F1 f).getD r.toNat []
theorem row_ok {F0 F1 : List (List Int)} {f r : Int} (h : rowOk F0 F1 f r = true) : (0 ≤ f ∧ f ≤ 1) ∧ 0 ≤ r ∧ r.toNat < (fieldM F0 F1 f).length ∧ (fieldM F0 F1 f)[r.toNat]? = some (rowAt F0 F1 f r) := by
  unfold rowOk at h
  simp only [Bool.and_eq_true, decide_eq_true_eq] at h
  have hl : r.toNat < (fieldM F0 F1 f).length := by omega
  exact ⟨h.1, h.2.1, hl, by unfold rowAt; rw [List.getD_eq_getElem?_getD, List.getElem?_eq_getElem hl]; rfl⟩
theorem DealK.row {C : Addr} {H : Hp} {d b : Addr} {F0 F1 : List (List Int)} {kvs : List (Key × V)} {i j : Int} (T : TDeal K mg C) (h : DealK K C H d b F0 F1 kvs) (ho : rowOk F0 F1 i j = true) : ∃ q, SqL K H q ((rowAt F0 F1 i j).map V.int) ∧ ∀ {σ : L2.St} {G : Hp} {td ti tj : TE}, Ex H G → Ev td σ G (.ref d) → Ev ti σ G (.int i) → Ev tj σ G (.int j) → Ev (tOp (rIx K) (tOp (rIx K) (tFld K td "fields") ti) tj) σ G (.ref q) := by
  obtain ⟨dx, pf, ph, a0, a1, h1, h2, h3, h4, _⟩ := h
  obtain ⟨hi, hj, hl, hrow⟩ := row_ok ho
  obtain ⟨a, ha, hr⟩ : ∃ a, atI [V.ref a0, .ref a1] i = some (.ref a) ∧ Rw K H a (fieldM F0 F1 i) := by
    by_cases z : i = 0
    · subst z
      exact ⟨a0, rfl, h3⟩
    · have : i = 1 := by omega
      subst this
      exact ⟨a1, rfl, h4⟩
  obtain ⟨xs, hS, hR⟩ := hr.rows
  obtain ⟨q, hq, hL⟩ := hR.get hrow
  have e : (j.toNat : Int) = j := by omega
  refine ⟨q, hL, fun e1 hd hi hj => ev_op (ev_op (ev_fld hd (e1 _ _ h1) T.cl T.n_fields rfl) hi (rv_ixLs (sq_of (e1 _ _ h2)) ha)) hj (rv_ixLs (ex_l e1 hS) (by rw [← e]; exact atI_nat hq))⟩
end
section
variable {P : Program} {w : World} {K : PySem.W.Frag} {mg : Str → Option Value} {base : Heap}
end
section
variable {P : Program} {w : World} {K : PySem.W.Frag} {mg : Str → Option Value} {base : Heap}
/-! ### kinds, and the promises of earlier texts told by kinds -/
theorem paired_ints {H : Hp} : ∀ {xs : List V} {l : List Int}, Paired (tI.R H) xs l → xs = l.map V.int
  | _, _, .nil => rfl
  | _, _, .cons h r => by
    obtain rfl := h
    rw [paired_ints r]
    rfl
theorem paired_txts {H : Hp} : ∀ {xs : List V} {l : List Str}, Paired (tX.R H) xs l → xs = l.map V.str ∧ ∀ s ∈ l, TxtOk s
  | _, _, .nil => ⟨rfl, fun _ h => nomatch h⟩
  | _, _, .cons h r => by
    obtain ⟨rfl, h2⟩ := h
    obtain ⟨h3, h4⟩ := paired_txts r
    refine ⟨by rw [h3]; rfl, fun s hs => ?_⟩
    rcases List.mem_cons.mp hs with z | z
    · rw [z]; exact h2
    · exact h4 s z
theorem txts_paired {H : Hp} : ∀ {l : List Str}, (∀ s ∈ l, TxtOk s) → Paired (tX.R H) (l.map V.str) l
  | [], _ => .nil
  | s :: l, h => .cons ⟨rfl, h s List.mem_cons_self⟩ (txts_paired fun t ht => h t (List.mem_cons_of_mem _ ht))
theorem ints_of {H : Hp} {v : V} {l : List Int} (h : (tL K tI).R H v l) : ∃ p, v = .ref p ∧ SqL K H p (l.map V.int) := by
  obtain ⟨p, xs, h1, h2, h3, _⟩ := h
  rw [paired_ints h3] at h2
  exact ⟨p, h1, h2⟩
theorem ln_of {H : Hp} {v : V} {l : List Str} (h : (tL K tX).R H v l) (hl : l.length ≤ 1000) : ∃ p, v = .ref p ∧ Ln K H p l := by
  obtain ⟨p, xs, h1, h2, h3, _⟩ := h
  obtain ⟨h4, h5⟩ := paired_txts h3
  rw [h4] at h2
  exact ⟨p, h1, h2, hl, h5⟩
theorem nm_of {H : Hp} {v : V} {l : List Int} (h : (tL K tI).R H v l) (hb : ∀ n ∈ l, 0 ≤ n ∧ n < 9967) : ∃ p, v = .ref p ∧ Nm K H p l := by
  obtain ⟨p, h1, h2⟩ := ints_of h
  exact ⟨p, h1, h2, hb⟩
theorem bk_of {H : Hp} {v : V} {ls : List (List Str)} (h : (tL K (tL K tX)).R H v ls) (h1 : ls.length ≤ 1000) (h2 : ∀ l ∈ ls, l.length ≤ 1000) : ∃ p, v = .ref p ∧ Bk K H p ls := by
  have hd := Pla.dp (K := K) (T := tL K (tL K tX)) h
  obtain ⟨p, xs, rfl, h4, h5, h6⟩ := h
  refine ⟨p, rfl, hd, h1, fun l hl => ⟨h2 l hl, ?_⟩⟩
  obtain ⟨i, hi, rfl⟩ := List.mem_iff_getElem.mp hl
  obtain ⟨v, _, q, ys, _, _, g3, _⟩ := paired_at h5 (List.getElem?_eq_getElem hi)
  exact (paired_txts g3).2
theorem w_ints {N : Hp} {p : Addr} {l : List Int} (h : N p = some (.lst (l.map V.int))) (hl : l.length ≤ 40000) : (tW tI).R N (.ref p) l := ⟨p, _, rfl, h, paired_mapI l, hl⟩
theorem w_cells {N : Hp} {p : Addr} {ls : List (List Str)} (c : Cells N p ls) (h1 : ls.length ≤ 1000) (h2 : ∀ l ∈ ls, l.length ≤ 1000 ∧ ∀ s ∈ l, TxtOk s) : (tW (tW tX)).R N (.ref p) ls := by
  obtain ⟨xs, hp, c⟩ := c
  refine ⟨p, xs, rfl, hp, ?_, by omega⟩
  clear hp h1
  induction c with
  | nil => exact .nil
  | cons a r ih =>
    obtain ⟨t, rfl, h4⟩ := a
    obtain ⟨h5, h6⟩ := h2 _ List.mem_cons_self
    exact .cons ⟨t, _, rfl, h4, txts_paired h6, by omega⟩ (ih fun l hl => h2 l (List.mem_cons_of_mem _ hl))
/-- a book | a deal, with its book -/
def tBook (K : PySem.W.Frag) (C : Addr) : Tp (List (List Str)) := ⟨fun H v ls => ∃ b, v = .ref b ∧ BookAt K C H b ls, fun e ⟨b, h1, h2⟩ => ⟨b, h1, h2.mono e⟩⟩
structure DealM where
  ls : List (List Str)
  F0 : List (List Int)
  F1 : List (List Int)
deriving Inhabited
def tDeal (K : PySem.W.Frag) (CB C : Addr) : Tp DealM := ⟨fun H v d => ∃ a b kvs, v = .ref a ∧ DealK K C H a b d.F0 d.F1 kvs ∧ BookAt K CB H b d.ls ∧ dealM d.ls.length d.F0 d.F1 = true, fun e ⟨a, b, kvs, h1, h2, h3, h4⟩ => ⟨a, b, kvs, h1, h2.mono e, h3.mono e, h4⟩⟩
instance {C : Addr} : NN (tBook K C) := ⟨fun ⟨_, h, _⟩ z => by cases h; cases z⟩
instance {CB C : Addr} : NN (tDeal K CB C) := ⟨fun ⟨_, _, _, h, _⟩ z => by cases h; cases z⟩
theorem book_ins {C : Addr} {G : Hp} {v : V} {ls : List (List Str)} {m : Str} (hm : ("lines" == m) = false) (h : (tBook K C).R G v ls) : ∃ a dx gs, v = .ref a ∧ G a = some (.ins C dx gs) ∧ gs.lookup m = none := by
  obtain ⟨b, rfl, ⟨dx, p, h1, _⟩, _⟩ := h
  refine ⟨b, dx, _, rfl, h1, ?_⟩
  have : (m == "lines") = false := by rw [BEq.comm]; exact hm
  simp [List.lookup, this]
/-! ### earlier promises -/
theorem ad__law_numbers {G : Hp} {vs : List V} {ns : List Int} {m : Int} (ha : ArgsR G vs [⟨tL K tI, ns⟩, ⟨tI, m⟩]) (h : 0 ≤ m ∧ m ≤ 5000) : (R__law_numbers K).R vs G (.ok (pNums m.toNat)) := by
  obtain ⟨v, w, rfl, h1, rfl⟩ := args2 ha
  obtain ⟨p, rfl, h2⟩ := ints_of h1
  exact ⟨p, ns, m, rfl, h2, h.1, h.2, rfl⟩
theorem cv_nums {m : Int} (hm : m ≤ 5000) : ∀ N v, pNums m.toNat N v → ∃ y, (tW tI).R N v y ∧ Nums m.toNat y := fun N v ⟨p, ns, h1, h2, h3⟩ => by
  subst h1
  exact ⟨ns, w_ints h2 (by have := h3.1; omega), h3⟩
theorem ad__law_book {G : Hp} {vs : List V} {ns : List Int} {n : Int} (ha : ArgsR G vs [⟨tL K tI, ns⟩, ⟨tI, n⟩]) (h : (∀ x ∈ ns, 0 ≤ x ∧ x < 9967) ∧ 9 + 6 * n ≤ ns.length ∧ 1 ≤ n ∧ n ≤ 40) : (R__law_book K).R vs G (.ok (pGood K n.toNat)) := by
  obtain ⟨v, w, rfl, h1, rfl⟩ := args2 ha
  obtain ⟨p, rfl, h2⟩ := nm_of h1 h.1
  exact ⟨p, ns, n, rfl, h2, h.2.1, h.2.2.1, h.2.2.2, rfl⟩
theorem cv_good {n : Nat} : ∀ N v, pGood K n N v → ∃ y, (tW (tW tX)).R N v y ∧ GB n y ∧ ∀ l ∈ y, l.length ≤ 1000 := fun N v ⟨p, ls, h1, h2, h3, h4⟩ => by
  subst h1
  exact ⟨ls, w_cells h4 h2.1.2.1 h2.1.2.2, h3, fun l hl => (h2.1.2.2 l hl).1⟩
theorem ad__law_copyT {G : Hp} {vs : List V} {ls : List (List Str)} (ha : ArgsR G vs [⟨tL K (tL K tX), ls⟩]) (h : ls.length ≤ 1000 ∧ ∀ l ∈ ls, l.length ≤ 1000) : (R__law_copy2 K).R vs G (.ok (pRows K ls)) := by
  obtain ⟨v, rfl, h1⟩ := args1 ha
  obtain ⟨p, rfl, h2⟩ := bk_of h1 h.1 h.2
  exact .inl ⟨p, ls, rfl, h2, rfl⟩
theorem cv_rows {ls : List (List Str)} : ∀ N v, pRows K ls N v → (tW (tW tX)).R N v ls := fun N v ⟨p, h1, h2, h3⟩ => by
  subst h1
  exact w_cells h3 h2.2.1 h2.2.2
theorem ad_Book {C : Addr} {G : Hp} {vs : List V} {ls : List (List Str)} (ha : ArgsR G vs [⟨tL K (tL K tX), ls⟩]) (h : needM ls = none ∧ ls.length ≤ 1000 ∧ ∀ l ∈ ls, l.length ≤ 1000) : (R_Book K C).R vs G (.ok (pBook K C ls)) := by
  obtain ⟨v, rfl, h1⟩ := args1 ha
  obtain ⟨p, rfl, h2⟩ := bk_of h1 h.2.1 h.2.2
  exact ⟨p, ls, rfl, h2, (needR_ok h.1).symm⟩
theorem get2a {α : Type} [Inhabited α] {a b : α} : getI [a, b] 0 = a := rfl
theorem get2b {α : Type} [Inhabited α] {a b : α} : getI [a, b] 1 = b := rfl
/-- fields as they were drawn -/
def FldsOk (n : Nat) (rows : List (List (List Int))) : Prop := ∃ n0 C, FOk n n0 C ∧ rows = [C.take n0, C.drop n0]
theorem FldsOk.deal {n : Nat} {rows : List (List (List Int))} (h : FldsOk n rows) : rows.length = 2 ∧ dealM n (getI rows 0) (getI rows 1) = true := by
  obtain ⟨n0, C, h1, rfl⟩ := h
  rw [get2a, get2b]
  exact ⟨rfl, h1.deal⟩
theorem ad__law_same {α : Type} {T S : Tp α} [Z : Pla K T] [Y : Pla K S] {G : Hp} {vs : List V} {x y : α} {n : Nat} (hxy : Z.enc = Y.enc) (hn : Z.dep < n) (ha : ArgsR G vs [⟨T, x⟩, ⟨S, y⟩]) (h : x = y) : (R__law_same K n).R vs G (.ok (is (.bl true))) := by
  obtain ⟨v, w, rfl, h1, h2⟩ := args2 ha
  subst h
  have h3 := Y.dp h2
  rw [← hxy] at h3
  exact ⟨v, w, Z.enc x, rfl, Z.dp h1, h3, Z.sm h1, Nat.lt_of_le_of_lt (Z.depth x) hn, rfl⟩
end
local macro_rules | `(tactic| wtm_at "vc") => `(tactic| first
  | assumption
  | omega
  | trivial
  | (simp only [rngI_get, rngI2_get, enumI_get, rngI_mem, rngI2_mem, rngI_len, rngI2_len, enumI_len, List.length_nil, List.length_cons, List.length_append, List.length_map, List.length_set, Bool.and_eq_true, Bool.or_eq_true, Bool.or_eq_false_iff, Bool.and_eq_false_iff, Bool.not_eq_true', Bool.not_eq_false', decide_eq_true_eq, decide_eq_false_iff_not, Int.reduceToNat, Nums] at *; omega)
  | (subst_vars; simp only [rngI_get, rngI2_get, enumI_get, rngI_mem, rngI2_mem, rngI_len, rngI2_len, enumI_len, List.length_nil, List.length_cons, List.length_append, List.length_map, List.length_set, Bool.and_eq_true, Bool.or_eq_true, Bool.or_eq_false_iff, Bool.and_eq_false_iff, Bool.not_eq_true', Bool.not_eq_false', decide_eq_true_eq, decide_eq_false_iff_not, Int.reduceToNat, Nums] at *; omega)
  | rfl
  | decide)
local macro_rules | `(tactic| wtm_at "asm") => `(tactic| assumption)
section
variable {P : Program} {w : World} {K : PySem.W.Frag} {mg : Str → Option Value} {base : Heap}
theorem book_ok {C : Addr} {H : Hp} {v : V} {ls : List (List Str)} (h : (tBook K C).R H v ls) : needM ls = none := by
  obtain ⟨_, _, h⟩ := h
  exact h.2
/-- rows of two fields -/
structure RowsOk (rows : List (List (List Int))) : Prop where
  two : rows.length = 2
  row : ∀ r ∈ rows, (1 ≤ r.length ∧ r.length ≤ 3) ∧ ∀ c ∈ r, c.length ≤ 12
theorem getI_mem {α : Type} [Inhabited α] {l : List α} {i : Int} (h : -(l.length : Int) ≤ i ∧ i < l.length) : getI l i ∈ l := by
  have := atI_get h
  have e : atI l i = some (getI l i) := this
  unfold atI at e
  cases q : ixN l.length i with
  | none => rw [q] at e; cases e
  | some j =>
    rw [q] at e
    exact List.mem_of_getElem? e
theorem take_succ_of {α : Type} {l : List α} {i : Nat} {y : α} (h : l[i]? = some y) : l.take (i + 1) = l.take i ++ [y] := by
  obtain ⟨hi, rfl⟩ := List.getElem?_eq_some_iff.mp h
  exact (List.take_append_getElem hi).symm
theorem get3 {x a b c : Int} : getI [a, b, c] (x % 3) = a ∨ getI [a, b, c] (x % 3) = b ∨ getI [a, b, c] (x % 3) = c := by
  have h : x % 3 = 0 ∨ x % 3 = 1 ∨ x % 3 = 2 := by omega
  rcases h with h | h | h <;> rw [h]
  · exact .inl rfl
  · exact .inr (.inl rfl)
  · exact .inr (.inr rfl)
theorem cutI_from {α : Type} (l : List α) {a : Int} (ha : 0 ≤ a) : cutI l (some a) none = l.drop a.toNat := by
  obtain ⟨n, rfl⟩ : ∃ n : Nat, a = n := ⟨a.toNat, by omega⟩
  unfold cutI
  rw [HT.sIx_nat, HT.sIx_none, Int.toNat_natCast]
  by_cases h : n ≤ l.length
  · rw [Nat.min_eq_left h, List.take_of_length_le (by rw [List.length_drop]; omega)]
  · rw [Nat.min_eq_right (by omega), List.drop_length, List.drop_of_length_le (by omega), List.take_nil]
theorem Nums.cut {n : Nat} {l : List Int} (h : Nums n l) {a : Int} (ha : 0 ≤ a) : (∀ x ∈ cutI l (some a) none, 0 ≤ x ∧ x < 9967) ∧ (cutI l (some a) none).length = n - a.toNat := by
  rw [cutI_from l ha]
  exact ⟨fun x hx => h.2 x (List.mem_of_mem_drop hx), by rw [List.length_drop, h.1]⟩
theorem FldsOk.rows {n : Nat} {rows : List (List (List Int))} (h : FldsOk n rows) : RowsOk rows := by
  obtain ⟨n0, C, h1, rfl⟩ := h
  have lo := h1.lo
  have hi := h1.hi
  refine ⟨rfl, fun r hr => ?_⟩
  rcases List.mem_cons.mp hr with z | z
  · subst z
    exact ⟨by rw [List.length_take]; omega, fun c hc => h1.len c (List.mem_of_mem_take hc)⟩
  · rcases List.mem_cons.mp z with z | z
    · subst z
      exact ⟨by rw [List.length_drop]; omega, fun c hc => h1.len c (List.mem_of_mem_drop hc)⟩
    · cases z
theorem get3_le {x a b c : Int} {M : Nat} (ha : a.toNat ≤ M) (hb : b.toNat ≤ M) (hc : c.toNat ≤ M) : (getI [a, b, c] (x % 3)).toNat ≤ M := by
  rcases get3 (x := x) (a := a) (b := b) (c := c) with h | h | h <;> rw [h] <;> assumption
theorem get3_rng {x a b c : Int} {M : Int} (ha : 1 ≤ a ∧ a ≤ M) (hb : 1 ≤ b ∧ b ≤ M) (hc : 1 ≤ c ∧ c ≤ M) : 1 ≤ getI [a, b, c] (x % 3) ∧ getI [a, b, c] (x % 3) ≤ M := by
  rcases get3 (x := x) (a := a) (b := b) (c := c) with h | h | h <;> rw [h] <;> assumption
theorem book_pre {n : Nat} {l : List Int} {k m : Int} (M : Int) (h : Nums n l) (hm : 1 ≤ m ∧ m ≤ M) (hk : 0 ≤ k) (hn : 9 + 6 * M + k ≤ n) (hM : M ≤ 40) : (∀ x ∈ cutI l (some k) none, 0 ≤ x ∧ x < 9967) ∧ 9 + 6 * m ≤ (cutI l (some k) none).length ∧ 1 ≤ m ∧ m ≤ 40 := by
  obtain ⟨h1, h2⟩ := h.cut hk
  exact ⟨h1, by omega, hm.1, by omega⟩
theorem book_lens {m : Nat} {vs : List (List Str)} (hb : GB m vs ∧ ∀ l ∈ vs, l.length ≤ 1000) (hm : m ≤ 40) : needM vs = none ∧ vs.length ≤ 1000 ∧ ∀ l ∈ vs, l.length ≤ 1000 := by
  have := hb.1.len
  exact ⟨hb.1.need hm, by omega, hb.2⟩
end
section
variable {P : Program} {w : World} {K : PySem.W.Frag} {mg : Str → Option Value} {base : Heap}
/-! ### fields of a deal; where a verse lies -/
section
variable {σ : L2.St} {H B : Hp} {te : TE} {CB C : Addr} {d : DealM}
end
end
section
variable {P : Program} {w : World} {K : PySem.W.Frag} {mg : Str → Option Value} {base : Heap}
end
section
end
section
variable {P : Program} {w : World} {K : PySem.W.Frag} {mg : Str → Option Value} {base : Heap}
/-! ### texts of books: rows, words -/
def btxt (vs : List (List Str)) : Str := Txt.join ("\n" : Str) (vs.map fun l => Txt.join (" " : Str) l)
def nextB (vs : List (List Str)) (l : List Str) : Bool := if (decide ((vs.length : Int) ≥ 40) || !isVer l) = true then false else !(vs.any fun v => alikeM v l)
def wordsM (rs : List Str) : List (List Str) := rs.map fun r => Txt.split r (" " : Str)
def rowBad (ls : List (List Str)) (i : Nat) : Bool := decide (39 < i) || !isVer (row1 ls i) || (ls.take i).any fun v => alikeM (row1 ls i) v
def rowF (ls : List (List Str)) : Option Nat := (List.range ls.length).find? fun i => rowBad ls i
def readE (t : Str) : Option (Str × List (Str × V)) := (rowF (wordsM (Txt.split t ("\n" : Str)))).map fun i => (("BadText" : Str), [(("row" : Str), V.int (i : Nat))])
def firstI (rs : List Str) : Int := match rowF (wordsM rs) with
  | some i => (i : Int)
  | none => -1
def RowN (k : Nat) (r : Str) : Prop := r.length + 20 ≤ 60 * 2 ^ k ∧ ∀ c ∈ cs r, c < 128 ∧ c ≠ 10
def RwK (k : Nat) (rs : List Str) : Prop := rs.length + 1 ≤ 45 * 2 ^ k ∧ ∀ r ∈ rs, RowN k r
theorem pow4 {k : Nat} (hk : k ≤ 4) : 60 * 2 ^ k ≤ 960 ∧ 45 * 2 ^ k ≤ 720 := by
  have : 2 ^ k ≤ 2 ^ 4 := Nat.pow_le_pow_right (by decide) hk
  have e : 2 ^ 4 = 16 := by decide
  omega
theorem RowN.txt {k : Nat} {r : Str} (hk : k ≤ 4) (h : RowN k r) : TxtOk r := ⟨by have := (pow4 hk).1; have := h.1; omega, fun c hc => (h.2 c hc).1⟩
theorem RowN.up {k : Nat} {r : Str} (h : RowN k r) : RowN (k + 1) r := ⟨by have := h.1; rw [Nat.pow_succ]; omega, h.2⟩
theorem RowN.le {k : Nat} {r : Str} (h : RowN 0 r) : RowN k r := by
  induction k with
  | zero => exact h
  | succ k ih => exact ih.up
theorem cut_in {z : Str} {lo hi : Option Int} {c : Nat} (h : c ∈ cs (cutS z lo hi)) : c ∈ cs z := List.mem_of_mem_drop (List.mem_of_mem_take h)
theorem RowN.cut {k : Nat} {r : Str} {lo hi : Option Int} (h : RowN k r) : RowN k (cutS r lo hi) := ⟨by have := h.1; have := cutS_length r lo hi; omega, fun c hc => h.2 c (cut_in hc)⟩
theorem app_in {a b : Str} {c : Nat} (h : c ∈ cs (a ++ b)) : c ∈ cs a ∨ c ∈ cs b := by
  have h : c ∈ TL.tl (a ++ b) := h
  rw [TL.tl_append] at h
  exact List.mem_append.mp h
theorem app_len (a b : Str) : (a ++ b).length = a.length + b.length := by
  rw [← cs_len, ← cs_len a, ← cs_len b]
  show (TL.tl (a ++ b)).length = _
  rw [TL.tl_append, List.length_append]
theorem RowN.two {k : Nat} {a b : Str} (ha : RowN k a) (hb : RowN k b) : RowN (k + 1) (a ++ b) := ⟨by have := ha.1; have := hb.1; rw [app_len, Nat.pow_succ]; omega, fun c hc => (app_in hc).elim (ha.2 c) (hb.2 c)⟩
theorem RowN.three {k : Nat} {a b x : Str} (ha : RowN k a) (hb : RowN k b) (hx : RowN 0 x) (hl : x.length ≤ 20) : RowN (k + 1) ((a ++ x) ++ b) := ⟨by have := ha.1; have := hb.1; rw [app_len, app_len, Nat.pow_succ]; omega, fun c hc => (app_in hc).elim (fun z => (app_in z).elim (ha.2 c) (hx.2 c)) (hb.2 c)⟩
theorem txt2 {a b : Str} (ha : TxtOk a) (hb : TxtOk b) : a.length + b.length ≤ 16777216 := by have := ha.1; have := hb.1; omega
theorem ixS_row {x : Str} {i : Int} (h : RowN 0 x) (hi : -(x.length : Int) ≤ i ∧ i < x.length) : RowN 0 (ixS x i) ∧ (ixS x i).length ≤ 20 := by
  have hl : (x.cps.toList.length : Int) = x.length := by rw [← cs_len]
  have hm : getI x.cps.toList i ∈ x.cps.toList := getI_mem (by omega)
  have e : (ixS x i).length = 1 := rfl
  refine ⟨⟨by rw [e]; decide, fun c hc => ?_⟩, by rw [e]; decide⟩
  have : c = getI x.cps.toList i := List.mem_singleton.mp hc
  rw [this]
  exact h.2 _ hm
theorem RwK.next {k : Nat} {rs ys : List Str} (h : RwK k rs) (hl : ys.length ≤ 2 * rs.length + 1) (hm : ∀ y ∈ ys, RowN (k + 1) y) : RwK (k + 1) ys := ⟨by have := h.1; rw [Nat.pow_succ]; omega, hm⟩
theorem RwK.up {k : Nat} {rs : List Str} (h : RwK k rs) : RwK (k + 1) rs := h.next (by omega) fun y hy => (h.2 y hy).up
theorem in_cut {α : Type} {l : List α} {lo hi : Option Int} {x : α} (h : x ∈ cutI l lo hi) : x ∈ l := List.mem_of_mem_drop (List.mem_of_mem_take h)
section
variable {k : Nat} {rs : List Str} {x : Str} {l1 h1 l2 h2 : Option Int}
theorem RwK.cut3 (h : RwK k rs) (hx : RowN (k + 1) x) : RwK (k + 1) ((cutI rs l1 h1 ++ [x]) ++ cutI rs l2 h2) := h.next (by
    have a := cut_le rs l1 h1
    have b := cut_le rs l2 h2
    rw [List.length_append, List.length_append, List.length_singleton]
    omega) fun y hy => by
  rcases List.mem_append.mp hy with z | z
  · rcases List.mem_append.mp z with z | z
    · exact (h.2 y (in_cut z)).up
    · rw [List.mem_singleton.mp z]; exact hx
  · exact (h.2 y (in_cut z)).up
theorem RwK.cut2 (h : RwK k rs) : RwK (k + 1) (cutI rs l1 h1 ++ cutI rs l2 h2) := h.next (by
    have a := cut_le rs l1 h1
    have b := cut_le rs l2 h2
    rw [List.length_append]
    omega) fun y hy => by
  rcases List.mem_append.mp hy with z | z
  · exact (h.2 y (in_cut z)).up
  · exact (h.2 y (in_cut z)).up
theorem RwK.app1 (h : RwK k rs) (hx : RowN (k + 1) x) : RwK (k + 1) (rs ++ [x]) := h.next (by rw [List.length_append, List.length_singleton]; omega) fun y hy => by
  rcases List.mem_append.mp hy with z | z
  · exact (h.2 y z).up
  · rw [List.mem_singleton.mp z]; exact hx
theorem RwK.appM (h : RwK k rs) (hx : RowN 0 x) : RwK (k + 1) (rs ++ rs.map fun e => x ++ e) := h.next (by rw [List.length_append, List.length_map]; omega) fun y hy => by
  rcases List.mem_append.mp hy with z | z
  · exact (h.2 y z).up
  · obtain ⟨e, he, rfl⟩ := List.mem_map.mp z
    exact RowN.two hx.le (h.2 e he)
theorem RwK.len (h : RwK k rs) (hk : k ≤ 4) : rs.length ≤ 719 := by have := h.1; have := (pow4 hk).2; omega
theorem capA (h : rs.length ≤ 719) : (cutI rs l1 h1).length + [x].length ≤ 40000 := by have := cut_le rs l1 h1; rw [List.length_singleton]; omega
theorem capB (h : rs.length ≤ 719) : (cutI rs l1 h1 ++ [x]).length + (cutI rs l2 h2).length ≤ 40000 := by have := cut_le rs l1 h1; have := cut_le rs l2 h2; rw [List.length_append, List.length_singleton]; omega
theorem capC (h : rs.length ≤ 719) : (cutI rs l1 h1).length + (cutI rs l2 h2).length ≤ 40000 := by have := cut_le rs l1 h1; have := cut_le rs l2 h2; omega
theorem row_ix (h : rs ≠ []) (a : Int) : -(rs.length : Int) ≤ a % (rs.length : Int) ∧ a % (rs.length : Int) < rs.length := by
  have hl : 0 < rs.length := List.length_pos_iff.mpr h
  have h1 := Int.emod_nonneg a (show (rs.length : Int) ≠ 0 by omega)
  have h2 := Int.emod_lt_of_pos a (show (0 : Int) < rs.length by omega)
  omega
theorem row_in (h : rs ≠ []) (a : Int) : getI rs (a % (rs.length : Int)) ∈ rs := getI_mem (row_ix h a)
end
/-! ### words of rows -/
theorem sp_tl : TL.tl (" " : Str) = [32] := by decide +kernel
theorem nl_tl : TL.tl ("\n" : Str) = [10] := by decide +kernel
theorem words_txt {k : Nat} {r y : Str} (hk : k ≤ 4) (h : RowN k r) (hy : y ∈ Txt.split r (" " : Str)) : TxtOk y := by
  have z := split_in sp_tl (by decide) hy
  have t := h.txt hk
  exact ⟨Nat.le_trans z.2 t.1, fun c hc => t.2 c (z.1 c hc)⟩
theorem words_len {k : Nat} {r : Str} (hk : k ≤ 4) (h : RowN k r) : (Txt.split r (" " : Str)).length ≤ 1000 := by
  have z := (split_len sp_tl (by decide) r).1
  have := h.1
  have := (pow4 hk).1
  omega
theorem words_split {k : Nat} {r : Str} (hk : k ≤ 4) (h : RowN k r) : (((" " : Str)).length == 0) = false ∧ r.length + 2 ≤ 16777216 ∧ (∀ y ∈ Txt.split r (" " : Str), TxtOk y) ∧ (Txt.split r (" " : Str)).length ≤ 40000 := ⟨by decide +kernel, by have := (h.txt hk).1; omega, fun y hy => words_txt hk h hy, by have := words_len hk h; omega⟩
theorem wordsM_at {rs : List Str} {i : Nat} {r : Str} (h : rs[i]? = some r) : (wordsM rs)[i]? = some (Txt.split r (" " : Str)) := by
  unfold wordsM
  rw [List.getElem?_map, h]
  rfl
theorem wordsM_row {rs : List Str} {i : Nat} {r : Str} (h : rs[i]? = some r) : row1 (wordsM rs) i = Txt.split r (" " : Str) := by
  unfold row1
  rw [List.getD_eq_getElem?_getD, wordsM_at h]
  rfl
theorem wordsM_len (rs : List Str) : (wordsM rs).length = rs.length := List.length_map ..
theorem any_comm (l : List Str) (vs : List (List Str)) : (vs.any fun v => alikeM v l) = vs.any fun v => alikeM l v := by
  congr 1
  funext v
  exact alikeM_comm v l
theorem next_bad {ls : List (List Str)} {i : Nat} (hi : i < ls.length) : nextB (ls.take i) (row1 ls i) = !rowBad ls i := by
  have hl : (ls.take i).length = i := by rw [List.length_take]; omega
  unfold nextB rowBad
  rw [hl, any_comm]
  have e : decide ((i : Int) ≥ 40) = decide (39 < i) := decide_eq_decide.mpr (by omega)
  rw [e]
  cases decide (39 < i) <;> cases isVer (row1 ls i) <;> simp
theorem rowF_some {ls : List (List Str)} {i : Nat} (h : ∀ j, j < i → rowBad ls j = false) (hi : i < ls.length) (hb : rowBad ls i = true) : rowF ls = some i := List.find?_range_eq_some.mpr ⟨hb, List.mem_range.mpr hi, fun j hj => by rw [h j hj]; rfl⟩
theorem rowF_none {ls : List (List Str)} (h : ∀ j, j < ls.length → rowBad ls j = false) : rowF ls = none := by
  unfold rowF
  rw [List.find?_range_eq_none]
  intro j hj
  rw [h j hj]
  rfl
theorem rowF_good {ls : List (List Str)} (h0 : ls ≠ []) (h : ∀ j, j < ls.length → rowBad ls j = false) : GB 40 ls := by
  have hp : 0 < ls.length := List.length_pos_iff.mpr h0
  have hb : ∀ j, j < ls.length → j ≤ 39 ∧ isVer (row1 ls j) = true ∧ ∀ v ∈ ls.take j, alikeM (row1 ls j) v = false := fun j hj => by
    have z := h j hj
    unfold rowBad at z
    simp only [Bool.or_eq_false_iff, decide_eq_false_iff_not, Bool.not_eq_false'] at z
    refine ⟨by omega, z.1.2, fun v hv => ?_⟩
    have := List.any_eq_false.mp z.2 v hv
    simpa using this
  have hrow : ∀ j (hj : j < ls.length), row1 ls j = ls[j] := fun j hj => by unfold row1; rw [List.getD_eq_getElem?_getD, List.getElem?_eq_getElem hj]; rfl
  refine ⟨hp, ?_, fun l hl => ?_, List.pairwise_iff_getElem.mpr fun i j hi hj hij => ?_⟩
  · have := (hb (ls.length - 1) (by omega)).1
    omega
  · obtain ⟨j, hj, rfl⟩ := List.getElem_of_mem hl
    rw [← hrow j hj]
    exact (hb j hj).2.1
  · rw [alikeM_comm, ← hrow j hj]
    refine (hb j hj).2.2 _ ?_
    rw [List.mem_take_iff_getElem]
    exact ⟨i, by omega, rfl⟩
/-! ### books as texts -/
theorem LT_ok {c : Nat} (h : c ∈ LT) : c < 128 ∧ c ≠ 10 := by
  have z : (LT.all fun c => decide (c < 128) && !decide (c = 10)) = true := by decide +kernel
  have := List.all_eq_true.mp z c h
  simpa using this
theorem line_row {l : List Str} (h : isVer l = true) : RowN 0 (Txt.join (" " : Str) l) := by
  obtain ⟨h1, h2, h3⟩ := isVer_iff.mp h
  have hs : ∀ s ∈ l, s.length ≤ 3 ∧ ∀ c ∈ cs s, c ∈ LT := fun s hs => by
    have z := h3 s hs
    unfold isSyl at z
    simp only [Bool.and_eq_true, decide_eq_true_eq, List.all_eq_true] at z
    exact ⟨by omega, z.2⟩
  refine ⟨?_, fun c hc => ?_⟩
  · have z := join_len (y := (" " : Str)) (m := 3) fun p hp => (hs p hp).1
    have e : (" " : Str).length = 1 := by decide +kernel
    rw [e] at z
    omega
  · rcases join_in hc with z | ⟨p, hp, z⟩
    · have : cs (" " : Str) = [32] := sp_tl
      rw [this] at z
      rw [List.mem_singleton.mp z]
      decide
    · exact LT_ok ((hs p hp).2 c z)
theorem line_sum {l : List Str} (h : isVer l = true) : (l.map (·.length)).sum + l.length * (" " : Str).length ≤ 16777216 := by
  obtain ⟨h1, h2, h3⟩ := isVer_iff.mp h
  have z := sum_len (m := 3) (ps := l) fun s hs => by
    have z := h3 s hs
    unfold isSyl at z
    simp only [Bool.and_eq_true, decide_eq_true_eq] at z
    omega
  have e : (" " : Str).length = 1 := by decide +kernel
  rw [e]
  omega
theorem rows_sum {k : Nat} {rs : List Str} (hk : k ≤ 4) (h : RwK k rs) : (rs.map (·.length)).sum + rs.length * ("\n" : Str).length ≤ 16777216 ∧ (Txt.join ("\n" : Str) rs).length ≤ 1000000 := by
  have hm : ∀ r ∈ rs, r.length ≤ 1000 := fun r hr => ((h.2 r hr).txt hk).1
  have hl := h.len hk
  have z := sum_len hm
  have e : ("\n" : Str).length = 1 := by decide +kernel
  have j := join_len (y := ("\n" : Str)) hm
  rw [e] at j ⊢
  have h3 : rs.length * 1000 ≤ 719 * 1000 := Nat.mul_le_mul_right _ hl
  have h4 : rs.length * (1000 + 1) ≤ 719 * (1000 + 1) := Nat.mul_le_mul_right _ hl
  omega
theorem str_ok {s : Str} (h : ∀ c ∈ cs s, c < 128) : PyData.strOk s = true := by
  have z : ∀ c ∈ s.cps.toList, c < 128 := h
  unfold PyData.strOk
  rw [← Array.all_toList, List.all_eq_true]
  intro c hc
  have := z c hc
  exact decide_eq_true (by omega)
theorem rows_ok {k : Nat} {rs : List Str} (h : RwK k rs) : PyData.strOk (Txt.join ("\n" : Str) rs) = true := str_ok fun c hc => by
  rcases join_in hc with z | ⟨p, hp, z⟩
  · have : cs ("\n" : Str) = [10] := nl_tl
    rw [this] at z
    rw [List.mem_singleton.mp z]
    decide
  · exact ((h.2 p hp).2 c z).1
/-- a text's rows -/
theorem rows_back {k : Nat} {rs : List Str} (h : RwK k rs) : RwK k (Txt.split (Txt.join ("\n" : Str) rs) ("\n" : Str)) := by
  by_cases h0 : rs = []
  · subst h0
    have e : Txt.split (Txt.join ("\n" : Str) []) ("\n" : Str) = [("" : Str)] := by decide +kernel
    rw [e]
    have hp : 1 ≤ 2 ^ k := Nat.one_le_two_pow
    refine ⟨by rw [List.length_singleton]; omega, fun r hr => ?_⟩
    rw [List.mem_singleton.mp hr]
    exact RowN.le (show RowN 0 ("" : Str) from ⟨by decide +kernel, fun c hc => nomatch hc⟩)
  · rw [TL.split_join (y := ("\n" : Str)) nl_tl (by decide +kernel) h0 fun p hp hc => ((h.2 p hp).2 10 hc).2 rfl]
    exact h
theorem rows_of_book {ls : List (List Str)} (h : ∀ l ∈ ls, isVer l = true) (hl : ls.length ≤ 40) : RwK 0 (ls.map fun l => Txt.join (" " : Str) l) := ⟨by rw [List.length_map]; omega, fun r hr => by
  obtain ⟨l, hl, rfl⟩ := List.mem_map.mp hr
  exact line_row (h l hl)⟩
/-- a text that was read, written again -/
theorem btxt_words (t : Str) : btxt (wordsM (Txt.split t ("\n" : Str))) = t := by
  unfold btxt wordsM
  rw [List.map_map]
  have e : (Txt.split t ("\n" : Str)).map ((fun l => Txt.join (" " : Str) l) ∘ fun r => Txt.split r (" " : Str)) = Txt.split t ("\n" : Str) := by
    conv => rhs; rw [← List.map_id (Txt.split t ("\n" : Str))]
    exact List.map_congr_left fun r _ => join_split sp_tl (by decide) r
  rw [e]
  exact join_split nl_tl (by decide) t
end
abbrev s_BadTextd__initd_ : Stmt := inClass (topS 6) 0
theorem sc_BadTextd__initd_ : FnScope ["self", "row"] ["self", "row"] (defScope s_BadTextd__initd_) := ⟨rfl, rfl, rfl, by decide +kernel, rfl, by decide +kernel, by decide +kernel⟩
section
variable {P : Program} {w : World} {K : PySem.W.Frag} {mg : Str → Option Value} {base : Heap}
theorem okx_BadText {C : Addr} (T : OexC K C) (n1 : PySem.W.findIn K (.ref C) "row" = some none) {f : Addr} {fd : FuncData} (F : Fun K "__init__" "BadText.__init__" s_BadTextd__initd_ f fd) : FnOk P w K mg base (L2.CX P w) 1 f fd ["self", "row"] (spXi C ["row"]) := by
  refine F.okX sc_BadTextd__initd_ (fun vs H Q E h => ?_) (fun cdv A outer s H vs Q E hr h => ?_)
  · obtain ⟨a, us, G, rfl, hl, _⟩ := h
    simpa using hl
  · obtain ⟨a, us, G, rfl, hl, rfl, ha, k⟩ := h
    obtain ⟨y, rfl⟩ : ∃ y, us = [y] := by
      match us, hl with
      | [y], _ => exact ⟨y, rfl⟩
    refine ⟨_, (pss_one (ps_ostK K (pv 0) (pv 1))), ?_⟩
    refine ⟨y, rfl, .ref a, rfl, a, C, rfl, T, n1, .inl ⟨upd_same, fun dx hdx hne => ?_⟩⟩
    rw [upd_ne hne] at hdx
    exact k dx _ hdx hne upd_same (by rw [upd_ne hne, upd_same]; rfl) (fun b h1 h2 => by rw [upd_ne h1, upd_ne h2, upd_ne h1])
end
section
variable {P : Program} {w : World} {K : PySem.W.Frag} {mg : Str → Option Value} {base : Heap}
theorem ad_Book_verses {C : Addr} {G : Hp} {vs : List V} {ls : List (List Str)} (ha : ArgsR G vs [⟨tBook K C, ls⟩]) : (R_Book_verses K C).R vs G (.ok (pRows K ls)) := by
  obtain ⟨v, rfl, p, rfl, h⟩ := args1 ha
  exact ⟨p, ls, rfl, h, rfl⟩
theorem ad_is_verse {G : Hp} {vs : List V} {a : List Str} (ha : ArgsR G vs [⟨tL K tX, a⟩]) (hl : a.length ≤ 1000) : (R_is_verse K).R vs G (.ok (is (.bl (isVer a)))) := by
  obtain ⟨v, rfl, h1⟩ := args1 ha
  obtain ⟨p, rfl, h3⟩ := ln_of h1 hl
  exact ⟨p, a, rfl, h3, rfl⟩
theorem ad_alike {G : Hp} {vs : List V} {a b : List Str} (ha : ArgsR G vs [⟨tL K tX, a⟩, ⟨tL K tX, b⟩]) (hl : a.length ≤ 1000 ∧ b.length ≤ 1000) : (R_alike K).R vs G (.ok (is (.bl (alikeM a b)))) := by
  obtain ⟨v, w, rfl, h1, h2⟩ := args2 ha
  obtain ⟨p, rfl, h3⟩ := ln_of h1 hl.1
  obtain ⟨q, rfl, h4⟩ := ln_of h2 hl.2
  exact ⟨p, q, a, b, rfl, h3, h4, rfl⟩
theorem ad__law_book_told {C : Addr} {G : Hp} {vs : List V} {b ls : List (List Str)} (ha : ArgsR G vs [⟨tBook K C, b⟩, ⟨tL K (tL K tX), ls⟩]) (h : b = ls ∧ ls.length ≤ 1000 ∧ ∀ l ∈ ls, l.length ≤ 1000) : (R__law_book_told K C).R vs G (.ok (is (.bl true))) := by
  obtain ⟨v, w, rfl, h1, h2⟩ := args2 ha
  obtain ⟨rfl, h3, h4⟩ := h
  obtain ⟨p, rfl, h5⟩ := bk_of h2 h3 h4
  obtain ⟨q, rfl, h6⟩ := h1
  exact ⟨q, p, _, rfl, h6, h5, rfl⟩
theorem need_len {ls : List (List Str)} (h : needM ls = none) : 1 ≤ ls.length ∧ ls.length ≤ 40 := by
  unfold needM at h
  by_cases hb : 1 ≤ ls.length ∧ ls.length ≤ 40
  · exact hb
  · rw [if_neg hb] at h
    cases h
theorem need_ver {ls : List (List Str)} (h : needM ls = none) : ∀ l ∈ ls, isVer l = true := by
  intro l hl
  have hb := need_len h
  unfold needM at h
  rw [if_pos hb] at h
  cases er : badRow ls with
  | some i => rw [er] at h; cases h
  | none =>
    obtain ⟨j, hj, rfl⟩ := List.getElem_of_mem hl
    have z := List.find?_range_eq_none.mp er j hj
    have e : row1 ls j = ls[j] := by unfold row1; rw [List.getD_eq_getElem?_getD, List.getElem?_eq_getElem hj]; rfl
    rw [e] at z
    simpa using z
instance {k : Nat} {r : Str} : Decidable (RowN k r) := by unfold RowN; infer_instance
theorem getI_row {l : List Str} {i : Nat} (h : i < l.length) : l[i]? = some (getI l (i : Int)) := by
  have e : l[i]? = some l[i] := List.getElem?_eq_getElem h
  unfold getI
  rw [atI_nat e]
  exact e
/-- the rows of a text, where the reading stands -/
structure RdAt (rs : List Str) (i : Nat) (vs : List (List Str)) (r : Str) : Prop where
  ex : ∃ k, k ≤ 4 ∧ RwK k rs
  vs : vs = (wordsM rs).take i
  bad : ∀ j, j < i → rowBad (wordsM rs) j = false
  at_ : rs[i]? = some r
section
variable {rs : List Str} {i : Nat} {vs : List (List Str)} {r : Str}
theorem RdAt.row (h : RdAt rs i vs r) : ∃ k, k ≤ 4 ∧ RowN k r := by
  obtain ⟨k, hk, hr⟩ := h.ex
  exact ⟨k, hk, hr.2 r (List.mem_of_getElem? h.at_)⟩
theorem RdAt.lt (h : RdAt rs i vs r) : i < (wordsM rs).length := by rw [wordsM_len]; exact (List.getElem?_eq_some_iff.mp h.at_).1
theorem RdAt.split (h : RdAt rs i vs r) : (((" " : Str)).length == 0) = false ∧ r.length + 2 ≤ 16777216 ∧ (∀ y ∈ Txt.split r (" " : Str), TxtOk y) ∧ (Txt.split r (" " : Str)).length ≤ 40000 := by
  obtain ⟨k, hk, hr⟩ := h.row
  exact words_split hk hr
theorem RdAt.len (h : RdAt rs i vs r) : (Txt.split r (" " : Str)).length ≤ 1000 ∧ ∀ l ∈ vs, l.length ≤ 1000 := by
  obtain ⟨k, hk, hr⟩ := h.row
  refine ⟨words_len hk hr, fun l hl => ?_⟩
  rw [h.vs] at hl
  obtain ⟨q, hq, rfl⟩ := List.mem_map.mp (List.mem_of_mem_take hl)
  obtain ⟨k2, hk2, hr2⟩ := h.ex
  exact words_len hk2 (hr2.2 q hq)
theorem RdAt.next (h : RdAt rs i vs r) : nextB vs (Txt.split r (" " : Str)) = !rowBad (wordsM rs) i := by
  rw [h.vs, ← wordsM_row h.at_]
  exact next_bad h.lt
theorem RdAt.hit (h : RdAt rs i vs r) (hb : rowBad (wordsM rs) i = true) : rowF (wordsM rs) = some i := rowF_some h.bad h.lt hb
theorem RdAt.app (h : RdAt rs i vs r) : vs.length < 40000 := by
  obtain ⟨k, hk, hr⟩ := h.ex
  have := hr.len hk
  have h2 : vs.length ≤ (wordsM rs).length := by rw [h.vs, List.length_take]; exact Nat.min_le_right _ _
  rw [wordsM_len] at h2
  omega
theorem RdAt.step (h : RdAt rs i vs r) : vs ++ [Txt.split r (" " : Str)] = (wordsM rs).take (i + 1) := by rw [take_succ_of (wordsM_at h.at_), h.vs]
theorem RdAt.go (h : RdAt rs i vs r) (hb : rowBad (wordsM rs) i = false) : ∀ j, j < i + 1 → rowBad (wordsM rs) j = false := fun j hj => by
  rcases Nat.lt_succ_iff_lt_or_eq.mp hj with z | z
  · exact h.bad j z
  · rw [z]; exact hb
theorem read_all (hv : vs = (wordsM rs).take rs.length) : wordsM rs = vs := by rw [hv, ← wordsM_len rs, List.take_length]
theorem readF_none (hb : ∀ j, j < rs.length → rowBad (wordsM rs) j = false) : rowF (wordsM rs) = none := rowF_none fun j hj => hb j (by rw [← wordsM_len rs]; exact hj)
theorem read_good (h0 : rs ≠ []) (hb : ∀ j, j < rs.length → rowBad (wordsM rs) j = false) : GB 40 (wordsM rs) := rowF_good (fun z => h0 (List.map_eq_nil_iff.mp z)) fun j hj => hb j (by rw [← wordsM_len rs]; exact hj)
end
section
variable {rs : List Str} {t e : Str} {xn : Str} {fs : List (Str × V)} {z : Int}
theorem tx_sum (h : ∃ k, k ≤ 4 ∧ RwK k rs) : (rs.map (·.length)).sum + rs.length * ("\n" : Str).length ≤ 16777216 := by obtain ⟨k, hk, hr⟩ := h; exact (rows_sum hk hr).1
theorem tx_ok (h : ∃ k, k ≤ 4 ∧ RwK k rs) : PyData.strOk (Txt.join ("\n" : Str) rs) = true := by obtain ⟨k, hk, hr⟩ := h; exact rows_ok hr
theorem tx_len (h : ∃ k, k ≤ 4 ∧ RwK k rs) : (Txt.join ("\n" : Str) rs).length ≤ 1000000 := by obtain ⟨k, hk, hr⟩ := h; exact (rows_sum hk hr).2
theorem tx_back (h : ∃ k, k ≤ 4 ∧ RwK k rs) : ∃ k, k ≤ 4 ∧ RwK k (Txt.split (Txt.join ("\n" : Str) rs) ("\n" : Str)) := by obtain ⟨k, hk, hr⟩ := h; exact ⟨k, hk, rows_back hr⟩
theorem tx_split (h : ∃ k, k ≤ 4 ∧ RwK k rs) : ((("\n" : Str)).length == 0) = false ∧ (Txt.join ("\n" : Str) rs).length + 2 ≤ 16777216 ∧ (∀ y ∈ Txt.split (Txt.join ("\n" : Str) rs) ("\n" : Str), TxtOk y) ∧ (Txt.split (Txt.join ("\n" : Str) rs) ("\n" : Str)).length ≤ 40000 := by
  have l := tx_len h
  obtain ⟨k, hk, hr⟩ := tx_back h
  exact ⟨by decide +kernel, by omega, fun y hy => (hr.2 y hy).txt hk, by have := hr.len hk; omega⟩
theorem tx_word (h : ∃ k, k ≤ 4 ∧ RwK k rs) (he : e ∈ Txt.split (Txt.join ("\n" : Str) rs) ("\n" : Str)) : (((" " : Str)).length == 0) = false ∧ e.length + 2 ≤ 16777216 ∧ (∀ y ∈ Txt.split e (" " : Str), TxtOk y) ∧ (Txt.split e (" " : Str)).length ≤ 40000 := by
  obtain ⟨k, hk, hr⟩ := tx_back h
  exact words_split hk (hr.2 e he)
theorem tx_told (h : ∃ k, k ≤ 4 ∧ RwK k rs) : wordsM (Txt.split (Txt.join ("\n" : Str) rs) ("\n" : Str)) = ((Txt.split (Txt.join ("\n" : Str) rs) ("\n" : Str)).map fun e1 => Txt.split e1 ((" " : Str))) ∧ ((Txt.split (Txt.join ("\n" : Str) rs) ("\n" : Str)).map fun e1 => Txt.split e1 ((" " : Str))).length ≤ 1000 ∧ ∀ l ∈ (Txt.split (Txt.join ("\n" : Str) rs) ("\n" : Str)).map fun e1 => Txt.split e1 ((" " : Str)), l.length ≤ 1000 := by
  obtain ⟨k, hk, hr⟩ := tx_back h
  refine ⟨rfl, by rw [List.length_map]; have := hr.len hk; omega, fun l hl => ?_⟩
  obtain ⟨r, hr2, rfl⟩ := List.mem_map.mp hl
  exact words_len hk (hr.2 r hr2)
theorem read_which (h : readE t = some (xn, fs)) : xn = ("BadText" : Str) ∧ ∃ z0 : Int, fs = [(("row" : Str), V.int z0)] := by
  unfold readE at h
  cases e : rowF (wordsM (Txt.split t ("\n" : Str))) with
  | none => rw [e] at h; cases h
  | some i => rw [e] at h; cases h; exact ⟨rfl, _, rfl⟩
theorem read_first (h : readE t = some (("BadText" : Str), [(("row" : Str), V.int z)])) : firstI (Txt.split t ("\n" : Str)) = z ∧ 0 ≤ z := by
  unfold readE at h
  unfold firstI
  cases e : rowF (wordsM (Txt.split t ("\n" : Str))) with
  | none => rw [e] at h; cases h
  | some i =>
    rw [e] at h
    cases h
    exact ⟨rfl, by omega⟩
theorem read_none (h : readE t = none) : firstI (Txt.split t ("\n" : Str)) = -1 := by
  unfold readE at h
  unfold firstI
  cases e : rowF (wordsM (Txt.split t ("\n" : Str))) with
  | none => rfl
  | some i => rw [e] at h; cases h
end
abbrev s_book_text : Stmt := topS 19
theorem sc_book_text : FnScope ["book", "line"] ["book"] (defScope s_book_text) := ⟨rfl, rfl, rfl, by decide +kernel, rfl, by decide +kernel, by decide +kernel⟩
section
variable (book : (List (List Str))) (e1 : (List Str)) (ho_book : needM book = none) (hm1 : e1 ∈ book)
include book e1 ho_book hm1
theorem vc_book_text_join1 : ((e1).map (·.length)).sum + (e1).length * ((" " : Str)).length ≤ 16777216 := by
  exact line_sum (need_ver ho_book _ hm1)
theorem vc_book_text_jok1 : PyData.strOk (Txt.join ((" " : Str)) e1) = true := by
  exact strOk_of ((line_row (need_ver ho_book _ hm1)).txt (by decide))
end
section
variable (book : (List (List Str)))
include book
section
variable (ho_book : needM book = none)
include ho_book
theorem vc_book_text_join2 : (((book).map fun e1 => Txt.join ((" " : Str)) e1).map (·.length)).sum + ((book).map fun e1 => Txt.join ((" " : Str)) e1).length * (("\n" : Str)).length ≤ 16777216 := by
  exact (rows_sum (by decide) (rows_of_book (need_ver ho_book) (need_len ho_book).2)).1
theorem vc_book_text_jok2 : PyData.strOk (Txt.join (("\n" : Str)) ((book).map fun e1 => Txt.join ((" " : Str)) e1)) = true := by
  exact rows_ok (rows_of_book (need_ver ho_book) (need_len ho_book).2)
theorem vc_book_text_ret1 : (btxt book) = (Txt.join (("\n" : Str)) ((book).map fun e1 => Txt.join ((" " : Str)) e1)) := by
  rfl
end
end
def R_book_text (K : PySem.W.Frag) (C_Book : Addr) : Rl := ⟨fun vs H r => ∃ (book : (List (List Str))), ArgsR H vs [⟨(tBook K C_Book), book⟩] ∧ r = .ok (fun N v => tS.R N v (btxt book)), fun e ⟨book, h, h2⟩ => ⟨book, h.up e, h2⟩⟩
theorem ok_book_text (B : Bt mg) {C_Book : Addr} (O_Book_verses : OkM P w K mg base 1 C_Book "verses" ["self"] ((R_Book_verses K C_Book).sp mg)) (D : Df K mg "book_text" s_book_text ["book"]) : Ok P w K mg base 2 "book_text" ["book"] ((R_book_text K C_Book).sp mg) := by
  refine D.ok sc_book_text (fun vs H Q E h => ?_) (fun f cdv A outer s H vs Q E hr h => ?_)
  · obtain ⟨r, ⟨book, ha, _⟩, _⟩ := h
    exact ha.len
  · obtain ⟨r, ⟨book, ha, rfl⟩, k⟩ := h
    obtain ⟨v1, rfl, f2⟩ := args1 ha
    have o0 := Own.init H
    have ho_book : needM book = none := book_ok f2
    refine ⟨_, (pss_one (ps_ret (pe_bmK K PySem.F.plainAttrs_str PySem.F.slot_str_join PySem.F.type_str_join (mt_joinK K) pe_str (pa_cons (pe_lc (own := [("line", 1)]) rfl sc_book_text.nd (pi_listK K (pe_methO0 O_Book_verses (pv 0) (hr.mono (by omega)) (takes_of rfl rfl rfl rfl))) (blkOk_by (N := ["book", "line"]) (sc := defScope s_book_text) (by decide +kernel)) (fun _ _ _ _ _ => (pg_name (i := 1) sc_book_text.nd rfl (.inl rfl))) (fun _ _ _ _ _ => pts_nil) (fun _ _ _ _ _ => (pe_bmK K PySem.F.plainAttrs_str PySem.F.slot_str_join PySem.F.type_str_join (mt_joinK K) pe_str (pa_cons (pv 1) pa_nil)))) pa_nil)))), ?_⟩
    exact s_rb o0 (eb_imp (ed_s (ev_join (a := ("\n" : Str)) (ed_to (T := (tW tS)) (S := (tL K tS)) (ed_of_n (Own.e0 o0) (en_flt (en_lcA (S := tS) (Z := fun B y σ σ2 => ∃ z3, σ2 = (σ.set 1 (some z3)) ∧ (tW tX).R B z3 y) (dr_list (T := (tW tX)) (ed_to (T := (tW (tW tX))) (S := (tL K (tW tX))) (ed_p (T := (tW (tW tX))) (ep_methB (S := (R_Book_verses K C_Book)) (Ex.refl _) (ed_of (T := (tBook K C_Book)) (up (Own.uh o0) (up (Own.ug o0) f2)) rfl) (fun h => book_ins (by decide) h) ebs_nil (fun vs G ha => ad_Book_verses ha)) (Ex.refl _) (cv_rows))) (Ex.refl _) (fun G x y H' e hx σ' Q q => by exact q _ ⟨x, rfl, hx⟩)) (Ex.refl _) (fun e1 : (List Str) => Txt.join ((" " : Str)) e1) (fun _ _ _ ⟨z3, h0, fz3⟩ => by subst h0; rfl) (fun G4 e1 σ2 H4 eb4 eg4 eh4 hm1 hz4 => by obtain ⟨z3, rfl, fz3⟩ := hz4; exact (ed_s (ev_join (a := (" " : Str)) (ed_to (T := (tW tX)) (S := (tL K tS)) (ed_of (T := (tW tX)) (up eg4 fz3) rfl)) (Ex.refl _) (vc_book_text_join1 book e1 ho_book hm1)) (vc_book_text_jok1 book e1 ho_book hm1))) (fun _ _ _ _ e ⟨z3, h0, fz3⟩ => ⟨z3, h0, up e fz3⟩))))) (Own.e0 o0) (vc_book_text_join2 book ho_book)) (vc_book_text_jok2 book ho_book)) fun N v h => (by rw [(vc_book_text_ret1 book ho_book)]; exact h)) k
abbrev s_is_next : Stmt := topS 20
theorem sc_is_next : FnScope ["verses", "line", "verse"] ["verses", "line"] (defScope s_is_next) := ⟨rfl, rfl, rfl, by decide +kernel, rfl, by decide +kernel, by decide +kernel⟩
section
variable (verses : (List (List Str))) (line : (List Str)) (hp1 : line.length ≤ 1000 ∧ ∀ l ∈ verses, l.length ≤ 1000) (hl_verses : verses.length ≤ 40000) (hl_line : line.length ≤ 40000) (hc5 : (decide ((((verses).length : Int)) ≥ (40 : Int))) = false)
include verses line hp1 hl_verses hl_line hc5
theorem vc_is_next_pre_is_verse1 : (line).length ≤ 1000 := by
  exact hp1.1
end
section
variable (verses : (List (List Str))) (line : (List Str)) (hp1 : line.length ≤ 1000 ∧ ∀ l ∈ verses, l.length ≤ 1000) (hl_verses : verses.length ≤ 40000) (hl_line : line.length ≤ 40000)
include verses line hp1 hl_verses hl_line
section
variable (c1 : (((decide ((((verses).length : Int)) ≥ (40 : Int))) || (!(isVer line)))) = true)
include c1
theorem vc_is_next_ret1 : (nextB verses line) = (false) := by
  unfold nextB
  rw [if_pos c1]
end
section
variable (e1 : (List Str)) (c1 : (((decide ((((verses).length : Int)) ≥ (40 : Int))) || (!(isVer line)))) = false) (hm1 : e1 ∈ verses)
include e1 c1 hm1
theorem vc_is_next_pre_alike1 : (e1).length ≤ 1000 ∧ (line).length ≤ 1000 := by
  exact ⟨hp1.2 _ hm1, hp1.1⟩
end
section
variable (c1 : (((decide ((((verses).length : Int)) ≥ (40 : Int))) || (!(isVer line)))) = false)
include c1
theorem vc_is_next_ret2 : (nextB verses line) = (!(((verses).map fun e1 => alikeM e1 line).any id)) := by
  unfold nextB
  rw [if_neg (by rw [c1]; decide), List.any_map]
  rfl
end
end
def R_is_next (K : PySem.W.Frag) : Rl := ⟨fun vs H r => ∃ (verses : (List (List Str))) (line : (List Str)), ArgsR H vs [⟨(tL K (tL K tX)), verses⟩, ⟨(tL K tX), line⟩] ∧ (line.length ≤ 1000 ∧ ∀ l ∈ verses, l.length ≤ 1000) ∧ r = .ok (fun N v => tB.R N v (nextB verses line)), fun e ⟨verses, line, h, h2⟩ => ⟨verses, line, h.up e, h2⟩⟩
theorem ok_is_next (B : Bt mg) {t_MOST_VERSES : Tok} (c_MOST_VERSES : mg "MOST_VERSES" = some (.int 40 t_MOST_VERSES)) (O_alike : Ok P w K mg base 2 "alike" ["one", "other"] ((R_alike K).sp mg)) (O_is_verse : Ok P w K mg base 2 "is_verse" ["line"] ((R_is_verse K).sp mg)) (D : Df K mg "is_next" s_is_next ["verses", "line"]) : Ok P w K mg base 3 "is_next" ["verses", "line"] ((R_is_next K).sp mg) := by
  refine D.ok sc_is_next (fun vs H Q E h => ?_) (fun f cdv A outer s H vs Q E hr h => ?_)
  · obtain ⟨r, ⟨verses, line, ha, _⟩, _⟩ := h
    exact ha.len
  · obtain ⟨r, ⟨verses, line, ha, hp1, rfl⟩, k⟩ := h
    obtain ⟨v1, v2, rfl, f3, f4⟩ := args2 ha
    have o0 := Own.init H
    have hl_verses : verses.length ≤ 40000 := len_ofL f3
    have hl_line : line.length ≤ 40000 := len_ofL f4
    refine ⟨_, (pss_cons (ps_if (PW.pt (pw_or (pt_cmpR op_ge (pe_callB (call_lenK K) (by rfl) B.len boot_b_len (pa_cons (pv 0) pa_nil)) (pe_glob (v := .int 40) (by rfl) c_MOST_VERSES ⟨_, rfl⟩) (nomark _)) (pw_or1 (pt_not (pt_val (pe_callO O_is_verse (hr.mono (by omega)) (by rfl) (takes_of rfl rfl rfl rfl) (pa_cons (pv 1) pa_nil)))))))
        (pss_one (ps_ret pe_bl))
        pss_nil)
      (pss_one (ps_ret (pe_not (pe_callB (cr_anyK K rfl) (by rfl) B.any boot_b_any (pa_cons (pe_lc (own := [("verse", 2)]) rfl sc_is_next.nd (pi_listK K (pv 0)) (blkOk_by (N := ["verses", "line", "verse"]) (sc := defScope s_is_next) (by decide +kernel)) (fun _ _ _ _ _ => (pg_name (i := 2) sc_is_next.nd rfl (.inl rfl))) (fun _ _ _ _ _ => pts_nil) (fun _ _ _ _ _ => (pe_callO O_alike (hr.mono (by omega)) (by rfl) takes0 (pa_cons (pv 2) (pa_cons (pv 1) pa_nil))))) pa_nil)))))), ?_⟩
    refine q_wh o0 (et_or (et_test (ev_op (ev_lenB (T := (tL K tX)) (ed_of (T := (tL K (tL K tX))) (up (Own.ug o0) f3) rfl) (Own.uh o0)) ev_c rv_I0)) fun hc5 => (et_not (et_B (ev_p (v := (.bl (isVer line))) (ep_imp (ep_callB (S := (R_is_verse K)) (Ex.refl _) (ebs_cons (T := (tL K tX)) (Ex.refl _) (ed_of (T := (tL K tX)) (up (Own.uh o0) (up (Own.ug o0) f4)) rfl) ebs_nil) (fun vs G ha => ad_is_verse ha (vc_is_next_pre_is_verse1 verses line hp1 hl_verses hl_line hc5))) (fun _ _ h => h)))))) (fun c1 H6 o7 => ?_) (fun c1 H6 o7 => ?_)
    · skip
      exact s_rv' o7 ev_c k (by first | (rw [(vc_is_next_ret1 verses line hp1 hl_verses hl_line c1)]; exact rfl) | (rw [← (vc_is_next_ret1 verses line hp1 hl_verses hl_line c1)]; exact rfl))
    · skip
      exact s_rv' o7 (ev_notV (ev_anyB (ed_to (T := (tW tB)) (S := (tL K tB)) (ed_of_n (Own.e0 o7) (en_flt (en_lcA (S := tB) (Z := fun B y σ σ2 => ∃ z8, σ2 = (σ.set 2 (some z8)) ∧ (tL K tX).R B z8 y) (dr_list (T := (tL K tX)) (ed_of (T := (tL K (tL K tX))) (up (Own.uh o7) (up (Own.ug o0) f3)) rfl) (Ex.refl _) (fun G x y H' e hx σ' Q q => by exact q _ ⟨x, rfl, hx⟩)) (Ex.refl _) (fun e1 : (List Str) => alikeM e1 line) (fun _ _ _ ⟨z8, h0, fz8⟩ => by subst h0; rfl) (fun G9 e1 σ2 H9 eb9 eg9 eh9 hm1 hz9 => by obtain ⟨z8, rfl, fz8⟩ := hz9; exact (ed_bl (ev_p (v := (.bl (alikeM e1 line))) (ep_imp (ep_callB (S := (R_alike K)) (Ex.refl _) (ebs_cons (T := (tL K tX)) (Ex.refl _) (ed_of (T := (tL K tX)) (up eg9 fz8) rfl) (ebs_cons (T := (tL K tX)) (Ex.refl _) (ed_of (T := (tL K tX)) (up eh9 (up (Own.uh o7) (up (Own.ug o0) f4))) rfl) ebs_nil)) (fun vs G ha => ad_alike ha (vc_is_next_pre_alike1 verses line hp1 hl_verses hl_line e1 c1 hm1))) (fun _ _ h => h))))) (fun _ _ _ _ e ⟨z8, h0, fz8⟩ => ⟨z8, h0, up e fz8⟩))))) (Own.e0 o7))) k (by first | (rw [(vc_is_next_ret2 verses line hp1 hl_verses hl_line c1)]; exact rfl) | (rw [← (vc_is_next_ret2 verses line hp1 hl_verses hl_line c1)]; exact rfl))
abbrev s_read_book : Stmt := topS 21
theorem sc_read_book : FnScope ["text", "verses", "row", "words", "line"] ["text"] (defScope s_read_book) := ⟨rfl, rfl, rfl, by decide +kernel, rfl, by decide +kernel, by decide +kernel⟩
section
variable (text : Str) (hp1 : ∃ k, k ≤ 4 ∧ RwK k (Txt.split text ("\n" : Str))) (hp2 : text.length ≤ 1000000) (hs3 : PyData.strOk (text) = true) (hb11 : (([] : List (List Str))).length ≤ 40000)
include text hp1 hp2 hs3 hb11
theorem vc_read_book_split1 : ((("\n" : Str)).length == 0) = false ∧ text.length + 2 ≤ 16777216 ∧ (∀ y ∈ Txt.split text (("\n" : Str)), TxtOk y) ∧ (Txt.split text (("\n" : Str))).length ≤ 40000 := by
  obtain ⟨k, hk, hr⟩ := hp1
  exact ⟨by decide +kernel, by omega, fun y hy => (hr.2 y hy).txt hk, by have := hr.len hk; omega⟩
theorem vc_read_book_inv1i1 : (([] : List (List Str))) = (wordsM (Txt.split text ("\n" : Str))).take 0 := by
  rfl
theorem vc_read_book_inv1i2 : ∀ j, j < 0 → rowBad (wordsM (Txt.split text ("\n" : Str))) j = false := by
  exact fun j hj => absurd hj (Nat.not_lt_zero _)
section
variable (verses_1 : (List (List Str))) (ix1 : Nat) (y1 : (Int × Str)) (hb22 : (verses_1).length ≤ 40000) (hj1_1 : verses_1 = (wordsM (Txt.split text ("\n" : Str))).take ix1) (hj1_2 : ∀ j, j < ix1 → rowBad (wordsM (Txt.split text ("\n" : Str))) j = false) (hi1 : (enumI (Txt.split text (("\n" : Str))))[ix1]? = some y1)
include verses_1 ix1 y1 hb22 hj1_1 hj1_2 hi1
theorem vc_read_book_split2 : (((" " : Str)).length == 0) = false ∧ y1.2.length + 2 ≤ 16777216 ∧ (∀ y ∈ Txt.split y1.2 ((" " : Str)), TxtOk y) ∧ (Txt.split y1.2 ((" " : Str))).length ≤ 40000 := by
  have e := enumI_get.mp hi1
  have a : RdAt (Txt.split text ("\n" : Str)) ix1 verses_1 y1.2 := ⟨hp1, hj1_1, hj1_2, e.1⟩
  exact a.split
theorem vc_read_book_pre_is_next1 : (Txt.split y1.2 ((" " : Str))).length ≤ 1000 ∧ ∀ l ∈ (verses_1), l.length ≤ 1000 := by
  have e := enumI_get.mp hi1
  have a : RdAt (Txt.split text ("\n" : Str)) ix1 verses_1 y1.2 := ⟨hp1, hj1_1, hj1_2, e.1⟩
  exact a.len
section
variable (c1 : (!(nextB (verses_1) (Txt.split y1.2 ((" " : Str))))) = true)
include c1
theorem vc_read_book_raise1 : readE text = some (("BadText" : Str), [(("row" : Str), V.int y1.1)]) := by
  have e := enumI_get.mp hi1
  have a : RdAt (Txt.split text ("\n" : Str)) ix1 verses_1 y1.2 := ⟨hp1, hj1_1, hj1_2, e.1⟩
  have hb : rowBad (wordsM (Txt.split text ("\n" : Str))) ix1 = true := by
    rw [a.next] at c1
    simpa using c1
  unfold readE
  rw [a.hit hb, e.2]
  rfl
end
section
variable (c1 : (!(nextB (verses_1) (Txt.split y1.2 ((" " : Str))))) = false)
include c1
theorem vc_read_book_app1 : (verses_1).length < 40000 := by
  have e := enumI_get.mp hi1
  have a : RdAt (Txt.split text ("\n" : Str)) ix1 verses_1 y1.2 := ⟨hp1, hj1_1, hj1_2, e.1⟩
  exact a.app
section
variable (hb45 : (verses_1 ++ [Txt.split y1.2 ((" " : Str))]).length ≤ 40000)
include hb45
theorem vc_read_book_inv1s1 : (verses_1 ++ [Txt.split y1.2 ((" " : Str))]) = (wordsM (Txt.split text ("\n" : Str))).take (ix1 + 1) := by
  have e := enumI_get.mp hi1
  have a : RdAt (Txt.split text ("\n" : Str)) ix1 verses_1 y1.2 := ⟨hp1, hj1_1, hj1_2, e.1⟩
  exact a.step
theorem vc_read_book_inv1s2 : ∀ j, j < (ix1 + 1) → rowBad (wordsM (Txt.split text ("\n" : Str))) j = false := by
  have e := enumI_get.mp hi1
  have a : RdAt (Txt.split text ("\n" : Str)) ix1 verses_1 y1.2 := ⟨hp1, hj1_1, hj1_2, e.1⟩
  refine a.go ?_
  rw [a.next] at c1
  simpa using c1
end
end
end
section
variable (verses_1 : (List (List Str)))
include verses_1
section
variable (hb22 : (verses_1).length ≤ 40000) (hj1_1 : verses_1 = (wordsM (Txt.split text ("\n" : Str))).take ((enumI (Txt.split text (("\n" : Str)))).length)) (hj1_2 : ∀ j, j < ((enumI (Txt.split text (("\n" : Str)))).length) → rowBad (wordsM (Txt.split text ("\n" : Str))) j = false)
include hb22 hj1_1 hj1_2
theorem vc_read_book_none1 : readE text = none := by
  rw [enumI_len] at hj1_1 hj1_2
  unfold readE
  rw [readF_none hj1_2]
  rfl
theorem vc_read_book_pre_Book1 : needM (verses_1) = none ∧ (verses_1).length ≤ 1000 ∧ ∀ l ∈ verses_1, l.length ≤ 1000 := by
  rw [enumI_len] at hj1_1 hj1_2
  obtain ⟨k, hk, hr⟩ := hp1
  have g := read_good (split_len nl_tl (by decide) text).2 hj1_2
  rw [← read_all hj1_1]
  exact ⟨g.need (Nat.le_refl _), by have := g.len; omega, fun l hl => (ver_txt (g.ver l hl)).1⟩
theorem vc_read_book_ret1 : (wordsM (Txt.split text ("\n" : Str))) = (verses_1) := by
  rw [enumI_len] at hj1_1 hj1_2
  exact read_all hj1_1
end
end
end
def R_read_book (K : PySem.W.Frag) (C_Book : Addr) : Rl := ⟨fun vs H r => ∃ (text : Str), ArgsR H vs [⟨tS, text⟩] ∧ (∃ k, k ≤ 4 ∧ RwK k (Txt.split text ("\n" : Str))) ∧ (text.length ≤ 1000000) ∧ r = resEF (readE text) (fun N v => (tBook K C_Book).R N v (wordsM (Txt.split text ("\n" : Str)))), fun e ⟨text, h, h2⟩ => ⟨text, h.up e, h2⟩⟩
theorem ok_read_book (B : Bt mg) {C_BadText C_Book : Addr} (X_BadText : Xi P w K mg base "BadText" C_BadText ["row"]) (O_Book : OkC P w K mg base 4 C_Book "Book" ["self", "verses"] ((R_Book K C_Book).spI mg C_Book)) (O_is_next : Ok P w K mg base 3 "is_next" ["verses", "line"] ((R_is_next K).sp mg)) (D : Df K mg "read_book" s_read_book ["text"]) : Ok P w K mg base 6 "read_book" ["text"] ((R_read_book K C_Book).sp mg) := by
  refine D.ok sc_read_book (fun vs H Q E h => ?_) (fun f cdv A outer s H vs Q E hr h => ?_)
  · obtain ⟨r, ⟨text, ha, _⟩, _⟩ := h
    exact ha.len
  · obtain ⟨r, ⟨text, ha, hp1, hp2, rfl⟩, k⟩ := h
    obtain ⟨v1, rfl, f2⟩ := args1 ha
    have o0 := Own.init H
    obtain ⟨rfl, hs3⟩ : v1 = .str text ∧ PyData.strOk (text) = true := f2
    refine ⟨_, (pss_cons (ps_set (i := 1) sc_read_book.nd rfl (.inl rfl) (pe_lst pa_nil))
      (pss_cons (ps_for (passes_of rfl) rfl (pi_enumK K (by rfl) B.enumerate (pa_cons (pe_bmK K PySem.F.plainAttrs_str PySem.F.slot_str_split PySem.F.type_str_split mt_split (pv 0) (pa_cons pe_str pa_nil)) pa_nil)) (pg_tupK K (n := 2) rfl (pgs_cons (pg_name (i := 2) sc_read_book.nd rfl (.inl rfl)) (pgs_cons (pg_name (i := 3) sc_read_book.nd rfl (.inl rfl)) pgs_nil)))
        (pss_cons (ps_set (i := 4) sc_read_book.nd rfl (.inl rfl) (pe_bmK K PySem.F.plainAttrs_str PySem.F.slot_str_split PySem.F.type_str_split mt_split (pv 3) (pa_cons pe_str pa_nil)))
        (pss_cons (ps_if (pt_not (pt_val (pe_callO O_is_next (hr.mono (by omega)) (by rfl) (takes_of rfl rfl rfl rfl) (pa_cons (pv 1) (pa_cons (pv 4) pa_nil)))))
          (pss_one (ps_raise rfl (takes_of rfl rfl rfl rfl) (pmk_exI X_BadText hr (by omega) (by rfl) (pa_cons (pv 2) pa_nil))))
          pss_nil)
        (pss_one (ps_expr (pe_bmK K PySem.F.plainAttrs_list PySem.F.slot_list_append PySem.F.type_list_append mt_append (pv 1) (pa_cons (pv 4) pa_nil)))))))
      (pss_one (ps_ret (pe_makeO O_Book (hr.mono (by omega)) (by rfl) (takes_of rfl rfl rfl rfl) (pa_cons (pv 1) pa_nil)))))), ?_⟩
    refine q_o (T := (tL K tX)) (l := ([] : List (List Str))) (i := 1) o0 (en_lst (T := (tL K tX)) (l := ([] : List (List Str))) (Own.e0 o0) ebs_nil (Nat.le_of_ble_eq_true rfl)) fun p4 xs5 M6 H7 eM8 o9 f10 hb11 => ?_
    refine q_fo (Z := fun B y σ σ2 => ∃ z12 z13, σ2 = ((σ.set 2 (some z12)).set 3 (some z13)) ∧ tI.R B z12 y.1 ∧ tX.R B z13 y.2) o9 (dr_enum (T := tX) (ed_to (T := (tW tX)) (S := (tL K tX)) (ed_of_n (Own.e0 o9) (en_splitX (ev_var rfl) ev_c (vc_read_book_split1 text hp1 hp2 hs3 hb11)))) (Own.e0 o9) (fun G i a x y H' e hx ha σ' Q q => by exact ⟨a, [.int (i : Nat), x], rfl, st_of ha, rfl, .int (i : Nat), [x], rfl, x, [], rfl, rfl, q _ ⟨_, x, rfl, rfl, hx⟩⟩)) (fun Mx ix σ' H' => ∃ (M14 : Hp) (g17 : Option V) (g18 : Option V) (g19 : Option V) (xs20 : List V) (verses_1 : (List (List Str))), (σ' = [some (.str text), some (.ref p4), g17, g18, g19]) ∧ (Ex Mx M14) ∧ (Own (M14 :: H :: sing p4 (.lst xs20) :: []) H') ∧ (Paired ((tL K tX).R M14) xs20 verses_1) ∧ ((verses_1).length ≤ 40000) ∧ (verses_1 = (wordsM (Txt.split text ("\n" : Str))).take ix) ∧ (∀ j, j < ix → rowBad (wordsM (Txt.split text ("\n" : Str))) j = false)) (fun M1_1 H1 eM1_1 o1 => ?_) (fun M1_1 ix σ' H' eM1_1 ⟨M14, g17, g18, g19, xs20, verses_1, _, eM16, o15, _, _, _, _⟩ => ?_) ?_ ?_
    · exact ⟨M1_1, _, _, _, _, (([] : List (List Str))), rfl, Ex.refl _, o1, (paired_up eM1_1 f10), hb11, (vc_read_book_inv1i1 text hp1 hp2 hs3 hb11), (vc_read_book_inv1i2 text hp1 hp2 hs3 hb11)⟩
    · exact (eM16.trans (Own.e0 o15))
    · rintro M1_1 ix1 y1 σ' H' H'' σ2 eM1_1 hi1 ⟨M14, g17, g18, g19, xs20, verses_1, rfl, eM16, o15, f21, hb22, hj1_1, hj1_2⟩ eH23 ⟨z25, z26, rfl, f27, f28⟩
      have o24 := Own.mono eH23 o15
      obtain rfl : z25 = (.int (y1.1)) := f27
      obtain ⟨rfl, hs29⟩ : z26 = .str (y1.2) ∧ TxtOk (y1.2) := f28
      refine q_b (i := 4) o24 (ed_of_n (Own.e0 o24) (en_splitX (ev_var rfl) ev_c (vc_read_book_split2 text hp1 hp2 hs3 hb11 verses_1 ix1 y1 hb22 hj1_1 hj1_2 hi1))) fun v30 M31 H32 eM33 o34 f35 => ?_
      refine q_wh o34 (et_not (et_B (ev_p (v := (.bl (nextB (verses_1) (Txt.split y1.2 ((" " : Str)))))) (ep_imp (ep_callB (S := (R_is_next K)) (Ex.refl _) (ebs_cons (T := (tL K (tL K tX))) (Ex.refl _) (ed_to (T := (tW (tL K tX))) (S := (tL K (tL K tX))) (ed_of (T := (tW (tL K tX))) (own_rd o34 (j := 0) rfl (paired_up eM33 f21) hb22) rfl)) (ebs_cons (T := (tL K tX)) (Ex.refl _) (ed_to (T := (tW tX)) (S := (tL K tX)) (ed_of (T := (tW tX)) (up (Own.e0 o34) f35) rfl)) ebs_nil)) (fun vs G ha => ⟨(verses_1), (Txt.split y1.2 ((" " : Str))), ha, (vc_read_book_pre_is_next1 text hp1 hp2 hs3 hb11 verses_1 ix1 y1 hb22 hj1_1 hj1_2 hi1), rfl⟩)) (fun _ _ h => h))))) (fun c1 H36 o37 => ?_) (fun c1 H36 o37 => ?_)
      · skip
        exact raise_xi (j := 0) (vs := [V.int y1.1]) (Own.one H36) rfl (ea_cons (ev_var rfl) ea_nil) rfl (by show 1 ≤ 1000; decide) (by decide) X_BadText.g (RaiseX.fwd (Own.e1 o37) (resEF_err (vc_read_book_raise1 text hp1 hp2 hs3 hb11 verses_1 ix1 y1 hb22 hj1_1 hj1_2 hi1 c1) k))
      · skip
        refine s_ap (T := (tL K tX)) o37 (j := 0) rfl (paired_up eM33 f21) (ev_var rfl) (ed_to (T := (tW tX)) (S := (tL K tX)) (ed_of (T := (tW tX)) f35 rfl)) (vc_read_book_app1 text hp1 hp2 hs3 hb11 verses_1 ix1 y1 hb22 hj1_1 hj1_2 hi1 c1) fun v38 M39 H40 eM41 o42 f43 => ?_
        have hb45 : (verses_1 ++ [Txt.split y1.2 ((" " : Str))]).length ≤ 40000 := by have := (vc_read_book_app1 text hp1 hp2 hs3 hb11 verses_1 ix1 y1 hb22 hj1_1 hj1_2 hi1 c1); simp only [List.length_append, List.length_cons, List.length_nil] at this ⊢; omega
        exact ⟨M39, _, _, _, _, (verses_1 ++ [Txt.split y1.2 ((" " : Str))]), rfl, (Ex.trans eM16 (Ex.trans eM33 eM41)), o42, f43, hb45, (vc_read_book_inv1s1 text hp1 hp2 hs3 hb11 verses_1 ix1 y1 hb22 hj1_1 hj1_2 hi1 c1 hb45), (vc_read_book_inv1s2 text hp1 hp2 hs3 hb11 verses_1 ix1 y1 hb22 hj1_1 hj1_2 hi1 c1 hb45)⟩
    · rintro M1_1 σ' H' eM1_1 ⟨M14, g17, g18, g19, xs20, verses_1, rfl, eM16, o15, f21, hb22, hj1_1, hj1_2⟩
      exact s_rb o15 (eb_imp (ed_p (T := (tBook K C_Book)) (ep_makeB (S := (R_Book K C_Book)) (Ex.refl _) (ebs_cons (T := (tL K (tL K tX))) (Ex.refl _) (ed_to (T := (tW (tL K tX))) (S := (tL K (tL K tX))) (ed_of (T := (tW (tL K tX))) (own_rd o15 (j := 0) rfl f21 hb22) rfl)) ebs_nil) (fun vs G ha => ad_Book ha (vc_read_book_pre_Book1 text hp1 hp2 hs3 hb11 verses_1 hb22 hj1_1 hj1_2))) (Own.e0 o15) (fun _ _ h => h)) fun N v h => (by rw [(vc_read_book_ret1 text hp1 hp2 hs3 hb11 verses_1 hb22 hj1_1 hj1_2)]; exact h)) (resEF_ok (vc_read_book_none1 text hp1 hp2 hs3 hb11 verses_1 hb22 hj1_1 hj1_2) k)
abbrev s__law_book_rows : Stmt := topS 34
theorem sc__law_book_rows : FnScope ["_law_verses", "_law_line"] ["_law_verses"] (defScope s__law_book_rows) := ⟨rfl, rfl, rfl, by decide +kernel, rfl, by decide +kernel, by decide +kernel⟩
section
variable (verses : (List (List Str))) (e1 : (List Str)) (hp1 : ∀ l ∈ verses, isVer l = true) (hl_verses : verses.length ≤ 40000) (hm1 : e1 ∈ verses)
include verses e1 hp1 hl_verses hm1
theorem vc__law_book_rows_join1 : ((e1).map (·.length)).sum + (e1).length * ((" " : Str)).length ≤ 16777216 := by
  exact line_sum (hp1 _ hm1)
theorem vc__law_book_rows_jok1 : TxtOk (Txt.join ((" " : Str)) e1) := by
  exact (line_row (hp1 _ hm1)).txt (by decide)
end
section
variable (verses : (List (List Str)))
include verses
section
variable (hp1 : ∀ l ∈ verses, isVer l = true) (hl_verses : verses.length ≤ 40000)
include hp1 hl_verses
theorem vc__law_book_rows_ret1 : ((verses.map fun l => Txt.join (" " : Str) l)) = ((verses).map fun e1 => Txt.join ((" " : Str)) e1) := by
  rfl
end
end
def R__law_book_rows (K : PySem.W.Frag) : Rl := ⟨fun vs H r => ∃ (verses : (List (List Str))), ArgsR H vs [⟨(tL K (tL K tX)), verses⟩] ∧ (∀ l ∈ verses, isVer l = true) ∧ r = .ok (fun N v => (tW tX).R N v ((verses.map fun l => Txt.join (" " : Str) l))), fun e ⟨verses, h, h2⟩ => ⟨verses, h.up e, h2⟩⟩
theorem ok__law_book_rows (B : Bt mg)  (D : Df K mg "_law_book_rows" s__law_book_rows ["_law_verses"]) : Ok P w K mg base 1 "_law_book_rows" ["_law_verses"] ((R__law_book_rows K).sp mg) := by
  refine D.ok sc__law_book_rows (fun vs H Q E h => ?_) (fun f cdv A outer s H vs Q E hr h => ?_)
  · obtain ⟨r, ⟨verses, ha, _⟩, _⟩ := h
    exact ha.len
  · obtain ⟨r, ⟨verses, ha, hp1, rfl⟩, k⟩ := h
    obtain ⟨v1, rfl, f2⟩ := args1 ha
    have o0 := Own.init H
    have hl_verses : verses.length ≤ 40000 := len_ofL f2
    refine ⟨_, (pss_one (ps_ret (pe_lc (own := [("_law_line", 1)]) rfl sc__law_book_rows.nd (pi_listK K (pv 0)) (blkOk_by (N := ["_law_verses", "_law_line"]) (sc := defScope s__law_book_rows) (by decide +kernel)) (fun _ _ _ _ _ => (pg_name (i := 1) sc__law_book_rows.nd rfl (.inl rfl))) (fun _ _ _ _ _ => pts_nil) (fun _ _ _ _ _ => (pe_bmK K PySem.F.plainAttrs_str PySem.F.slot_str_join PySem.F.type_str_join (mt_joinK K) pe_str (pa_cons (pv 1) pa_nil)))))), ?_⟩
    exact s_rb o0 (eb_imp (ed_of_n (Own.e0 o0) (en_flt (en_lcA (S := tX) (Z := fun B y σ σ2 => ∃ z3, σ2 = (σ.set 1 (some z3)) ∧ (tL K tX).R B z3 y) (dr_list (T := (tL K tX)) (ed_of (T := (tL K (tL K tX))) (up (Own.uh o0) (up (Own.ug o0) f2)) rfl) (Ex.refl _) (fun G x y H' e hx σ' Q q => by exact q _ ⟨x, rfl, hx⟩)) (Ex.refl _) (fun e1 : (List Str) => Txt.join ((" " : Str)) e1) (fun _ _ _ ⟨z3, h0, fz3⟩ => by subst h0; rfl) (fun G4 e1 σ2 H4 eb4 eg4 eh4 hm1 hz4 => by obtain ⟨z3, rfl, fz3⟩ := hz4; exact (ed_x (ev_join (a := (" " : Str)) (ed_to (T := (tL K tX)) (S := (tL K tS)) (ed_of (T := (tL K tX)) (up eg4 fz3) rfl)) (Ex.refl _) (vc__law_book_rows_join1 verses e1 hp1 hl_verses hm1)) (vc__law_book_rows_jok1 verses e1 hp1 hl_verses hm1))) (fun _ _ _ _ e ⟨z3, h0, fz3⟩ => ⟨z3, h0, up e fz3⟩)))) fun N v h => (by rw [(vc__law_book_rows_ret1 verses hp1 hl_verses)]; exact h)) k
abbrev s__law_first_bad : Stmt := topS 35
theorem sc__law_first_bad : FnScope ["_law_rows", "_law_verses", "_law_row", "_law_line", "_law_one"] ["_law_rows"] (defScope s__law_first_bad) := ⟨rfl, rfl, rfl, by decide +kernel, rfl, by decide +kernel, by decide +kernel⟩
section
variable (rows : (List Str)) (hp1 : ∃ k, k ≤ 4 ∧ RwK k rows) (hl_rows : rows.length ≤ 40000) (hb10 : (([] : List (List Str))).length ≤ 40000)
include rows hp1 hl_rows hb10
theorem vc__law_first_bad_rng1 : -1000000 ≤ ((rows).length : Int) ∧ ((rows).length : Int) ≤ 40000 := by
  obtain ⟨k, hk, hr⟩ := hp1
  have := hr.len hk
  omega
theorem vc__law_first_bad_inv1i1 : (([] : List (List Str))) = (wordsM rows).take 0 := by
  rfl
theorem vc__law_first_bad_inv1i2 : ∀ j, j < 0 → rowBad (wordsM rows) j = false := by
  exact fun j hj => absurd hj (Nat.not_lt_zero _)
section
variable (verses_1 : (List (List Str))) (ix1 : Nat) (y1 : Int) (hb18 : (verses_1).length ≤ 40000) (hj1_1 : verses_1 = (wordsM rows).take ix1) (hj1_2 : ∀ j, j < ix1 → rowBad (wordsM rows) j = false) (hi1 : (rngI (((rows).length : Int)))[ix1]? = some y1)
include verses_1 ix1 y1 hb18 hj1_1 hj1_2 hi1
theorem vc__law_first_bad_ix1 : -((rows).length : Int) ≤ y1 ∧ y1 < (rows).length := by
  have e := rngI_get.mp hi1
  have hlt : ix1 < rows.length := by omega
  have hg : rows[ix1]? = some (getI rows y1) := by
    rw [e.1]
    exact getI_row hlt
  have a : RdAt rows ix1 verses_1 (getI rows y1) := ⟨hp1, hj1_1, hj1_2, hg⟩
  omega
theorem vc__law_first_bad_split1 : (((" " : Str)).length == 0) = false ∧ (getI rows y1).length + 2 ≤ 16777216 ∧ (∀ y ∈ Txt.split (getI rows y1) ((" " : Str)), TxtOk y) ∧ (Txt.split (getI rows y1) ((" " : Str))).length ≤ 40000 := by
  have e := rngI_get.mp hi1
  have hlt : ix1 < rows.length := by omega
  have hg : rows[ix1]? = some (getI rows y1) := by
    rw [e.1]
    exact getI_row hlt
  have a : RdAt rows ix1 verses_1 (getI rows y1) := ⟨hp1, hj1_1, hj1_2, hg⟩
  exact a.split
section
variable (hc29 : (decide (y1 > (39 : Int))) = false)
include hc29
theorem vc__law_first_bad_pre_is_line1 : (Txt.split (getI rows y1) ((" " : Str))).length ≤ 1000 := by
  have e := rngI_get.mp hi1
  have hlt : ix1 < rows.length := by omega
  have hg : rows[ix1]? = some (getI rows y1) := by
    rw [e.1]
    exact getI_row hlt
  have a : RdAt rows ix1 verses_1 (getI rows y1) := ⟨hp1, hj1_1, hj1_2, hg⟩
  exact a.len.1
section
variable (e1 : (List Str)) (hc30 : (!(isVer (Txt.split (getI rows y1) ((" " : Str))))) = false) (hm1 : e1 ∈ verses_1)
include e1 hc30 hm1
theorem vc__law_first_bad_pre_alike1 : (Txt.split (getI rows y1) ((" " : Str))).length ≤ 1000 ∧ (e1).length ≤ 1000 := by
  have e := rngI_get.mp hi1
  have hlt : ix1 < rows.length := by omega
  have hg : rows[ix1]? = some (getI rows y1) := by
    rw [e.1]
    exact getI_row hlt
  have a : RdAt rows ix1 verses_1 (getI rows y1) := ⟨hp1, hj1_1, hj1_2, hg⟩
  exact ⟨a.len.1, a.len.2 _ hm1⟩
end
end
section
variable (c1 : (((decide (y1 > (39 : Int))) || (((!(isVer (Txt.split (getI rows y1) ((" " : Str))))) || (((verses_1).map fun e1 => alikeM (Txt.split (getI rows y1) ((" " : Str))) e1).any id))))) = true)
include c1
theorem vc__law_first_bad_ret1 : (firstI rows) = (y1) := by
  have e := rngI_get.mp hi1
  have hlt : ix1 < rows.length := by omega
  have hg : rows[ix1]? = some (getI rows y1) := by
    rw [e.1]
    exact getI_row hlt
  have a : RdAt rows ix1 verses_1 (getI rows y1) := ⟨hp1, hj1_1, hj1_2, hg⟩
  have hb : rowBad (wordsM rows) ix1 = true := by
    unfold rowBad
    rw [wordsM_row hg, ← hj1_1, Bool.or_assoc]
    have e2 : decide (y1 > 39) = decide (39 < ix1) := decide_eq_decide.mpr (by omega)
    rw [e2] at c1
    simpa only [List.any_map, Function.comp_def, id] using c1
  unfold firstI
  rw [a.hit hb, e.1]
end
section
variable (c1 : (((decide (y1 > (39 : Int))) || (((!(isVer (Txt.split (getI rows y1) ((" " : Str))))) || (((verses_1).map fun e1 => alikeM (Txt.split (getI rows y1) ((" " : Str))) e1).any id))))) = false)
include c1
theorem vc__law_first_bad_app1 : (verses_1).length < 40000 := by
  have e := rngI_get.mp hi1
  have hlt : ix1 < rows.length := by omega
  have hg : rows[ix1]? = some (getI rows y1) := by
    rw [e.1]
    exact getI_row hlt
  have a : RdAt rows ix1 verses_1 (getI rows y1) := ⟨hp1, hj1_1, hj1_2, hg⟩
  exact a.app
section
variable (hb43 : (verses_1 ++ [Txt.split (getI rows y1) ((" " : Str))]).length ≤ 40000)
include hb43
theorem vc__law_first_bad_inv1s1 : (verses_1 ++ [Txt.split (getI rows y1) ((" " : Str))]) = (wordsM rows).take (ix1 + 1) := by
  have e := rngI_get.mp hi1
  have hlt : ix1 < rows.length := by omega
  have hg : rows[ix1]? = some (getI rows y1) := by
    rw [e.1]
    exact getI_row hlt
  have a : RdAt rows ix1 verses_1 (getI rows y1) := ⟨hp1, hj1_1, hj1_2, hg⟩
  exact a.step
theorem vc__law_first_bad_inv1s2 : ∀ j, j < (ix1 + 1) → rowBad (wordsM rows) j = false := by
  have e := rngI_get.mp hi1
  have hlt : ix1 < rows.length := by omega
  have hg : rows[ix1]? = some (getI rows y1) := by
    rw [e.1]
    exact getI_row hlt
  have a : RdAt rows ix1 verses_1 (getI rows y1) := ⟨hp1, hj1_1, hj1_2, hg⟩
  have hb : rowBad (wordsM rows) ix1 = false := by
    unfold rowBad
    rw [wordsM_row hg, ← hj1_1, Bool.or_assoc]
    have e2 : decide (y1 > 39) = decide (39 < ix1) := decide_eq_decide.mpr (by omega)
    rw [e2] at c1
    simpa only [List.any_map, Function.comp_def, id] using c1
  exact a.go hb
end
end
end
section
variable (verses_1 : (List (List Str)))
include verses_1
section
variable (hb18 : (verses_1).length ≤ 40000) (hj1_1 : verses_1 = (wordsM rows).take ((rngI (((rows).length : Int))).length)) (hj1_2 : ∀ j, j < ((rngI (((rows).length : Int))).length) → rowBad (wordsM rows) j = false)
include hb18 hj1_1 hj1_2
theorem vc__law_first_bad_ret2 : (firstI rows) = (-(1 : Int)) := by
  have hL : (rngI (rows.length : Int)).length = rows.length := by simp [rngI]
  rw [hL] at hj1_1 hj1_2
  unfold firstI
  rw [readF_none hj1_2]
end
end
end
def R__law_first_bad (K : PySem.W.Frag) : Rl := ⟨fun vs H r => ∃ (rows : (List Str)), ArgsR H vs [⟨(tL K tX), rows⟩] ∧ (∃ k, k ≤ 4 ∧ RwK k rows) ∧ r = .ok (fun N v => tI.R N v (firstI rows)), fun e ⟨rows, h, h2⟩ => ⟨rows, h.up e, h2⟩⟩
theorem ok__law_first_bad (B : Bt mg) (O__law_alike : Ok P w K mg base 1 "_law_alike" ["_law_one", "_law_other"] ((R_alike K).sp mg)) (O__law_is_line : Ok P w K mg base 1 "_law_is_line" ["_law_line"] ((R_is_verse K).sp mg)) (D : Df K mg "_law_first_bad" s__law_first_bad ["_law_rows"]) : Ok P w K mg base 2 "_law_first_bad" ["_law_rows"] ((R__law_first_bad K).sp mg) := by
  refine D.ok sc__law_first_bad (fun vs H Q E h => ?_) (fun f cdv A outer s H vs Q E hr h => ?_)
  · obtain ⟨r, ⟨rows, ha, _⟩, _⟩ := h
    exact ha.len
  · obtain ⟨r, ⟨rows, ha, hp1, rfl⟩, k⟩ := h
    obtain ⟨v1, rfl, f2⟩ := args1 ha
    have o0 := Own.init H
    have hl_rows : rows.length ≤ 40000 := len_ofL f2
    refine ⟨_, (pss_cons (ps_set (i := 1) sc__law_first_bad.nd rfl (.inl rfl) (pe_lst pa_nil))
      (pss_cons (ps_for (passes_of rfl) rfl (pi_range1 (by rfl) B.range (pa_cons (pe_callB (call_lenK K) (by rfl) B.len boot_b_len (pa_cons (pv 0) pa_nil)) pa_nil)) (pg_name (i := 2) sc__law_first_bad.nd rfl (.inl rfl))
        (pss_cons (ps_set (i := 3) sc__law_first_bad.nd rfl (.inr rfl) (pe_bmK K PySem.F.plainAttrs_str PySem.F.slot_str_split PySem.F.type_str_split mt_split (pe_ix (ix_seqK K) (pv 0) (pv 2) (fun _ _ => rfl)) (pa_cons pe_str pa_nil)))
        (pss_cons (ps_if (PW.pt (pw_or (pt_cmpR op_gt (pv 2) pe_int (nomark _)) (pw_or (pt_not (pt_val (pe_callO O__law_is_line (hr.mono (by omega)) (by rfl) (takes_of rfl rfl rfl rfl) (pa_cons (pv 3) pa_nil)))) (pw_or1 (pt_val (pe_callB (cr_anyK K rfl) (by rfl) B.any boot_b_any (pa_cons (pe_lc (own := [("_law_one", 4)]) rfl sc__law_first_bad.nd (pi_listK K (pv 1)) (blkOk_by (N := ["_law_rows", "_law_verses", "_law_row", "_law_line", "_law_one"]) (sc := defScope s__law_first_bad) (by decide +kernel)) (fun _ _ _ _ _ => (pg_name (i := 4) sc__law_first_bad.nd rfl (.inl rfl))) (fun _ _ _ _ _ => pts_nil) (fun _ _ _ _ _ => (pe_callO O__law_alike (hr.mono (by omega)) (by rfl) takes0 (pa_cons (pv 3) (pa_cons (pv 4) pa_nil))))) pa_nil)))))))
          (pss_one (ps_ret (pv 2)))
          pss_nil)
        (pss_one (ps_expr (pe_bmK K PySem.F.plainAttrs_list PySem.F.slot_list_append PySem.F.type_list_append mt_append (pv 1) (pa_cons (pv 3) pa_nil)))))))
      (pss_one (ps_ret (pe_un un_neg pe_int))))), ?_⟩
    refine q_o (T := (tL K tX)) (l := ([] : List (List Str))) (i := 1) o0 (en_lst (T := (tL K tX)) (l := ([] : List (List Str))) (Own.e0 o0) ebs_nil (Nat.le_of_ble_eq_true rfl)) fun p3 xs4 M5 H6 eM7 o8 f9 hb10 => ?_
    refine q_fo (Z := fun B y σ σ2 => ∃ v, σ2 = σ.set 2 (some v) ∧ tI.R B v y) o8 (dr_rng (n := ((rows).length : Int)) (ev_lenB (T := tX) (ed_of (T := (tL K tX)) (up (Own.uu o8 eM7) (up (Own.ug o0) f2)) rfl) (Own.uh o8)) (vc__law_first_bad_rng1 rows hp1 hl_rows hb10) fun _ y _ _ _ q => q _ ⟨_, rfl, rfl⟩) (fun Mx ix σ' H' => ∃ (M11 : Hp) (g14 : Option V) (g15 : Option V) (xs16 : List V) (verses_1 : (List (List Str))), (σ' = [some v1, some (.ref p3), g14, g15, none]) ∧ (Ex Mx M11) ∧ (Own (M11 :: H :: sing p3 (.lst xs16) :: []) H') ∧ (Paired ((tL K tX).R M11) xs16 verses_1) ∧ ((verses_1).length ≤ 40000) ∧ (verses_1 = (wordsM rows).take ix) ∧ (∀ j, j < ix → rowBad (wordsM rows) j = false)) (fun M1_1 H1 eM1_1 o1 => ?_) (fun M1_1 ix σ' H' eM1_1 ⟨M11, g14, g15, xs16, verses_1, _, eM13, o12, _, _, _, _⟩ => ?_) ?_ ?_
    · exact ⟨M1_1, _, _, _, (([] : List (List Str))), rfl, Ex.refl _, o1, (paired_up eM1_1 f9), hb10, (vc__law_first_bad_inv1i1 rows hp1 hl_rows hb10), (vc__law_first_bad_inv1i2 rows hp1 hl_rows hb10)⟩
    · exact (eM13.trans (Own.e0 o12))
    · rintro M1_1 ix1 y1 σ' H' H'' σ2 eM1_1 hi1 ⟨M11, g14, g15, xs16, verses_1, rfl, eM13, o12, f17, hb18, hj1_1, hj1_2⟩ eH19 ⟨z21, rfl, f22⟩
      have o20 := Own.mono eH19 o12
      obtain rfl : z21 = (.int (y1)) := f22
      refine q_b (i := 3) o20 (ed_of_n (Own.e0 o20) (en_splitX (ev_x (ed_ixG (ed_of (T := (tL K tX)) (up (Own.uu o20 (Ex.trans eM7 (Ex.trans eM1_1 eM13))) (up (Own.ug o0) f2)) rfl) (ev_var rfl) (vc__law_first_bad_ix1 rows hp1 hl_rows hb10 verses_1 ix1 y1 hb18 hj1_1 hj1_2 hi1) (Own.uh o20))) ev_c (vc__law_first_bad_split1 rows hp1 hl_rows hb10 verses_1 ix1 y1 hb18 hj1_1 hj1_2 hi1))) fun v23 M24 H25 eM26 o27 f28 => ?_
      refine q_wh o27 (et_or (et_test (ev_op (ev_var rfl) ev_c rv_I0)) fun hc29 => (et_or (et_not (et_B (ev_p (v := (.bl (isVer (Txt.split (getI rows y1) ((" " : Str)))))) (ep_imp (ep_callB (S := (R_is_verse K)) (Ex.refl _) (ebs_cons (T := (tL K tX)) (Ex.refl _) (ed_to (T := (tW tX)) (S := (tL K tX)) (ed_of (T := (tW tX)) (up (Own.e0 o27) f28) rfl)) ebs_nil) (fun vs G ha => ad_is_verse ha (vc__law_first_bad_pre_is_line1 rows hp1 hl_rows hb10 verses_1 ix1 y1 hb18 hj1_1 hj1_2 hi1 hc29))) (fun _ _ h => h))))) fun hc30 => (et_B (ev_anyB (ed_to (T := (tW tB)) (S := (tL K tB)) (ed_of_n (Own.e0 o27) (en_flt (en_lcA (S := tB) (Z := fun B y σ σ2 => ∃ z31, σ2 = (σ.set 4 (some z31)) ∧ (tL K tX).R B z31 y) (dr_list (T := (tL K tX)) (ed_to (T := (tW (tL K tX))) (S := (tL K (tL K tX))) (ed_of (T := (tW (tL K tX))) (own_rd o27 (j := 0) rfl (paired_up eM26 f17) hb18) rfl)) (Ex.refl _) (fun G x y H' e hx σ' Q q => by exact q _ ⟨x, rfl, hx⟩)) (Ex.refl _) (fun e1 : (List Str) => alikeM (Txt.split (getI rows y1) ((" " : Str))) e1) (fun _ _ _ ⟨z31, h0, fz31⟩ => by subst h0; rfl) (fun G32 e1 σ2 H32 eb32 eg32 eh32 hm1 hz32 => by obtain ⟨z31, rfl, fz31⟩ := hz32; exact (ed_bl (ev_p (v := (.bl (alikeM (Txt.split (getI rows y1) ((" " : Str))) e1))) (ep_imp (ep_callB (S := (R_alike K)) (Ex.refl _) (ebs_cons (T := (tL K tX)) (Ex.refl _) (ed_to (T := (tW tX)) (S := (tL K tX)) (ed_of (T := (tW tX)) (up eh32 (up (Own.e0 o27) f28)) rfl)) (ebs_cons (T := (tL K tX)) (Ex.refl _) (ed_of (T := (tL K tX)) (up eg32 fz31) rfl) ebs_nil)) (fun vs G ha => ad_alike ha (vc__law_first_bad_pre_alike1 rows hp1 hl_rows hb10 verses_1 ix1 y1 hb18 hj1_1 hj1_2 hi1 hc29 e1 hc30 hm1))) (fun _ _ h => h))))) (fun _ _ _ _ e ⟨z31, h0, fz31⟩ => ⟨z31, h0, up e fz31⟩))))) (Own.e0 o27))))) (fun c1 H34 o35 => ?_) (fun c1 H34 o35 => ?_)
      · skip
        exact s_rv' o35 (ev_var rfl) k (by first | (rw [(vc__law_first_bad_ret1 rows hp1 hl_rows hb10 verses_1 ix1 y1 hb18 hj1_1 hj1_2 hi1 c1)]; exact rfl) | (rw [← (vc__law_first_bad_ret1 rows hp1 hl_rows hb10 verses_1 ix1 y1 hb18 hj1_1 hj1_2 hi1 c1)]; exact rfl))
      · skip
        refine s_ap (T := (tL K tX)) o35 (j := 0) rfl (paired_up eM26 f17) (ev_var rfl) (ed_to (T := (tW tX)) (S := (tL K tX)) (ed_of (T := (tW tX)) f28 rfl)) (vc__law_first_bad_app1 rows hp1 hl_rows hb10 verses_1 ix1 y1 hb18 hj1_1 hj1_2 hi1 c1) fun v36 M37 H38 eM39 o40 f41 => ?_
        have hb43 : (verses_1 ++ [Txt.split (getI rows y1) ((" " : Str))]).length ≤ 40000 := by have := (vc__law_first_bad_app1 rows hp1 hl_rows hb10 verses_1 ix1 y1 hb18 hj1_1 hj1_2 hi1 c1); simp only [List.length_append, List.length_cons, List.length_nil] at this ⊢; omega
        exact ⟨M37, _, _, _, (verses_1 ++ [Txt.split (getI rows y1) ((" " : Str))]), rfl, (Ex.trans eM13 (Ex.trans eM26 eM39)), o40, f41, hb43, (vc__law_first_bad_inv1s1 rows hp1 hl_rows hb10 verses_1 ix1 y1 hb18 hj1_1 hj1_2 hi1 c1 hb43), (vc__law_first_bad_inv1s2 rows hp1 hl_rows hb10 verses_1 ix1 y1 hb18 hj1_1 hj1_2 hi1 c1 hb43)⟩
    · rintro M1_1 σ' H' eM1_1 ⟨M11, g14, g15, xs16, verses_1, rfl, eM13, o12, f17, hb18, hj1_1, hj1_2⟩
      exact s_rv' o12 (ev_un ev_c ru_neg) k (by first | (rw [(vc__law_first_bad_ret2 rows hp1 hl_rows hb10 verses_1 hb18 hj1_1 hj1_2)]; exact rfl) | (rw [← (vc__law_first_bad_ret2 rows hp1 hl_rows hb10 verses_1 hb18 hj1_1 hj1_2)]; exact rfl))
abbrev s__law_spoilt_rows : Stmt := topS 36
theorem sc__law_spoilt_rows : FnScope ["_law_rows", "_law_d", "_law_here", "_law_row", "_law_at", "_law_odd"] ["_law_rows", "_law_d"] (defScope s__law_spoilt_rows) := ⟨rfl, rfl, rfl, by decide +kernel, rfl, by decide +kernel, by decide +kernel⟩
section
variable (rows : (List Str)) (d : (List Int)) (hp1 : ∃ k, k ≤ 3 ∧ RwK k rows) (hp2 : 4 ≤ d.length ∧ ∀ x ∈ d, 0 ≤ x ∧ x < 9967) (hl_rows : rows.length ≤ 40000) (hl_d : d.length ≤ 40000) (c1 : (decide (rows = (([] : List Str)))) = true)
include rows d hp1 hp2 hl_rows hl_d c1
theorem vc__law_spoilt_rows_ret1 : ∀ k : Nat, k ≤ 3 → RwK k rows → RwK (k + 1) (([("a" : Str)] : List Str)) := by
  intro k hk hr
  exact hr.next (by rw [List.length_singleton]; omega) fun y hy => by rw [List.mem_singleton.mp hy]; exact RowN.le (show RowN 0 ("a" : Str) from ⟨by decide +kernel, by decide +kernel⟩)
end
section
variable (rows : (List Str)) (d : (List Int)) (hp1 : ∃ k, k ≤ 3 ∧ RwK k rows) (hp2 : 4 ≤ d.length ∧ ∀ x ∈ d, 0 ≤ x ∧ x < 9967) (hl_rows : rows.length ≤ 40000) (hl_d : d.length ≤ 40000)
include rows d hp1 hp2 hl_rows hl_d
section
variable (c1 : (decide (rows = (([] : List Str)))) = false)
include c1
theorem vc__law_spoilt_rows_ix1 : -((d).length : Int) ≤ (1 : Int) ∧ (1 : Int) < (d).length := by
  wtm_at "kjw0"
theorem vc__law_spoilt_rows_mod1 : (0 : Int) < ((rows).length : Int) := by
  wtm_at "kjw0"
theorem vc__law_spoilt_rows_ix2 : -((rows).length : Int) ≤ (getI d (1 : Int)) % (((rows).length : Int)) ∧ (getI d (1 : Int)) % (((rows).length : Int)) < (rows).length := by
  obtain ⟨k, hk, hr⟩ := hp1
  have hd := hp2.1
  have h0 : rows ≠ [] := of_decide_eq_false c1
  have hlen : 0 < rows.length := List.length_pos_iff.mpr h0
  have hrow : RowN k (getI rows (getI d 1 % (rows.length : Int))) := hr.2 _ (row_in h0 _)
  have hk4 : k ≤ 4 := by omega
  have hk5 : k + 1 ≤ 4 := by omega
  have hL := hr.len hk4
  exact row_ix h0 _
theorem vc__law_spoilt_rows_ix3 : -((d).length : Int) ≤ (2 : Int) ∧ (2 : Int) < (d).length := by
  wtm_at "kjw0"
theorem vc__law_spoilt_rows_len1 : (getI rows ((getI d (1 : Int)) % (((rows).length : Int)))).length ≤ 1000 := by
  obtain ⟨k, hk, hr⟩ := hp1
  have hd := hp2.1
  have h0 : rows ≠ [] := of_decide_eq_false c1
  have hlen : 0 < rows.length := List.length_pos_iff.mpr h0
  have hrow : RowN k (getI rows (getI d 1 % (rows.length : Int))) := hr.2 _ (row_in h0 _)
  have hk4 : k ≤ 4 := by omega
  have hk5 : k + 1 ≤ 4 := by omega
  have hL := hr.len hk4
  exact (hrow.txt hk4).1
theorem vc__law_spoilt_rows_mod2 : (0 : Int) < (((getI rows ((getI d (1 : Int)) % (((rows).length : Int)))).length : Int)) + (1 : Int) := by
  wtm_at "kjw0"
section
variable (at_a1 : Int) (ha1 : at_a1 = (getI d (2 : Int)) % ((((getI rows ((getI d (1 : Int)) % (((rows).length : Int)))).length : Int)) + (1 : Int)))
include at_a1 ha1
theorem vc__law_spoilt_rows_ix4 : -((d).length : Int) ≤ (0 : Int) ∧ (0 : Int) < (d).length := by
  wtm_at "kjw0"
section
variable (c2 : (decide (((getI d (0 : Int)) % (7 : Int)) = (0 : Int))) = true)
include c2
theorem vc__law_spoilt_rows_txl1 : (getI rows ((getI d (1 : Int)) % (((rows).length : Int)))).length ≤ 100000 := by
  wtm_at "kjw1"
theorem vc__law_spoilt_rows_txl2 : ((" abA-z.1" : Str)).length ≤ 100000 := by
  decide +kernel
theorem vc__law_spoilt_rows_ix5 : -((d).length : Int) ≤ (3 : Int) ∧ (3 : Int) < (d).length := by
  wtm_at "kjw0"
theorem vc__law_spoilt_rows_ixt1 : -(((" abA-z.1" : Str)).length : Int) ≤ (getI d (3 : Int)) % (8 : Int) ∧ (getI d (3 : Int)) % (8 : Int) < ((" abA-z.1" : Str)).length := by
  have lit : RowN 0 (" abA-z.1" : Str) := ⟨by decide +kernel, by decide +kernel⟩
  have ll : ((" abA-z.1" : Str).length : Int) = 8 := by decide +kernel
  have lx := ixS_row lit (i := getI d 3 % 8) (by rw [ll]; omega)
  rw [ll]
  omega
theorem vc__law_spoilt_rows_cats1 : (cutS (getI rows ((getI d (1 : Int)) % (((rows).length : Int)))) none (some at_a1)).length + (ixS ((" abA-z.1" : Str)) ((getI d (3 : Int)) % (8 : Int))).length ≤ 16777216 := by
  obtain ⟨k, hk, hr⟩ := hp1
  have hd := hp2.1
  have h0 : rows ≠ [] := of_decide_eq_false c1
  have hlen : 0 < rows.length := List.length_pos_iff.mpr h0
  have hrow : RowN k (getI rows (getI d 1 % (rows.length : Int))) := hr.2 _ (row_in h0 _)
  have hk4 : k ≤ 4 := by omega
  have hk5 : k + 1 ≤ 4 := by omega
  have hL := hr.len hk4
  have lit : RowN 0 (" abA-z.1" : Str) := ⟨by decide +kernel, by decide +kernel⟩
  have ll : ((" abA-z.1" : Str).length : Int) = 8 := by decide +kernel
  have lx := ixS_row lit (i := getI d 3 % 8) (by rw [ll]; omega)
  exact txt2 (hrow.cut.txt hk4) (lx.1.txt (by decide))
theorem vc__law_spoilt_rows_txl3 : (getI rows ((getI d (1 : Int)) % (((rows).length : Int)))).length ≤ 100000 := by
  wtm_at "kjw1"
theorem vc__law_spoilt_rows_ix6 : -((d).length : Int) ≤ (3 : Int) ∧ (3 : Int) < (d).length := by
  wtm_at "kjw0"
theorem vc__law_spoilt_rows_cats2 : ((cutS (getI rows ((getI d (1 : Int)) % (((rows).length : Int)))) none (some at_a1)) ++ (ixS ((" abA-z.1" : Str)) ((getI d (3 : Int)) % (8 : Int)))).length + (cutS (getI rows ((getI d (1 : Int)) % (((rows).length : Int)))) (some (at_a1 + (((getI d (3 : Int)) / (8 : Int)) % (2 : Int)))) none).length ≤ 16777216 := by
  obtain ⟨k, hk, hr⟩ := hp1
  have hd := hp2.1
  have h0 : rows ≠ [] := of_decide_eq_false c1
  have hlen : 0 < rows.length := List.length_pos_iff.mpr h0
  have hrow : RowN k (getI rows (getI d 1 % (rows.length : Int))) := hr.2 _ (row_in h0 _)
  have hk4 : k ≤ 4 := by omega
  have hk5 : k + 1 ≤ 4 := by omega
  have hL := hr.len hk4
  have lit : RowN 0 (" abA-z.1" : Str) := ⟨by decide +kernel, by decide +kernel⟩
  have ll : ((" abA-z.1" : Str).length : Int) = 8 := by decide +kernel
  have lx := ixS_row lit (i := getI d 3 % 8) (by rw [ll]; omega)
  exact txt2 ((RowN.two hrow.cut lx.1.le).txt hk5) (hrow.cut.txt hk4)
theorem vc__law_spoilt_rows_catok2 : TxtOk (((cutS (getI rows ((getI d (1 : Int)) % (((rows).length : Int)))) none (some at_a1)) ++ (ixS ((" abA-z.1" : Str)) ((getI d (3 : Int)) % (8 : Int)))) ++ (cutS (getI rows ((getI d (1 : Int)) % (((rows).length : Int)))) (some (at_a1 + (((getI d (3 : Int)) / (8 : Int)) % (2 : Int)))) none)) := by
  obtain ⟨k, hk, hr⟩ := hp1
  have hd := hp2.1
  have h0 : rows ≠ [] := of_decide_eq_false c1
  have hlen : 0 < rows.length := List.length_pos_iff.mpr h0
  have hrow : RowN k (getI rows (getI d 1 % (rows.length : Int))) := hr.2 _ (row_in h0 _)
  have hk4 : k ≤ 4 := by omega
  have hk5 : k + 1 ≤ 4 := by omega
  have hL := hr.len hk4
  have lit : RowN 0 (" abA-z.1" : Str) := ⟨by decide +kernel, by decide +kernel⟩
  have ll : ((" abA-z.1" : Str).length : Int) = 8 := by decide +kernel
  have lx := ixS_row lit (i := getI d 3 % 8) (by rw [ll]; omega)
  exact (RowN.three hrow.cut hrow.cut lx.1 lx.2).txt hk5
theorem vc__law_spoilt_rows_cat1 : (cutI rows none (some ((getI d (1 : Int)) % (((rows).length : Int))))).length + (([((cutS (getI rows ((getI d (1 : Int)) % (((rows).length : Int)))) none (some at_a1)) ++ (ixS ((" abA-z.1" : Str)) ((getI d (3 : Int)) % (8 : Int)))) ++ (cutS (getI rows ((getI d (1 : Int)) % (((rows).length : Int)))) (some (at_a1 + (((getI d (3 : Int)) / (8 : Int)) % (2 : Int)))) none)] : List Str)).length ≤ 40000 := by
  wtm_at "kjw2"
theorem vc__law_spoilt_rows_cat2 : ((cutI rows none (some ((getI d (1 : Int)) % (((rows).length : Int))))) ++ (([((cutS (getI rows ((getI d (1 : Int)) % (((rows).length : Int)))) none (some at_a1)) ++ (ixS ((" abA-z.1" : Str)) ((getI d (3 : Int)) % (8 : Int)))) ++ (cutS (getI rows ((getI d (1 : Int)) % (((rows).length : Int)))) (some (at_a1 + (((getI d (3 : Int)) / (8 : Int)) % (2 : Int)))) none)] : List Str))).length + (cutI rows (some (((getI d (1 : Int)) % (((rows).length : Int))) + (1 : Int))) none).length ≤ 40000 := by
  wtm_at "kjw2"
theorem vc__law_spoilt_rows_ret2 : ∀ k : Nat, k ≤ 3 → RwK k rows → RwK (k + 1) (((cutI rows none (some ((getI d (1 : Int)) % (((rows).length : Int))))) ++ (([((cutS (getI rows ((getI d (1 : Int)) % (((rows).length : Int)))) none (some at_a1)) ++ (ixS ((" abA-z.1" : Str)) ((getI d (3 : Int)) % (8 : Int)))) ++ (cutS (getI rows ((getI d (1 : Int)) % (((rows).length : Int)))) (some (at_a1 + (((getI d (3 : Int)) / (8 : Int)) % (2 : Int)))) none)] : List Str))) ++ (cutI rows (some (((getI d (1 : Int)) % (((rows).length : Int))) + (1 : Int))) none)) := by
  intro k hk hr
  have h0 : rows ≠ [] := of_decide_eq_false c1
  have hrow : RowN k (getI rows (getI d 1 % (rows.length : Int))) := hr.2 _ (row_in h0 _)
  have lit : RowN 0 (" abA-z.1" : Str) := ⟨by decide +kernel, by decide +kernel⟩
  have ll : ((" abA-z.1" : Str).length : Int) = 8 := by decide +kernel
  have lx := ixS_row lit (i := getI d 3 % 8) (by rw [ll]; omega)
  exact hr.cut3 (RowN.three hrow.cut hrow.cut lx.1 lx.2)
end
section
variable (c2 : (decide (((getI d (0 : Int)) % (7 : Int)) = (0 : Int))) = false)
include c2
theorem vc__law_spoilt_rows_ix7 : -((d).length : Int) ≤ (0 : Int) ∧ (0 : Int) < (d).length := by
  wtm_at "kjw0"
section
variable (c3 : (decide (((getI d (0 : Int)) % (7 : Int)) = (1 : Int))) = true)
include c3
theorem vc__law_spoilt_rows_txl4 : (getI rows ((getI d (1 : Int)) % (((rows).length : Int)))).length ≤ 100000 := by
  wtm_at "kjw1"
theorem vc__law_spoilt_rows_txl5 : (getI rows ((getI d (1 : Int)) % (((rows).length : Int)))).length ≤ 100000 := by
  wtm_at "kjw1"
theorem vc__law_spoilt_rows_cats3 : (cutS (getI rows ((getI d (1 : Int)) % (((rows).length : Int)))) none (some at_a1)).length + (cutS (getI rows ((getI d (1 : Int)) % (((rows).length : Int)))) (some (at_a1 + (1 : Int))) none).length ≤ 16777216 := by
  obtain ⟨k, hk, hr⟩ := hp1
  have hd := hp2.1
  have h0 : rows ≠ [] := of_decide_eq_false c1
  have hlen : 0 < rows.length := List.length_pos_iff.mpr h0
  have hrow : RowN k (getI rows (getI d 1 % (rows.length : Int))) := hr.2 _ (row_in h0 _)
  have hk4 : k ≤ 4 := by omega
  have hk5 : k + 1 ≤ 4 := by omega
  have hL := hr.len hk4
  exact txt2 (hrow.cut.txt hk4) (hrow.cut.txt hk4)
theorem vc__law_spoilt_rows_catok3 : TxtOk ((cutS (getI rows ((getI d (1 : Int)) % (((rows).length : Int)))) none (some at_a1)) ++ (cutS (getI rows ((getI d (1 : Int)) % (((rows).length : Int)))) (some (at_a1 + (1 : Int))) none)) := by
  obtain ⟨k, hk, hr⟩ := hp1
  have hd := hp2.1
  have h0 : rows ≠ [] := of_decide_eq_false c1
  have hlen : 0 < rows.length := List.length_pos_iff.mpr h0
  have hrow : RowN k (getI rows (getI d 1 % (rows.length : Int))) := hr.2 _ (row_in h0 _)
  have hk4 : k ≤ 4 := by omega
  have hk5 : k + 1 ≤ 4 := by omega
  have hL := hr.len hk4
  exact (RowN.two hrow.cut hrow.cut).txt hk5
theorem vc__law_spoilt_rows_cat3 : (cutI rows none (some ((getI d (1 : Int)) % (((rows).length : Int))))).length + (([(cutS (getI rows ((getI d (1 : Int)) % (((rows).length : Int)))) none (some at_a1)) ++ (cutS (getI rows ((getI d (1 : Int)) % (((rows).length : Int)))) (some (at_a1 + (1 : Int))) none)] : List Str)).length ≤ 40000 := by
  wtm_at "kjw2"
theorem vc__law_spoilt_rows_cat4 : ((cutI rows none (some ((getI d (1 : Int)) % (((rows).length : Int))))) ++ (([(cutS (getI rows ((getI d (1 : Int)) % (((rows).length : Int)))) none (some at_a1)) ++ (cutS (getI rows ((getI d (1 : Int)) % (((rows).length : Int)))) (some (at_a1 + (1 : Int))) none)] : List Str))).length + (cutI rows (some (((getI d (1 : Int)) % (((rows).length : Int))) + (1 : Int))) none).length ≤ 40000 := by
  wtm_at "kjw2"
theorem vc__law_spoilt_rows_ret3 : ∀ k : Nat, k ≤ 3 → RwK k rows → RwK (k + 1) (((cutI rows none (some ((getI d (1 : Int)) % (((rows).length : Int))))) ++ (([(cutS (getI rows ((getI d (1 : Int)) % (((rows).length : Int)))) none (some at_a1)) ++ (cutS (getI rows ((getI d (1 : Int)) % (((rows).length : Int)))) (some (at_a1 + (1 : Int))) none)] : List Str))) ++ (cutI rows (some (((getI d (1 : Int)) % (((rows).length : Int))) + (1 : Int))) none)) := by
  intro k hk hr
  have h0 : rows ≠ [] := of_decide_eq_false c1
  have hrow : RowN k (getI rows (getI d 1 % (rows.length : Int))) := hr.2 _ (row_in h0 _)
  exact hr.cut3 (RowN.two hrow.cut hrow.cut)
end
section
variable (c3 : (decide (((getI d (0 : Int)) % (7 : Int)) = (1 : Int))) = false)
include c3
theorem vc__law_spoilt_rows_ix8 : -((d).length : Int) ≤ (0 : Int) ∧ (0 : Int) < (d).length := by
  wtm_at "kjw0"
section
variable (c4 : (decide (((getI d (0 : Int)) % (7 : Int)) = (2 : Int))) = true)
include c4
theorem vc__law_spoilt_rows_cat5 : (cutI rows none (some ((getI d (1 : Int)) % (((rows).length : Int))))).length + (cutI rows (some (((getI d (1 : Int)) % (((rows).length : Int))) + (1 : Int))) none).length ≤ 40000 := by
  wtm_at "kjw2"
theorem vc__law_spoilt_rows_ret4 : ∀ k : Nat, k ≤ 3 → RwK k rows → RwK (k + 1) ((cutI rows none (some ((getI d (1 : Int)) % (((rows).length : Int))))) ++ (cutI rows (some (((getI d (1 : Int)) % (((rows).length : Int))) + (1 : Int))) none)) := by
  intro k hk hr
  exact hr.cut2
end
section
variable (c4 : (decide (((getI d (0 : Int)) % (7 : Int)) = (2 : Int))) = false)
include c4
theorem vc__law_spoilt_rows_ix9 : -((d).length : Int) ≤ (0 : Int) ∧ (0 : Int) < (d).length := by
  wtm_at "kjw0"
section
variable (c5 : (decide (((getI d (0 : Int)) % (7 : Int)) = (3 : Int))) = true)
include c5
theorem vc__law_spoilt_rows_cat6 : (cutI rows none (some ((getI d (1 : Int)) % (((rows).length : Int))))).length + (([getI rows ((getI d (1 : Int)) % (((rows).length : Int)))] : List Str)).length ≤ 40000 := by
  wtm_at "kjw2"
theorem vc__law_spoilt_rows_cat7 : ((cutI rows none (some ((getI d (1 : Int)) % (((rows).length : Int))))) ++ (([getI rows ((getI d (1 : Int)) % (((rows).length : Int)))] : List Str))).length + (cutI rows (some ((getI d (1 : Int)) % (((rows).length : Int)))) none).length ≤ 40000 := by
  wtm_at "kjw2"
theorem vc__law_spoilt_rows_ret5 : ∀ k : Nat, k ≤ 3 → RwK k rows → RwK (k + 1) (((cutI rows none (some ((getI d (1 : Int)) % (((rows).length : Int))))) ++ (([getI rows ((getI d (1 : Int)) % (((rows).length : Int)))] : List Str))) ++ (cutI rows (some ((getI d (1 : Int)) % (((rows).length : Int)))) none)) := by
  intro k hk hr
  have h0 : rows ≠ [] := of_decide_eq_false c1
  have hrow : RowN k (getI rows (getI d 1 % (rows.length : Int))) := hr.2 _ (row_in h0 _)
  exact hr.cut3 hrow.up
end
section
variable (c5 : (decide (((getI d (0 : Int)) % (7 : Int)) = (3 : Int))) = false)
include c5
theorem vc__law_spoilt_rows_ix10 : -((d).length : Int) ≤ (0 : Int) ∧ (0 : Int) < (d).length := by
  wtm_at "kjw0"
section
variable (c6 : (decide (((getI d (0 : Int)) % (7 : Int)) = (4 : Int))) = true)
include c6
theorem vc__law_spoilt_rows_ix11 : -((d).length : Int) ≤ (3 : Int) ∧ (3 : Int) < (d).length := by
  wtm_at "kjw0"
theorem vc__law_spoilt_rows_ix12 : -((([("" : Str), ("zz" : Str), ("zz q" : Str), ("z z z z z z z z z" : Str), ("abcd" : Str), ("q " : Str)] : List Str)).length : Int) ≤ (getI d (3 : Int)) % (6 : Int) ∧ (getI d (3 : Int)) % (6 : Int) < (([("" : Str), ("zz" : Str), ("zz q" : Str), ("z z z z z z z z z" : Str), ("abcd" : Str), ("q " : Str)] : List Str)).length := by
  have hd := hp2.1
  show -(6 : Int) ≤ _ ∧ _ < (6 : Int)
  omega
theorem vc__law_spoilt_rows_cat8 : (cutI rows none (some ((getI d (1 : Int)) % (((rows).length : Int))))).length + (([getI (([("" : Str), ("zz" : Str), ("zz q" : Str), ("z z z z z z z z z" : Str), ("abcd" : Str), ("q " : Str)] : List Str)) ((getI d (3 : Int)) % (6 : Int))] : List Str)).length ≤ 40000 := by
  wtm_at "kjw2"
theorem vc__law_spoilt_rows_cat9 : ((cutI rows none (some ((getI d (1 : Int)) % (((rows).length : Int))))) ++ (([getI (([("" : Str), ("zz" : Str), ("zz q" : Str), ("z z z z z z z z z" : Str), ("abcd" : Str), ("q " : Str)] : List Str)) ((getI d (3 : Int)) % (6 : Int))] : List Str))).length + (cutI rows (some ((getI d (1 : Int)) % (((rows).length : Int)))) none).length ≤ 40000 := by
  wtm_at "kjw2"
theorem vc__law_spoilt_rows_ret6 : ∀ k : Nat, k ≤ 3 → RwK k rows → RwK (k + 1) (((cutI rows none (some ((getI d (1 : Int)) % (((rows).length : Int))))) ++ (([getI (([("" : Str), ("zz" : Str), ("zz q" : Str), ("z z z z z z z z z" : Str), ("abcd" : Str), ("q " : Str)] : List Str)) ((getI d (3 : Int)) % (6 : Int))] : List Str))) ++ (cutI rows (some ((getI d (1 : Int)) % (((rows).length : Int)))) none)) := by
  intro k hk hr
  have h0 : rows ≠ [] := of_decide_eq_false c1
  have hrow : RowN k (getI rows (getI d 1 % (rows.length : Int))) := hr.2 _ (row_in h0 _)
  have ho : ∀ x ∈ ([("" : Str), ("zz" : Str), ("zz q" : Str), ("z z z z z z z z z" : Str), ("abcd" : Str), ("q " : Str)] : List Str), RowN 0 x := by decide +kernel
  exact hr.cut3 (RowN.le (ho _ (getI_mem (by show -(6 : Int) ≤ _ ∧ _ < (6 : Int); omega))))
end
section
variable (c6 : (decide (((getI d (0 : Int)) % (7 : Int)) = (4 : Int))) = false)
include c6
theorem vc__law_spoilt_rows_ix13 : -((d).length : Int) ≤ (0 : Int) ∧ (0 : Int) < (d).length := by
  wtm_at "kjw0"
section
variable (c7 : (decide (((getI d (0 : Int)) % (7 : Int)) = (5 : Int))) = true)
include c7
theorem vc__law_spoilt_rows_cat10 : (rows).length + (([("" : Str)] : List Str)).length ≤ 40000 := by
  wtm_at "kjw2"
theorem vc__law_spoilt_rows_ret7 : ∀ k : Nat, k ≤ 3 → RwK k rows → RwK (k + 1) (rows ++ (([("" : Str)] : List Str))) := by
  intro k hk hr
  exact hr.app1 (RowN.le (show RowN 0 ("" : Str) from ⟨by decide +kernel, by decide +kernel⟩))
end
section
variable (e1 : Str) (c7 : (decide (((getI d (0 : Int)) % (7 : Int)) = (5 : Int))) = false) (hm1 : e1 ∈ rows)
include e1 c7 hm1
theorem vc__law_spoilt_rows_cats4 : (("qq " : Str)).length + e1.length ≤ 16777216 := by
  obtain ⟨k, hk, hr⟩ := hp1
  have hd := hp2.1
  have h0 : rows ≠ [] := of_decide_eq_false c1
  have hlen : 0 < rows.length := List.length_pos_iff.mpr h0
  have hrow : RowN k (getI rows (getI d 1 % (rows.length : Int))) := hr.2 _ (row_in h0 _)
  have hk4 : k ≤ 4 := by omega
  have hk5 : k + 1 ≤ 4 := by omega
  have hL := hr.len hk4
  have lq : RowN 0 ("qq " : Str) := ⟨by decide +kernel, by decide +kernel⟩
  exact txt2 (lq.txt (by decide)) ((hr.2 _ hm1).txt hk4)
theorem vc__law_spoilt_rows_catok4 : TxtOk ((("qq " : Str)) ++ e1) := by
  obtain ⟨k, hk, hr⟩ := hp1
  have hd := hp2.1
  have h0 : rows ≠ [] := of_decide_eq_false c1
  have hlen : 0 < rows.length := List.length_pos_iff.mpr h0
  have hrow : RowN k (getI rows (getI d 1 % (rows.length : Int))) := hr.2 _ (row_in h0 _)
  have hk4 : k ≤ 4 := by omega
  have hk5 : k + 1 ≤ 4 := by omega
  have hL := hr.len hk4
  have lq : RowN 0 ("qq " : Str) := ⟨by decide +kernel, by decide +kernel⟩
  exact (RowN.two lq.le (hr.2 _ hm1)).txt hk5
end
section
variable (c7 : (decide (((getI d (0 : Int)) % (7 : Int)) = (5 : Int))) = false)
include c7
theorem vc__law_spoilt_rows_cat11 : (rows).length + ((rows).map fun e1 => (("qq " : Str)) ++ e1).length ≤ 40000 := by
  wtm_at "kjw2"
theorem vc__law_spoilt_rows_ret8 : ∀ k : Nat, k ≤ 3 → RwK k rows → RwK (k + 1) (rows ++ ((rows).map fun e1 => (("qq " : Str)) ++ e1)) := by
  have lq : RowN 0 ("qq " : Str) := ⟨by decide +kernel, by decide +kernel⟩
  intro k hk hr
  exact hr.appM lq
end
end
end
end
end
end
end
end
end
def R__law_spoilt_rows (K : PySem.W.Frag) : Rl := ⟨fun vs H r => ∃ (rows : (List Str)) (d : (List Int)), ArgsR H vs [⟨(tW tX), rows⟩, ⟨(tL K tI), d⟩] ∧ (∃ k, k ≤ 3 ∧ RwK k rows) ∧ (4 ≤ d.length ∧ ∀ x ∈ d, 0 ≤ x ∧ x < 9967) ∧ r = .ok (fun N v => ∃ y, (tW tX).R N v y ∧ ∀ k : Nat, k ≤ 3 → RwK k rows → RwK (k + 1) y), fun e ⟨rows, d, h, h2⟩ => ⟨rows, d, h.up e, h2⟩⟩
theorem ok__law_spoilt_rows (B : Bt mg)  (D : Df K mg "_law_spoilt_rows" s__law_spoilt_rows ["_law_rows", "_law_d"]) : Ok P w K mg base 1 "_law_spoilt_rows" ["_law_rows", "_law_d"] ((R__law_spoilt_rows K).sp mg) := by
  refine D.ok sc__law_spoilt_rows (fun vs H Q E h => ?_) (fun f cdv A outer s H vs Q E hr h => ?_)
  · obtain ⟨r, ⟨rows, d, ha, _⟩, _⟩ := h
    exact ha.len
  · obtain ⟨r, ⟨rows, d, ha, hp1, hp2, rfl⟩, k⟩ := h
    obtain ⟨v1, v2, rfl, f3, f4⟩ := args2 ha
    have o0 := Own.init H
    have hl_rows : rows.length ≤ 40000 := len_ofW f3
    have hl_d : d.length ≤ 40000 := len_ofL f4
    refine ⟨_, (pss_cons (ps_if (pt_cmpR (op_eqK K (hu65 hr)) (pv 0) (pe_lst pa_nil) (nomark _))
        (pss_one (ps_ret (pe_lst (pa_cons pe_str pa_nil))))
        pss_nil)
      (pss_cons (ps_set (i := 2) sc__law_spoilt_rows.nd rfl (.inl rfl) (pe_op op_mod (pe_ix (ix_seqK K) (pv 1) pe_int (fun _ _ => rfl)) (pe_callB (call_lenK K) (by rfl) B.len boot_b_len (pa_cons (pv 0) pa_nil))))
      (pss_cons (ps_set (i := 3) sc__law_spoilt_rows.nd rfl (.inl rfl) (pe_ix (ix_seqK K) (pv 0) (pv 2) (fun _ _ => rfl)))
      (pss_cons (ps_set (i := 4) sc__law_spoilt_rows.nd rfl (.inl rfl) (pe_op op_mod (pe_ix (ix_seqK K) (pv 1) pe_int (fun _ _ => rfl)) (pe_op (op_addK K) (pe_callB (call_lenK K) (by rfl) B.len boot_b_len (pa_cons (pv 3) pa_nil)) pe_int)))
      (pss_cons (ps_if (pt_cmpR (op_eqK K (hu65 hr)) (pe_op op_mod (pe_ix (ix_seqK K) (pv 1) pe_int (fun _ _ => rfl)) pe_int) pe_int (nomark _))
        (pss_cons (ps_set (i := 3) sc__law_spoilt_rows.nd rfl (.inl rfl) (pe_op (op_addK K) (pe_op (op_addK K) (pe_slice (sl_K K) (pv 3) po_none (po_some (pv 4))) (pe_ix (ix_seqK K) pe_str (pe_op op_mod (pe_ix (ix_seqK K) (pv 1) pe_int (fun _ _ => rfl)) pe_int) (fun _ _ => rfl))) (pe_slice (sl_K K) (pv 3) (po_some (pe_op (op_addK K) (pv 4) (pe_op op_mod (pe_op op_fdiv (pe_ix (ix_seqK K) (pv 1) pe_int (fun _ _ => rfl)) pe_int) pe_int))) po_none)))
        (pss_one (ps_ret (pe_op (op_addK K) (pe_op (op_addK K) (pe_slice (sl_K K) (pv 0) po_none (po_some (pv 2))) (pe_lst (pa_cons (pv 3) pa_nil))) (pe_slice (sl_K K) (pv 0) (po_some (pe_op (op_addK K) (pv 2) pe_int)) po_none)))))
        pss_nil)
      (pss_cons (ps_if (pt_cmpR (op_eqK K (hu65 hr)) (pe_op op_mod (pe_ix (ix_seqK K) (pv 1) pe_int (fun _ _ => rfl)) pe_int) pe_int (nomark _))
        (pss_one (ps_ret (pe_op (op_addK K) (pe_op (op_addK K) (pe_slice (sl_K K) (pv 0) po_none (po_some (pv 2))) (pe_lst (pa_cons (pe_op (op_addK K) (pe_slice (sl_K K) (pv 3) po_none (po_some (pv 4))) (pe_slice (sl_K K) (pv 3) (po_some (pe_op (op_addK K) (pv 4) pe_int)) po_none)) pa_nil))) (pe_slice (sl_K K) (pv 0) (po_some (pe_op (op_addK K) (pv 2) pe_int)) po_none))))
        pss_nil)
      (pss_cons (ps_if (pt_cmpR (op_eqK K (hu65 hr)) (pe_op op_mod (pe_ix (ix_seqK K) (pv 1) pe_int (fun _ _ => rfl)) pe_int) pe_int (nomark _))
        (pss_one (ps_ret (pe_op (op_addK K) (pe_slice (sl_K K) (pv 0) po_none (po_some (pv 2))) (pe_slice (sl_K K) (pv 0) (po_some (pe_op (op_addK K) (pv 2) pe_int)) po_none))))
        pss_nil)
      (pss_cons (ps_if (pt_cmpR (op_eqK K (hu65 hr)) (pe_op op_mod (pe_ix (ix_seqK K) (pv 1) pe_int (fun _ _ => rfl)) pe_int) pe_int (nomark _))
        (pss_one (ps_ret (pe_op (op_addK K) (pe_op (op_addK K) (pe_slice (sl_K K) (pv 0) po_none (po_some (pv 2))) (pe_lst (pa_cons (pv 3) pa_nil))) (pe_slice (sl_K K) (pv 0) (po_some (pv 2)) po_none))))
        pss_nil)
      (pss_cons (ps_if (pt_cmpR (op_eqK K (hu65 hr)) (pe_op op_mod (pe_ix (ix_seqK K) (pv 1) pe_int (fun _ _ => rfl)) pe_int) pe_int (nomark _))
        (pss_cons (ps_set (i := 5) sc__law_spoilt_rows.nd rfl (.inl rfl) (pe_ix (ix_seqK K) (pe_lst (pa_cons pe_str (pa_cons pe_str (pa_cons pe_str (pa_cons pe_str (pa_cons pe_str (pa_cons pe_str pa_nil))))))) (pe_op op_mod (pe_ix (ix_seqK K) (pv 1) pe_int (fun _ _ => rfl)) pe_int) (fun _ _ => rfl)))
        (pss_one (ps_ret (pe_op (op_addK K) (pe_op (op_addK K) (pe_slice (sl_K K) (pv 0) po_none (po_some (pv 2))) (pe_lst (pa_cons (pv 5) pa_nil))) (pe_slice (sl_K K) (pv 0) (po_some (pv 2)) po_none)))))
        pss_nil)
      (pss_cons (ps_if (pt_cmpR (op_eqK K (hu65 hr)) (pe_op op_mod (pe_ix (ix_seqK K) (pv 1) pe_int (fun _ _ => rfl)) pe_int) pe_int (nomark _))
        (pss_one (ps_ret (pe_op (op_addK K) (pv 0) (pe_lst (pa_cons pe_str pa_nil)))))
        pss_nil)
      (pss_one (ps_ret (pe_op (op_addK K) (pv 0) (pe_lc (own := [("_law_row", 3)]) rfl sc__law_spoilt_rows.nd (pi_listK K (pv 0)) (blkOk_by (N := ["_law_rows", "_law_d", "_law_here", "_law_row", "_law_at", "_law_odd"]) (sc := defScope s__law_spoilt_rows) (by decide +kernel)) (fun _ _ _ _ _ => (pg_name (i := 3) sc__law_spoilt_rows.nd rfl (.inl rfl))) (fun _ _ _ _ _ => pts_nil) (fun _ _ _ _ _ => (pe_op (op_addK K) pe_str (pv 3))))))))))))))))), ?_⟩
    refine q_wh o0 (et_test (ev_eqB (T := (tW tX)) (ed_of (T := (tW tX)) (up (Own.ug o0) f3) rfl) (ed_lst (T := tX) (l := ([] : List Str)) (Own.uh o0) ebs_nil (Nat.le_of_ble_eq_true rfl)) (Own.uh o0))) (fun c1 H5 o6 => ?_) (fun c1 H5 o6 => ?_)
    · skip
      exact s_rb o6 (eb_imp (ed_lst (T := tX) (l := ([("a" : Str)] : List Str)) (Own.e0 o6) (ebs_cons (T := tX) (Own.e0 o6) (ed_x ev_c ⟨by decide +kernel, by decide +kernel⟩) ebs_nil) (Nat.le_of_ble_eq_true rfl)) fun N v h => ⟨([("a" : Str)] : List Str), h, (vc__law_spoilt_rows_ret1 rows d hp1 hp2 hl_rows hl_d c1)⟩) k
    · skip
      refine q_v (i := 2) o6 (ev_op (ev_i (ed_ixG (ed_of (T := (tL K tI)) (up (Own.ug o0) f4) rfl) ev_c (vc__law_spoilt_rows_ix1 rows d hp1 hp2 hl_rows hl_d c1) (Own.uh o6))) (ev_lenB (T := tX) (ed_to (T := (tW tX)) (S := (tL K tX)) (ed_of (T := (tW tX)) (up (Own.ug o0) f3) rfl)) (Own.uh o6)) (rv_I (vc__law_spoilt_rows_mod1 rows d hp1 hp2 hl_rows hl_d c1))) fun H7 o8 => ?_
      refine q_b (i := 3) o8 (ed_flt (ed_ixG (ed_to (T := (tW tX)) (S := (tL K tX)) (ed_of (T := (tW tX)) (up (Own.ug o0) f3) rfl)) (ev_var rfl) (vc__law_spoilt_rows_ix2 rows d hp1 hp2 hl_rows hl_d c1) (Own.uh o8))) fun v9 M10 H11 eM12 o13 f14 => ?_
      obtain ⟨rfl, hs15⟩ : v9 = .str (getI rows ((getI d (1 : Int)) % (((rows).length : Int)))) ∧ TxtOk (getI rows ((getI d (1 : Int)) % (((rows).length : Int)))) := f14
      obtain ⟨at_a1, ha1⟩ : ∃ z : Int, z = ((getI d (2 : Int)) % ((((getI rows ((getI d (1 : Int)) % (((rows).length : Int)))).length : Int)) + (1 : Int))) := ⟨_, rfl⟩
      refine q_v (i := 4) o13 (ev_is (ev_op (ev_i (ed_ixG (ed_of (T := (tL K tI)) (up (Own.uu o13 eM12) (up (Own.ug o0) f4)) rfl) ev_c (vc__law_spoilt_rows_ix3 rows d hp1 hp2 hl_rows hl_d c1) (Own.uh o13))) (ev_op (ev_cb (ea_cons (ev_var rfl) ea_nil) (rc_lenS (Nat.le_trans (vc__law_spoilt_rows_len1 rows d hp1 hp2 hl_rows hl_d c1) (by decide)))) ev_c rv_addI) (rv_I (vc__law_spoilt_rows_mod2 rows d hp1 hp2 hl_rows hl_d c1))) (congrArg V.int ha1.symm)) fun H16 o17 => ?_
      refine q_wh o17 (et_test (ev_op (ev_op (ev_i (ed_ixG (ed_of (T := (tL K tI)) (up (Own.uu o17 eM12) (up (Own.ug o0) f4)) rfl) ev_c (vc__law_spoilt_rows_ix4 rows d hp1 hp2 hl_rows hl_d c1 at_a1 ha1) (Own.uh o17))) ev_c (rv_I (by decide))) ev_c rv_eqI)) (fun c2 H18 o19 => ?_) (fun c2 H18 o19 => ?_)
      · skip
        refine q_v (i := 3) o19 (ev_addX (ev_addX (ev_slS (ev_var rfl) eo_none (eo_some (ev_var rfl)) (vc__law_spoilt_rows_txl1 rows d hp1 hp2 hl_rows hl_d c1 at_a1 ha1 c2)) (ev_ixS ev_c (ev_op (ev_i (ed_ixG (ed_of (T := (tL K tI)) (up (Own.uu o19 eM12) (up (Own.ug o0) f4)) rfl) ev_c (vc__law_spoilt_rows_ix5 rows d hp1 hp2 hl_rows hl_d c1 at_a1 ha1 c2) (Own.uh o19))) ev_c (rv_I (by decide))) (vc__law_spoilt_rows_txl2 rows d hp1 hp2 hl_rows hl_d c1 at_a1 ha1 c2) (vc__law_spoilt_rows_ixt1 rows d hp1 hp2 hl_rows hl_d c1 at_a1 ha1 c2)) (vc__law_spoilt_rows_cats1 rows d hp1 hp2 hl_rows hl_d c1 at_a1 ha1 c2)) (ev_slS (ev_var rfl) (eo_some (ev_op (ev_var rfl) (ev_op (ev_op (ev_i (ed_ixG (ed_of (T := (tL K tI)) (up (Own.uu o19 eM12) (up (Own.ug o0) f4)) rfl) ev_c (vc__law_spoilt_rows_ix6 rows d hp1 hp2 hl_rows hl_d c1 at_a1 ha1 c2) (Own.uh o19))) ev_c (rv_I ⟨by decide, by decide⟩)) ev_c (rv_I (by decide))) rv_addI)) eo_none (vc__law_spoilt_rows_txl3 rows d hp1 hp2 hl_rows hl_d c1 at_a1 ha1 c2)) (vc__law_spoilt_rows_cats2 rows d hp1 hp2 hl_rows hl_d c1 at_a1 ha1 c2)) fun H20 o21 => ?_
        exact s_rb o21 (eb_imp (ed_cat (ed_cat (ed_slF (B := (uni H M10)) (ed_to (T := (tW tX)) (S := (tL K tX)) (ed_of (T := (tW tX)) (up (Own.uu o21 eM12) (up (Own.ug o0) f3)) rfl)) eo_none (eo_some (ev_var rfl)) (Own.uh o21)) (ed_lst (T := tX) (l := ([((cutS (getI rows ((getI d (1 : Int)) % (((rows).length : Int)))) none (some at_a1)) ++ (ixS ((" abA-z.1" : Str)) ((getI d (3 : Int)) % (8 : Int)))) ++ (cutS (getI rows ((getI d (1 : Int)) % (((rows).length : Int)))) (some (at_a1 + (((getI d (3 : Int)) / (8 : Int)) % (2 : Int)))) none)] : List Str)) (Own.e0 o21) (ebs_cons (T := tX) (Own.e0 o21) (ed_x (ev_var rfl) (vc__law_spoilt_rows_catok2 rows d hp1 hp2 hl_rows hl_d c1 at_a1 ha1 c2)) ebs_nil) (Nat.le_of_ble_eq_true rfl)) (Own.e0 o21) (vc__law_spoilt_rows_cat1 rows d hp1 hp2 hl_rows hl_d c1 at_a1 ha1 c2)) (ed_slF (B := (uni H M10)) (ed_to (T := (tW tX)) (S := (tL K tX)) (ed_of (T := (tW tX)) (up (Own.uu o21 eM12) (up (Own.ug o0) f3)) rfl)) (eo_some (ev_op (ev_var rfl) ev_c rv_addI)) eo_none (Own.uh o21)) (Own.e0 o21) (vc__law_spoilt_rows_cat2 rows d hp1 hp2 hl_rows hl_d c1 at_a1 ha1 c2)) fun N v h => ⟨((cutI rows none (some ((getI d (1 : Int)) % (((rows).length : Int))))) ++ (([((cutS (getI rows ((getI d (1 : Int)) % (((rows).length : Int)))) none (some at_a1)) ++ (ixS ((" abA-z.1" : Str)) ((getI d (3 : Int)) % (8 : Int)))) ++ (cutS (getI rows ((getI d (1 : Int)) % (((rows).length : Int)))) (some (at_a1 + (((getI d (3 : Int)) / (8 : Int)) % (2 : Int)))) none)] : List Str))) ++ (cutI rows (some (((getI d (1 : Int)) % (((rows).length : Int))) + (1 : Int))) none), h, (vc__law_spoilt_rows_ret2 rows d hp1 hp2 hl_rows hl_d c1 at_a1 ha1 c2)⟩) k
      · skip
        refine q_wh o19 (et_test (ev_op (ev_op (ev_i (ed_ixG (ed_of (T := (tL K tI)) (up (Own.uu o19 eM12) (up (Own.ug o0) f4)) rfl) ev_c (vc__law_spoilt_rows_ix7 rows d hp1 hp2 hl_rows hl_d c1 at_a1 ha1 c2) (Own.uh o19))) ev_c (rv_I (by decide))) ev_c rv_eqI)) (fun c3 H22 o23 => ?_) (fun c3 H22 o23 => ?_)
        · skip
          exact s_rb o23 (eb_imp (ed_cat (ed_cat (ed_slF (B := (uni H M10)) (ed_to (T := (tW tX)) (S := (tL K tX)) (ed_of (T := (tW tX)) (up (Own.uu o23 eM12) (up (Own.ug o0) f3)) rfl)) eo_none (eo_some (ev_var rfl)) (Own.uh o23)) (ed_lst (T := tX) (l := ([(cutS (getI rows ((getI d (1 : Int)) % (((rows).length : Int)))) none (some at_a1)) ++ (cutS (getI rows ((getI d (1 : Int)) % (((rows).length : Int)))) (some (at_a1 + (1 : Int))) none)] : List Str)) (Own.e0 o23) (ebs_cons (T := tX) (Own.e0 o23) (ed_x (ev_addX (ev_slS (ev_var rfl) eo_none (eo_some (ev_var rfl)) (vc__law_spoilt_rows_txl4 rows d hp1 hp2 hl_rows hl_d c1 at_a1 ha1 c2 c3)) (ev_slS (ev_var rfl) (eo_some (ev_op (ev_var rfl) ev_c rv_addI)) eo_none (vc__law_spoilt_rows_txl5 rows d hp1 hp2 hl_rows hl_d c1 at_a1 ha1 c2 c3)) (vc__law_spoilt_rows_cats3 rows d hp1 hp2 hl_rows hl_d c1 at_a1 ha1 c2 c3)) (vc__law_spoilt_rows_catok3 rows d hp1 hp2 hl_rows hl_d c1 at_a1 ha1 c2 c3)) ebs_nil) (Nat.le_of_ble_eq_true rfl)) (Own.e0 o23) (vc__law_spoilt_rows_cat3 rows d hp1 hp2 hl_rows hl_d c1 at_a1 ha1 c2 c3)) (ed_slF (B := (uni H M10)) (ed_to (T := (tW tX)) (S := (tL K tX)) (ed_of (T := (tW tX)) (up (Own.uu o23 eM12) (up (Own.ug o0) f3)) rfl)) (eo_some (ev_op (ev_var rfl) ev_c rv_addI)) eo_none (Own.uh o23)) (Own.e0 o23) (vc__law_spoilt_rows_cat4 rows d hp1 hp2 hl_rows hl_d c1 at_a1 ha1 c2 c3)) fun N v h => ⟨((cutI rows none (some ((getI d (1 : Int)) % (((rows).length : Int))))) ++ (([(cutS (getI rows ((getI d (1 : Int)) % (((rows).length : Int)))) none (some at_a1)) ++ (cutS (getI rows ((getI d (1 : Int)) % (((rows).length : Int)))) (some (at_a1 + (1 : Int))) none)] : List Str))) ++ (cutI rows (some (((getI d (1 : Int)) % (((rows).length : Int))) + (1 : Int))) none), h, (vc__law_spoilt_rows_ret3 rows d hp1 hp2 hl_rows hl_d c1 at_a1 ha1 c2 c3)⟩) k
        · skip
          refine q_wh o23 (et_test (ev_op (ev_op (ev_i (ed_ixG (ed_of (T := (tL K tI)) (up (Own.uu o23 eM12) (up (Own.ug o0) f4)) rfl) ev_c (vc__law_spoilt_rows_ix8 rows d hp1 hp2 hl_rows hl_d c1 at_a1 ha1 c2 c3) (Own.uh o23))) ev_c (rv_I (by decide))) ev_c rv_eqI)) (fun c4 H24 o25 => ?_) (fun c4 H24 o25 => ?_)
          · skip
            exact s_rb o25 (eb_imp (ed_cat (ed_slF (B := (uni H M10)) (ed_to (T := (tW tX)) (S := (tL K tX)) (ed_of (T := (tW tX)) (up (Own.uu o25 eM12) (up (Own.ug o0) f3)) rfl)) eo_none (eo_some (ev_var rfl)) (Own.uh o25)) (ed_slF (B := (uni H M10)) (ed_to (T := (tW tX)) (S := (tL K tX)) (ed_of (T := (tW tX)) (up (Own.uu o25 eM12) (up (Own.ug o0) f3)) rfl)) (eo_some (ev_op (ev_var rfl) ev_c rv_addI)) eo_none (Own.uh o25)) (Own.e0 o25) (vc__law_spoilt_rows_cat5 rows d hp1 hp2 hl_rows hl_d c1 at_a1 ha1 c2 c3 c4)) fun N v h => ⟨(cutI rows none (some ((getI d (1 : Int)) % (((rows).length : Int))))) ++ (cutI rows (some (((getI d (1 : Int)) % (((rows).length : Int))) + (1 : Int))) none), h, (vc__law_spoilt_rows_ret4 rows d hp1 hp2 hl_rows hl_d c1 at_a1 ha1 c2 c3 c4)⟩) k
          · skip
            refine q_wh o25 (et_test (ev_op (ev_op (ev_i (ed_ixG (ed_of (T := (tL K tI)) (up (Own.uu o25 eM12) (up (Own.ug o0) f4)) rfl) ev_c (vc__law_spoilt_rows_ix9 rows d hp1 hp2 hl_rows hl_d c1 at_a1 ha1 c2 c3 c4) (Own.uh o25))) ev_c (rv_I (by decide))) ev_c rv_eqI)) (fun c5 H26 o27 => ?_) (fun c5 H26 o27 => ?_)
            · skip
              exact s_rb o27 (eb_imp (ed_cat (ed_cat (ed_slF (B := (uni H M10)) (ed_to (T := (tW tX)) (S := (tL K tX)) (ed_of (T := (tW tX)) (up (Own.uu o27 eM12) (up (Own.ug o0) f3)) rfl)) eo_none (eo_some (ev_var rfl)) (Own.uh o27)) (ed_lst (T := tX) (l := ([getI rows ((getI d (1 : Int)) % (((rows).length : Int)))] : List Str)) (Own.e0 o27) (ebs_cons (T := tX) (Own.e0 o27) (ed_x (ev_var rfl) hs15) ebs_nil) (Nat.le_of_ble_eq_true rfl)) (Own.e0 o27) (vc__law_spoilt_rows_cat6 rows d hp1 hp2 hl_rows hl_d c1 at_a1 ha1 c2 c3 c4 c5)) (ed_slF (B := (uni H M10)) (ed_to (T := (tW tX)) (S := (tL K tX)) (ed_of (T := (tW tX)) (up (Own.uu o27 eM12) (up (Own.ug o0) f3)) rfl)) (eo_some (ev_var rfl)) eo_none (Own.uh o27)) (Own.e0 o27) (vc__law_spoilt_rows_cat7 rows d hp1 hp2 hl_rows hl_d c1 at_a1 ha1 c2 c3 c4 c5)) fun N v h => ⟨((cutI rows none (some ((getI d (1 : Int)) % (((rows).length : Int))))) ++ (([getI rows ((getI d (1 : Int)) % (((rows).length : Int)))] : List Str))) ++ (cutI rows (some ((getI d (1 : Int)) % (((rows).length : Int)))) none), h, (vc__law_spoilt_rows_ret5 rows d hp1 hp2 hl_rows hl_d c1 at_a1 ha1 c2 c3 c4 c5)⟩) k
            · skip
              refine q_wh o27 (et_test (ev_op (ev_op (ev_i (ed_ixG (ed_of (T := (tL K tI)) (up (Own.uu o27 eM12) (up (Own.ug o0) f4)) rfl) ev_c (vc__law_spoilt_rows_ix10 rows d hp1 hp2 hl_rows hl_d c1 at_a1 ha1 c2 c3 c4 c5) (Own.uh o27))) ev_c (rv_I (by decide))) ev_c rv_eqI)) (fun c6 H28 o29 => ?_) (fun c6 H28 o29 => ?_)
              · skip
                refine q_b (i := 5) o29 (ed_flt (ed_ixG (ed_to (T := (tW tX)) (S := (tL K tX)) (ed_lst (T := tX) (l := ([("" : Str), ("zz" : Str), ("zz q" : Str), ("z z z z z z z z z" : Str), ("abcd" : Str), ("q " : Str)] : List Str)) (Own.e0 o29) (ebs_cons (T := tX) (Own.e0 o29) (ed_x ev_c ⟨by decide +kernel, by decide +kernel⟩) (ebs_cons (T := tX) (Own.e0 o29) (ed_x ev_c ⟨by decide +kernel, by decide +kernel⟩) (ebs_cons (T := tX) (Own.e0 o29) (ed_x ev_c ⟨by decide +kernel, by decide +kernel⟩) (ebs_cons (T := tX) (Own.e0 o29) (ed_x ev_c ⟨by decide +kernel, by decide +kernel⟩) (ebs_cons (T := tX) (Own.e0 o29) (ed_x ev_c ⟨by decide +kernel, by decide +kernel⟩) (ebs_cons (T := tX) (Own.e0 o29) (ed_x ev_c ⟨by decide +kernel, by decide +kernel⟩) ebs_nil)))))) (Nat.le_of_ble_eq_true rfl))) (ev_op (ev_i (ed_ixG (ed_of (T := (tL K tI)) (up (Own.uu o29 eM12) (up (Own.ug o0) f4)) rfl) ev_c (vc__law_spoilt_rows_ix11 rows d hp1 hp2 hl_rows hl_d c1 at_a1 ha1 c2 c3 c4 c5 c6) (Own.uh o29))) ev_c (rv_I (by decide))) (vc__law_spoilt_rows_ix12 rows d hp1 hp2 hl_rows hl_d c1 at_a1 ha1 c2 c3 c4 c5 c6) (Own.e0 o29))) fun v30 M31 H32 eM33 o34 f35 => ?_
                obtain ⟨rfl, hs36⟩ : v30 = .str (getI (([("" : Str), ("zz" : Str), ("zz q" : Str), ("z z z z z z z z z" : Str), ("abcd" : Str), ("q " : Str)] : List Str)) ((getI d (3 : Int)) % (6 : Int))) ∧ TxtOk (getI (([("" : Str), ("zz" : Str), ("zz q" : Str), ("z z z z z z z z z" : Str), ("abcd" : Str), ("q " : Str)] : List Str)) ((getI d (3 : Int)) % (6 : Int))) := f35
                exact s_rb o34 (eb_imp (ed_cat (ed_cat (ed_slF (B := (uni H M31)) (ed_to (T := (tW tX)) (S := (tL K tX)) (ed_of (T := (tW tX)) (up (Own.uu o34 (Ex.trans eM12 eM33)) (up (Own.ug o0) f3)) rfl)) eo_none (eo_some (ev_var rfl)) (Own.uh o34)) (ed_lst (T := tX) (l := ([getI (([("" : Str), ("zz" : Str), ("zz q" : Str), ("z z z z z z z z z" : Str), ("abcd" : Str), ("q " : Str)] : List Str)) ((getI d (3 : Int)) % (6 : Int))] : List Str)) (Own.e0 o34) (ebs_cons (T := tX) (Own.e0 o34) (ed_x (ev_var rfl) hs36) ebs_nil) (Nat.le_of_ble_eq_true rfl)) (Own.e0 o34) (vc__law_spoilt_rows_cat8 rows d hp1 hp2 hl_rows hl_d c1 at_a1 ha1 c2 c3 c4 c5 c6)) (ed_slF (B := (uni H M31)) (ed_to (T := (tW tX)) (S := (tL K tX)) (ed_of (T := (tW tX)) (up (Own.uu o34 (Ex.trans eM12 eM33)) (up (Own.ug o0) f3)) rfl)) (eo_some (ev_var rfl)) eo_none (Own.uh o34)) (Own.e0 o34) (vc__law_spoilt_rows_cat9 rows d hp1 hp2 hl_rows hl_d c1 at_a1 ha1 c2 c3 c4 c5 c6)) fun N v h => ⟨((cutI rows none (some ((getI d (1 : Int)) % (((rows).length : Int))))) ++ (([getI (([("" : Str), ("zz" : Str), ("zz q" : Str), ("z z z z z z z z z" : Str), ("abcd" : Str), ("q " : Str)] : List Str)) ((getI d (3 : Int)) % (6 : Int))] : List Str))) ++ (cutI rows (some ((getI d (1 : Int)) % (((rows).length : Int)))) none), h, (vc__law_spoilt_rows_ret6 rows d hp1 hp2 hl_rows hl_d c1 at_a1 ha1 c2 c3 c4 c5 c6)⟩) k
              · skip
                refine q_wh o29 (et_test (ev_op (ev_op (ev_i (ed_ixG (ed_of (T := (tL K tI)) (up (Own.uu o29 eM12) (up (Own.ug o0) f4)) rfl) ev_c (vc__law_spoilt_rows_ix13 rows d hp1 hp2 hl_rows hl_d c1 at_a1 ha1 c2 c3 c4 c5 c6) (Own.uh o29))) ev_c (rv_I (by decide))) ev_c rv_eqI)) (fun c7 H37 o38 => ?_) (fun c7 H37 o38 => ?_)
                · skip
                  exact s_rb o38 (eb_imp (ed_catF (B := (uni H M10)) (ed_of (T := (tW tX)) (up (Own.uu o38 eM12) (up (Own.ug o0) f3)) rfl) (ed_lst (T := tX) (l := ([("" : Str)] : List Str)) (Own.uh o38) (ebs_cons (T := tX) (Own.uh o38) (ed_x ev_c ⟨by decide +kernel, by decide +kernel⟩) ebs_nil) (Nat.le_of_ble_eq_true rfl)) (Own.uh o38) (vc__law_spoilt_rows_cat10 rows d hp1 hp2 hl_rows hl_d c1 at_a1 ha1 c2 c3 c4 c5 c6 c7)) fun N v h => ⟨rows ++ (([("" : Str)] : List Str)), h, (vc__law_spoilt_rows_ret7 rows d hp1 hp2 hl_rows hl_d c1 at_a1 ha1 c2 c3 c4 c5 c6 c7)⟩) k
                · skip
                  exact s_rb o38 (eb_imp (ed_catF (B := (uni H M10)) (ed_of (T := (tW tX)) (up (Own.uu o38 eM12) (up (Own.ug o0) f3)) rfl) (ed_of_n (Own.uh o38) (en_flt (en_lcA (S := tX) (Z := fun B y σ σ2 => ∃ z39, σ2 = (σ.set 3 (some z39)) ∧ tX.R B z39 y) (dr_list (T := tX) (ed_to (T := (tW tX)) (S := (tL K tX)) (ed_of (T := (tW tX)) (up (Own.uh o38) (up (Own.uu o38 eM12) (up (Own.ug o0) f3))) rfl)) (Ex.refl _) (fun G x y H' e hx σ' Q q => by exact q _ ⟨x, rfl, hx⟩)) (Ex.refl _) (fun e1 : Str => (("qq " : Str)) ++ e1) (fun _ _ _ ⟨z39, h0, fz39⟩ => by subst h0; rfl) (fun G40 e1 σ2 H40 eb40 eg40 eh40 hm1 hz40 => by obtain ⟨z39, rfl, fz39⟩ := hz40; obtain ⟨rfl, hs41⟩ : z39 = .str (e1) ∧ TxtOk (e1) := fz39; exact (ed_x (ev_addX ev_c (ev_var rfl) (vc__law_spoilt_rows_cats4 rows d hp1 hp2 hl_rows hl_d c1 at_a1 ha1 c2 c3 c4 c5 c6 e1 c7 hm1)) (vc__law_spoilt_rows_catok4 rows d hp1 hp2 hl_rows hl_d c1 at_a1 ha1 c2 c3 c4 c5 c6 e1 c7 hm1))) (fun _ _ _ _ e ⟨z39, h0, fz39⟩ => ⟨z39, h0, up e fz39⟩)))) (Own.uh o38) (vc__law_spoilt_rows_cat11 rows d hp1 hp2 hl_rows hl_d c1 at_a1 ha1 c2 c3 c4 c5 c6 c7)) fun N v h => ⟨rows ++ ((rows).map fun e1 => (("qq " : Str)) ++ e1), h, (vc__law_spoilt_rows_ret8 rows d hp1 hp2 hl_rows hl_d c1 at_a1 ha1 c2 c3 c4 c5 c6 c7)⟩) k
abbrev s_law : Stmt := topS 37
theorem sc_law : FnScope ["_law_script", "_law_numbers_here", "_law_verses", "_law_rows", "_law_k", "_law_text", "_law_found", "_law_marks", "e", "_law_due", "_law_row"] ["_law_script"] (defScope s_law) := ⟨rfl, rfl, rfl, by decide +kernel, rfl, by decide +kernel, by decide +kernel⟩
section
variable (script : (List Int)) (hn0 : script.length ≤ 63)
include script hn0
theorem vc_law_pre_numbers1 : 0 ≤ (290 : Int) ∧ (290 : Int) ≤ 5000 := by
  decide
section
variable (numbers_here_r1 : (List Int)) (hr1 : Nums ((290 : Int)).toNat numbers_here_r1)
include numbers_here_r1 hr1
theorem vc_law_ix1 : -((numbers_here_r1).length : Int) ≤ (0 : Int) ∧ (0 : Int) < (numbers_here_r1).length := by
  wtm_at "vc"
theorem vc_law_ix2 : -((([(5 : Int), (14 : Int), (40 : Int)] : List Int)).length : Int) ≤ (getI numbers_here_r1 (0 : Int)) % (3 : Int) ∧ (getI numbers_here_r1 (0 : Int)) % (3 : Int) < (([(5 : Int), (14 : Int), (40 : Int)] : List Int)).length := by
  wtm_at "vc"
theorem vc_law_pre_book1 : (∀ x ∈ cutI numbers_here_r1 (some (15 : Int)) none, (0 : Int) ≤ x ∧ x < 9967) ∧ 9 + 6 * (getI (([(5 : Int), (14 : Int), (40 : Int)] : List Int)) ((getI numbers_here_r1 (0 : Int)) % (3 : Int))) ≤ (cutI numbers_here_r1 (some (15 : Int)) none).length ∧ 1 ≤ getI (([(5 : Int), (14 : Int), (40 : Int)] : List Int)) ((getI numbers_here_r1 (0 : Int)) % (3 : Int)) ∧ getI (([(5 : Int), (14 : Int), (40 : Int)] : List Int)) ((getI numbers_here_r1 (0 : Int)) % (3 : Int)) ≤ 40 := by
  first
  | exact book_pre 40 (by wtm_at "asm") (get3_rng (by decide) (by decide) (by decide)) (by decide) (by decide) (by decide)
  | exact book_pre 30 (by wtm_at "asm") (get3_rng (by decide) (by decide) (by decide)) (by decide) (by decide) (by decide)
  | exact book_pre 20 (by wtm_at "asm") (get3_rng (by decide) (by decide) (by decide)) (by decide) (by decide) (by decide)
  | exact book_pre 14 (by wtm_at "asm") (get3_rng (by decide) (by decide) (by decide)) (by decide) (by decide) (by decide)
  | exact book_pre 14 (by wtm_at "asm") (by decide) (by decide) (by decide) (by decide)
section
variable (verses_r2 : (List (List Str))) (hr2 : (GB (getI (([(5 : Int), (14 : Int), (40 : Int)] : List Int)) ((getI numbers_here_r1 (0 : Int)) % (3 : Int))).toNat verses_r2 ∧ ∀ l ∈ verses_r2, l.length ≤ 1000))
include verses_r2 hr2
theorem vc_law_pre_book_rows1 : ∀ l ∈ (verses_r2), isVer l = true := by
  exact hr2.1.ver
theorem vc_law_pre_copy1 : (verses_r2).length ≤ 1000 ∧ ∀ l ∈ verses_r2, l.length ≤ 1000 := by
  first
  | exact (book_lens (by wtm_at "asm") (by first | exact get3_le (by decide) (by decide) (by decide) | decide)).2
  | wtm_at "vc"
theorem vc_law_pre_Book1 : needM (verses_r2) = none ∧ (verses_r2).length ≤ 1000 ∧ ∀ l ∈ verses_r2, l.length ≤ 1000 := by
  exact book_lens (by wtm_at "asm") (by first | exact get3_le (by decide) (by decide) (by decide) | decide)
theorem vc_law_join1 : ((((verses_r2).map fun l => Txt.join (" " : Str) l)).map (·.length)).sum + (((verses_r2).map fun l => Txt.join (" " : Str) l)).length * (("\n" : Str)).length ≤ 16777216 := by
  have h40 : verses_r2.length ≤ 40 := Nat.le_trans hr2.1.len (get3_le (by decide) (by decide) (by decide))
  have hr0 := rows_of_book hr2.1.ver h40
  exact tx_sum ⟨0, by decide, hr0⟩
theorem vc_law_jok1 : PyData.strOk (Txt.join (("\n" : Str)) (((verses_r2).map fun l => Txt.join (" " : Str) l))) = true := by
  have h40 : verses_r2.length ≤ 40 := Nat.le_trans hr2.1.len (get3_le (by decide) (by decide) (by decide))
  have hr0 := rows_of_book hr2.1.ver h40
  exact tx_ok ⟨0, by decide, hr0⟩
theorem vc_law_pre_same1 : (btxt (verses_r2)) = (Txt.join (("\n" : Str)) (((verses_r2).map fun l => Txt.join (" " : Str) l))) := by
  rfl
section
variable (c1 : (!true) = true)
include c1
theorem vc_law_never1 : False := by
  exact absurd c1 (by decide)
end
section
variable (c1 : (!true) = false)
include c1
theorem vc_law_ix3 : -((numbers_here_r1).length : Int) ≤ (1 : Int) ∧ (1 : Int) < (numbers_here_r1).length := by
  wtm_at "vc"
theorem vc_law_rng1 : -1000000 ≤ (getI numbers_here_r1 (1 : Int)) % (4 : Int) ∧ (getI numbers_here_r1 (1 : Int)) % (4 : Int) ≤ 40000 := by
  wtm_at "vc"
theorem vc_law_inv1i1 : RwK 0 (((verses_r2).map fun l => Txt.join (" " : Str) l)) := by
  have h40 : verses_r2.length ≤ 40 := Nat.le_trans hr2.1.len (get3_le (by decide) (by decide) (by decide))
  have hr0 := rows_of_book hr2.1.ver h40
  exact hr0
section
variable (rows_1 : (List Str)) (ix1 : Nat) (y1 : Int) (hj1_1 : RwK ix1 rows_1) (hi1 : (rngI ((getI numbers_here_r1 (1 : Int)) % (4 : Int)))[ix1]? = some y1)
include rows_1 ix1 y1 hj1_1 hi1
theorem vc_law_mul1 : (-18446744073709551616 < (4 : Int) ∧ (4 : Int) < 18446744073709551616) ∧ -18446744073709551616 < y1 ∧ y1 < 18446744073709551616 := by
  wtm_at "vc"
theorem vc_law_pre_spoilt_rows1 : ∃ k, k ≤ 3 ∧ RwK k (rows_1) := by
  have := rngI_get.mp hi1
  exact ⟨ix1, by omega, hj1_1⟩
theorem vc_law_pre_spoilt_rows2 : 4 ≤ (cutI numbers_here_r1 (some ((3 : Int) + ((4 : Int) * y1))) none).length ∧ ∀ x ∈ (cutI numbers_here_r1 (some ((3 : Int) + ((4 : Int) * y1))) none), 0 ≤ x ∧ x < 9967 := by
  have h1 := rngI_get.mp hi1
  have c := hr1.cut (a := 3 + 4 * y1) (by omega)
  exact ⟨by rw [c.2]; omega, c.1⟩
section
variable (rows_r3 : (List Str)) (hr3 : ∀ k : Nat, k ≤ 3 → RwK k (rows_1) → RwK (k + 1) (rows_r3))
include rows_r3 hr3
theorem vc_law_inv1s1 : RwK (ix1 + 1) rows_r3 := by
  have h1 := rngI_get.mp hi1
  exact hr3 ix1 (by omega) hj1_1
end
end
section
variable (rows_1 : (List Str))
include rows_1
section
variable (hj1_1 : RwK ((rngI ((getI numbers_here_r1 (1 : Int)) % (4 : Int))).length) rows_1)
include hj1_1
theorem vc_law_ix4 : -((numbers_here_r1).length : Int) ≤ (2 : Int) ∧ (2 : Int) < (numbers_here_r1).length := by
  wtm_at "vc"
section
variable (c2 : (decide (((getI numbers_here_r1 (2 : Int)) % (17 : Int)) = (16 : Int))) = true)
include c2
theorem vc_law_join2 : ((([("" : Str)] : List Str)).map (·.length)).sum + (([("" : Str)] : List Str)).length * (("\n" : Str)).length ≤ 16777216 := by
  wtm_at "kjw3"
theorem vc_law_jok2 : PyData.strOk (Txt.join (("\n" : Str)) (([("" : Str)] : List Str))) = true := by
  wtm_at "kjw4"
section
variable (xn1 : Str) (fs1 : List (Str × V)) (hE1 : (readE (Txt.join (("\n" : Str)) (([("" : Str)] : List Str)))) = some (xn1, fs1))
include xn1 fs1 hE1
theorem vc_law_which1 : (xn1 = ("BadText" : Str) ∧ ∃ z0 : Int, fs1 = [(("row" : Str), V.int z0)]) := by
  exact read_which hE1
end
section
variable (BadText_row : Int) (hE1 : (readE (Txt.join (("\n" : Str)) (([("" : Str)] : List Str)))) = some (("BadText" : Str), [(("row" : Str), V.int BadText_row)]))
include BadText_row hE1
theorem vc_law_pre_read_book1 : ∃ k, k ≤ 4 ∧ RwK k (Txt.split (Txt.join (("\n" : Str)) (([("" : Str)] : List Str))) ("\n" : Str)) := by
  wtm_at "kjw5"
theorem vc_law_pre_read_book2 : (Txt.join (("\n" : Str)) (([("" : Str)] : List Str))).length ≤ 1000000 := by
  wtm_at "kjw5"
theorem vc_law_split1 : ((("\n" : Str)).length == 0) = false ∧ (Txt.join (("\n" : Str)) (([("" : Str)] : List Str))).length + 2 ≤ 16777216 ∧ (∀ y ∈ Txt.split (Txt.join (("\n" : Str)) (([("" : Str)] : List Str))) (("\n" : Str)), TxtOk y) ∧ (Txt.split (Txt.join (("\n" : Str)) (([("" : Str)] : List Str))) (("\n" : Str))).length ≤ 40000 := by
  wtm_at "kjw6"
section
variable (rows_a1 : (List Str)) (ha1 : rows_a1 = Txt.split (Txt.join (("\n" : Str)) (([("" : Str)] : List Str))) (("\n" : Str)))
include rows_a1 ha1
theorem vc_law_pre_first_bad1 : ∃ k, k ≤ 4 ∧ RwK k (rows_a1) := by
  wtm_at "kjw7"
section
variable (c3 : (decide ((firstI (rows_a1)) ≥ (0 : Int))) = true)
include c3
theorem vc_law_pre_same2 : (([BadText_row] : List Int)) = (([firstI (rows_a1)] : List Int)) := by
  subst_vars
  have e := read_first hE1
  rw [e.1]
theorem vc_law_ret1 : (true) = (true) := by
  rfl
end
section
variable (c3 : (decide ((firstI (rows_a1)) ≥ (0 : Int))) = false)
include c3
theorem vc_law_never2 : False := by
  subst_vars
  have e := read_first hE1
  rw [e.1] at c3
  have := of_decide_eq_false c3
  omega
end
end
end
section
variable (hE1 : (readE (Txt.join (("\n" : Str)) (([("" : Str)] : List Str)))) = none)
include hE1
theorem vc_law_pre_read_book3 : ∃ k, k ≤ 4 ∧ RwK k (Txt.split (Txt.join (("\n" : Str)) (([("" : Str)] : List Str))) ("\n" : Str)) := by
  wtm_at "kjw5"
theorem vc_law_pre_read_book4 : (Txt.join (("\n" : Str)) (([("" : Str)] : List Str))).length ≤ 1000000 := by
  wtm_at "kjw5"
section
variable (found_a2 : (List (List Str))) (ha2 : found_a2 = wordsM (Txt.split (Txt.join (("\n" : Str)) (([("" : Str)] : List Str))) ("\n" : Str)))
include found_a2 ha2
theorem vc_law_split2 : ((("\n" : Str)).length == 0) = false ∧ (Txt.join (("\n" : Str)) (([("" : Str)] : List Str))).length + 2 ≤ 16777216 ∧ (∀ y ∈ Txt.split (Txt.join (("\n" : Str)) (([("" : Str)] : List Str))) (("\n" : Str)), TxtOk y) ∧ (Txt.split (Txt.join (("\n" : Str)) (([("" : Str)] : List Str))) (("\n" : Str))).length ≤ 40000 := by
  wtm_at "kjw6"
section
variable (rows_a3 : (List Str)) (ha3 : rows_a3 = Txt.split (Txt.join (("\n" : Str)) (([("" : Str)] : List Str))) (("\n" : Str)))
include rows_a3 ha3
theorem vc_law_pre_first_bad2 : ∃ k, k ≤ 4 ∧ RwK k (rows_a3) := by
  wtm_at "kjw7"
section
variable (c3 : (decide ((firstI (rows_a3)) ≥ (0 : Int))) = true)
include c3
theorem vc_law_pre_same3 : (([] : List Int)) = (([firstI (rows_a3)] : List Int)) := by
  subst_vars
  rw [read_none hE1] at c3
  exact absurd c3 (by decide)
theorem vc_law_ret2 : (true) = (true) := by
  rfl
end
section
variable (c3 : (decide ((firstI (rows_a3)) ≥ (0 : Int))) = false) (c4 : (((!decide ((([] : List Int)) = (([] : List Int)))) || (!decide ((btxt (found_a2)) = (Txt.join (("\n" : Str)) (([("" : Str)] : List Str))))))) = true)
include c3 c4
theorem vc_law_never3 : False := by
  subst_vars
  rw [btxt_words] at c4
  simp at c4
end
section
variable (c3 : (decide ((firstI (rows_a3)) ≥ (0 : Int))) = false)
include c3
section
variable (e1 : Str) (c4 : (((!decide ((([] : List Int)) = (([] : List Int)))) || (!decide ((btxt (found_a2)) = (Txt.join (("\n" : Str)) (([("" : Str)] : List Str))))))) = false) (hm1 : e1 ∈ rows_a3)
include e1 c4 hm1
theorem vc_law_split3 : (((" " : Str)).length == 0) = false ∧ e1.length + 2 ≤ 16777216 ∧ (∀ y ∈ Txt.split e1 ((" " : Str)), TxtOk y) ∧ (Txt.split e1 ((" " : Str))).length ≤ 40000 := by
  wtm_at "kjw8"
end
section
variable (c4 : (((!decide ((([] : List Int)) = (([] : List Int)))) || (!decide ((btxt (found_a2)) = (Txt.join (("\n" : Str)) (([("" : Str)] : List Str))))))) = false)
include c4
theorem vc_law_pre_book_told1 : found_a2 = ((rows_a3).map fun e1 => Txt.split e1 ((" " : Str))) ∧ ((rows_a3).map fun e1 => Txt.split e1 ((" " : Str))).length ≤ 1000 ∧ ∀ l ∈ (rows_a3).map fun e1 => Txt.split e1 ((" " : Str)), l.length ≤ 1000 := by
  wtm_at "kjw9"
theorem vc_law_ret3 : (true) = (true) := by
  rfl
end
end
end
end
end
end
section
variable (c2 : (decide (((getI numbers_here_r1 (2 : Int)) % (17 : Int)) = (16 : Int))) = false)
include c2
theorem vc_law_join3 : ((rows_1).map (·.length)).sum + (rows_1).length * (("\n" : Str)).length ≤ 16777216 := by
  wtm_at "kjw3"
theorem vc_law_jok3 : PyData.strOk (Txt.join (("\n" : Str)) rows_1) = true := by
  wtm_at "kjw4"
end
section
variable (xn1 : Str) (fs1 : List (Str × V)) (c2 : (decide (((getI numbers_here_r1 (2 : Int)) % (17 : Int)) = (16 : Int))) = false) (hE1 : (readE (Txt.join (("\n" : Str)) rows_1)) = some (xn1, fs1))
include xn1 fs1 c2 hE1
theorem vc_law_which2 : (xn1 = ("BadText" : Str) ∧ ∃ z0 : Int, fs1 = [(("row" : Str), V.int z0)]) := by
  exact read_which hE1
end
section
variable (BadText_row : Int) (c2 : (decide (((getI numbers_here_r1 (2 : Int)) % (17 : Int)) = (16 : Int))) = false) (hE1 : (readE (Txt.join (("\n" : Str)) rows_1)) = some (("BadText" : Str), [(("row" : Str), V.int BadText_row)]))
include BadText_row c2 hE1
theorem vc_law_pre_read_book5 : ∃ k, k ≤ 4 ∧ RwK k (Txt.split (Txt.join (("\n" : Str)) rows_1) ("\n" : Str)) := by
  wtm_at "kjw5"
theorem vc_law_pre_read_book6 : (Txt.join (("\n" : Str)) rows_1).length ≤ 1000000 := by
  wtm_at "kjw5"
theorem vc_law_split4 : ((("\n" : Str)).length == 0) = false ∧ (Txt.join (("\n" : Str)) rows_1).length + 2 ≤ 16777216 ∧ (∀ y ∈ Txt.split (Txt.join (("\n" : Str)) rows_1) (("\n" : Str)), TxtOk y) ∧ (Txt.split (Txt.join (("\n" : Str)) rows_1) (("\n" : Str))).length ≤ 40000 := by
  wtm_at "kjw6"
theorem vc_law_pre_first_bad3 : ∃ k, k ≤ 4 ∧ RwK k (Txt.split (Txt.join (("\n" : Str)) rows_1) (("\n" : Str))) := by
  wtm_at "kjw7"
section
variable (due_a4 : Int) (ha4 : due_a4 = firstI (Txt.split (Txt.join (("\n" : Str)) rows_1) (("\n" : Str)))) (c3 : (decide (due_a4 ≥ (0 : Int))) = true)
include due_a4 ha4 c3
theorem vc_law_pre_same4 : (([BadText_row] : List Int)) = (([due_a4] : List Int)) := by
  subst_vars
  have e := read_first hE1
  rw [e.1]
theorem vc_law_ret4 : (true) = (true) := by
  rfl
end
section
variable (due_a4 : Int) (ha4 : due_a4 = firstI (Txt.split (Txt.join (("\n" : Str)) rows_1) (("\n" : Str))))
include due_a4 ha4
section
variable (c3 : (decide (due_a4 ≥ (0 : Int))) = false)
include c3
theorem vc_law_never4 : False := by
  subst_vars
  have e := read_first hE1
  rw [e.1] at c3
  have := of_decide_eq_false c3
  omega
end
end
end
section
variable (c2 : (decide (((getI numbers_here_r1 (2 : Int)) % (17 : Int)) = (16 : Int))) = false) (hE1 : (readE (Txt.join (("\n" : Str)) rows_1)) = none)
include c2 hE1
theorem vc_law_pre_read_book7 : ∃ k, k ≤ 4 ∧ RwK k (Txt.split (Txt.join (("\n" : Str)) rows_1) ("\n" : Str)) := by
  wtm_at "kjw5"
theorem vc_law_pre_read_book8 : (Txt.join (("\n" : Str)) rows_1).length ≤ 1000000 := by
  wtm_at "kjw5"
section
variable (found_a5 : (List (List Str))) (ha5 : found_a5 = wordsM (Txt.split (Txt.join (("\n" : Str)) rows_1) ("\n" : Str)))
include found_a5 ha5
theorem vc_law_split5 : ((("\n" : Str)).length == 0) = false ∧ (Txt.join (("\n" : Str)) rows_1).length + 2 ≤ 16777216 ∧ (∀ y ∈ Txt.split (Txt.join (("\n" : Str)) rows_1) (("\n" : Str)), TxtOk y) ∧ (Txt.split (Txt.join (("\n" : Str)) rows_1) (("\n" : Str))).length ≤ 40000 := by
  wtm_at "kjw6"
theorem vc_law_pre_first_bad4 : ∃ k, k ≤ 4 ∧ RwK k (Txt.split (Txt.join (("\n" : Str)) rows_1) (("\n" : Str))) := by
  wtm_at "kjw7"
section
variable (due_a6 : Int) (ha6 : due_a6 = firstI (Txt.split (Txt.join (("\n" : Str)) rows_1) (("\n" : Str)))) (c3 : (decide (due_a6 ≥ (0 : Int))) = true)
include due_a6 ha6 c3
theorem vc_law_pre_same5 : (([] : List Int)) = (([due_a6] : List Int)) := by
  subst_vars
  rw [read_none hE1] at c3
  exact absurd c3 (by decide)
theorem vc_law_ret5 : (true) = (true) := by
  rfl
end
section
variable (due_a6 : Int) (ha6 : due_a6 = firstI (Txt.split (Txt.join (("\n" : Str)) rows_1) (("\n" : Str))))
include due_a6 ha6
section
variable (c3 : (decide (due_a6 ≥ (0 : Int))) = false) (c4 : (((!decide ((([] : List Int)) = (([] : List Int)))) || (!decide ((btxt (found_a5)) = (Txt.join (("\n" : Str)) rows_1))))) = true)
include c3 c4
theorem vc_law_never5 : False := by
  subst_vars
  rw [btxt_words] at c4
  simp at c4
end
end
end
end
section
variable (e1 : Str) (c2 : (decide (((getI numbers_here_r1 (2 : Int)) % (17 : Int)) = (16 : Int))) = false) (hE1 : (readE (Txt.join (("\n" : Str)) rows_1)) = none) (found_a5 : (List (List Str))) (ha5 : found_a5 = wordsM (Txt.split (Txt.join (("\n" : Str)) rows_1) ("\n" : Str))) (due_a6 : Int) (ha6 : due_a6 = firstI (Txt.split (Txt.join (("\n" : Str)) rows_1) (("\n" : Str)))) (c3 : (decide (due_a6 ≥ (0 : Int))) = false) (c4 : (((!decide ((([] : List Int)) = (([] : List Int)))) || (!decide ((btxt (found_a5)) = (Txt.join (("\n" : Str)) rows_1))))) = false) (hm1 : e1 ∈ Txt.split (Txt.join (("\n" : Str)) rows_1) (("\n" : Str)))
include e1 c2 hE1 found_a5 ha5 due_a6 ha6 c3 c4 hm1
theorem vc_law_split6 : (((" " : Str)).length == 0) = false ∧ e1.length + 2 ≤ 16777216 ∧ (∀ y ∈ Txt.split e1 ((" " : Str)), TxtOk y) ∧ (Txt.split e1 ((" " : Str))).length ≤ 40000 := by
  wtm_at "kjw8"
end
section
variable (c2 : (decide (((getI numbers_here_r1 (2 : Int)) % (17 : Int)) = (16 : Int))) = false) (hE1 : (readE (Txt.join (("\n" : Str)) rows_1)) = none) (found_a5 : (List (List Str))) (ha5 : found_a5 = wordsM (Txt.split (Txt.join (("\n" : Str)) rows_1) ("\n" : Str))) (due_a6 : Int) (ha6 : due_a6 = firstI (Txt.split (Txt.join (("\n" : Str)) rows_1) (("\n" : Str)))) (c3 : (decide (due_a6 ≥ (0 : Int))) = false) (c4 : (((!decide ((([] : List Int)) = (([] : List Int)))) || (!decide ((btxt (found_a5)) = (Txt.join (("\n" : Str)) rows_1))))) = false)
include c2 hE1 found_a5 ha5 due_a6 ha6 c3 c4
theorem vc_law_pre_book_told2 : found_a5 = ((Txt.split (Txt.join (("\n" : Str)) rows_1) (("\n" : Str))).map fun e1 => Txt.split e1 ((" " : Str))) ∧ ((Txt.split (Txt.join (("\n" : Str)) rows_1) (("\n" : Str))).map fun e1 => Txt.split e1 ((" " : Str))).length ≤ 1000 ∧ ∀ l ∈ (Txt.split (Txt.join (("\n" : Str)) rows_1) (("\n" : Str))).map fun e1 => Txt.split e1 ((" " : Str)), l.length ≤ 1000 := by
  wtm_at "kjw9"
theorem vc_law_ret6 : (true) = (true) := by
  rfl
end
end
end
end
end
end
end
theorem ok_law (B : Bt mg) {C_BadText C_BadVerse C_Book C_SnatchError : Addr} (X_SnatchError : Xc K mg "SnatchError" C_SnatchError) (X_BadText : Xi P w K mg base "BadText" C_BadText ["row"]) (X_BadVerse : Xi P w K mg base "BadVerse" C_BadVerse ["row"]) (E_BadText_BadText : PySem.W.exmOne K (.ref C_BadText) (.ref C_BadText) = some true) (XF_BadText : XfC K C_BadText) (XN_BadText_row : PySem.W.findIn K (.ref C_BadText) "row" = some none) (O_Book : OkC P w K mg base 4 C_Book "Book" ["self", "verses"] ((R_Book K C_Book).spI mg C_Book)) (O__law_book : Ok P w K mg base 3 "_law_book" ["_law_d", "_law_most"] ((R__law_book K).sp mg)) (O__law_book_rows : Ok P w K mg base 1 "_law_book_rows" ["_law_verses"] ((R__law_book_rows K).sp mg)) (O__law_book_told : Ok P w K mg base 4 "_law_book_told" ["_law_book_here", "_law_verses"] ((R__law_book_told K C_Book).sp mg)) (O__law_copy : Ok P w K mg base 1 "_law_copy" ["_law_rows"] ((R__law_copy2 K).sp mg)) (O__law_first_bad : Ok P w K mg base 2 "_law_first_bad" ["_law_rows"] ((R__law_first_bad K).sp mg)) (O__law_numbers : Ok P w K mg base 1 "_law_numbers" ["_law_script", "_law_many"] ((R__law_numbers K).sp mg)) (O__law_same : ∀ n, Ok P w K mg base n "_law_same" ["_law_found", "_law_due"] ((R__law_same K n).sp mg)) (O__law_spoilt_rows : Ok P w K mg base 1 "_law_spoilt_rows" ["_law_rows", "_law_d"] ((R__law_spoilt_rows K).sp mg)) (O_book_text : Ok P w K mg base 2 "book_text" ["book"] ((R_book_text K C_Book).sp mg)) (O_read_book : Ok P w K mg base 6 "read_book" ["text"] ((R_read_book K C_Book).sp mg)) (D : Df K mg "law" s_law ["_law_script"]) : Ok P w K mg base 7 "law" ["_law_script"] (spLaw K) := by
  refine D.ok sc_law (fun vs H Q E h => ?_) (fun f cdv A outer s H vs Q E hr h => ?_)
  · obtain ⟨a, ns, rfl, _⟩ := h
    rfl
  · obtain ⟨a, script, rfl, hS, hn0, k0⟩ := h
    have o0 := Own.init H
    have k : RetNew H Q (fun N v => tB.R N v true) := fun v H' N _ _ _ h => by cases h; exact k0 H'
    have f0 : (tL K tI).R H (.ref a) script := ⟨a, _, rfl, hS, paired_mapI script, by omega⟩
    have O__law_same := O__law_same 4
    refine ⟨_, (pss_cons (ps_set (i := 1) sc_law.nd rfl (.inl rfl) (pe_callO O__law_numbers (hr.mono (by omega)) (by rfl) (takes_of rfl rfl rfl rfl) (pa_cons (pv 0) (pa_cons pe_int pa_nil))))
      (pss_cons (ps_set (i := 2) sc_law.nd rfl (.inl rfl) (pe_callO O__law_book (hr.mono (by omega)) (by rfl) (takes_of rfl rfl rfl rfl) (pa_cons (pe_slice (sl_K K) (pv 1) (po_some pe_int) po_none) (pa_cons (pe_ix (ix_seqK K) (pe_lst (pa_cons pe_int (pa_cons pe_int (pa_cons pe_int pa_nil)))) (pe_op op_mod (pe_ix (ix_seqK K) (pv 1) pe_int (fun _ _ => rfl)) pe_int) (fun _ _ => rfl)) pa_nil))))
      (pss_cons (ps_set (i := 3) sc_law.nd rfl (.inl rfl) (pe_callO O__law_book_rows (hr.mono (by omega)) (by rfl) (takes_of rfl rfl rfl rfl) (pa_cons (pv 2) pa_nil)))
      (pss_cons (ps_if (pt_not (pt_val (pe_callO O__law_same (hr.mono (by omega)) (by rfl) (takes_of rfl rfl rfl rfl) (pa_cons (pe_callO O_book_text (hr.mono (by omega)) (by rfl) (takes_of rfl rfl rfl rfl) (pa_cons (pe_makeO O_Book (hr.mono (by omega)) (by rfl) (takes_of rfl rfl rfl rfl) (pa_cons (pe_callO O__law_copy (hr.mono (by omega)) (by rfl) (takes_of rfl rfl rfl rfl) (pa_cons (pv 2) pa_nil)) pa_nil)) pa_nil)) (pa_cons (pe_bmK K PySem.F.plainAttrs_str PySem.F.slot_str_join PySem.F.type_str_join (mt_joinK K) pe_str (pa_cons (pv 3) pa_nil)) pa_nil)))))
        (pss_one (ps_ret pe_bl))
        pss_nil)
      (pss_cons (ps_for (passes_of rfl) rfl (pi_range1 (by rfl) B.range (pa_cons (pe_op op_mod (pe_ix (ix_seqK K) (pv 1) pe_int (fun _ _ => rfl)) pe_int) pa_nil)) (pg_name (i := 4) sc_law.nd rfl (.inl rfl))
        (pss_one (ps_set (i := 3) sc_law.nd rfl (.inl rfl) (pe_callO O__law_spoilt_rows (hr.mono (by omega)) (by rfl) (takes_of rfl rfl rfl rfl) (pa_cons (pv 3) (pa_cons (pe_slice (sl_K K) (pv 1) (po_some (pe_op (op_addK K) pe_int (pe_op op_mulU pe_int (pv 4)))) po_none) pa_nil))))))
      (pss_cons (ps_if (pt_cmpR (op_eqK K (hu65 hr)) (pe_op op_mod (pe_ix (ix_seqK K) (pv 1) pe_int (fun _ _ => rfl)) pe_int) pe_int (nomark _))
        (pss_one (ps_set (i := 3) sc_law.nd rfl (.inl rfl) (pe_lst (pa_cons pe_str pa_nil))))
        pss_nil)
      (pss_cons (ps_set (i := 5) sc_law.nd rfl (.inl rfl) (pe_bmK K PySem.F.plainAttrs_str PySem.F.slot_str_join PySem.F.type_str_join (mt_joinK K) pe_str (pa_cons (pv 3) pa_nil)))
      (pss_cons (ps_set (i := 6) sc_law.nd rfl (.inl rfl) pe_non)
      (pss_cons (ps_set (i := 7) sc_law.nd rfl (.inl rfl) (pe_lst pa_nil))
      (Evl.pss_cut (ps_try_mix rfl rfl (takes_of rfl rfl rfl rfl)
        (fun W1 pn1 xe1 tk1 po1 => (pss_one (ps_set (i := 6) sc_law.nd rfl (.inl rfl) (pe_callO O_read_book (hr.mono (by omega)) (by rfl) tk1 (pa_cons (pv 5) pa_nil)))))
        (.named (i := 8) sc_law.nd rfl rfl ⟨rfl, by decide, .inl X_BadText.g⟩ (fun a oe cls d pn hz hf => (pss_one (ps_set (i := 7) sc_law.nd rfl (.inl rfl) (pe_lst (pa_cons (pe_xfK K XF_BadText XN_BadText_row hz hf (pv 8)) pa_nil)))))
        (.named (i := 8) sc_law.nd rfl rfl ⟨rfl, by decide, .inl X_SnatchError.g⟩ (fun a oe cls d pn hz hf => (pss_one (ps_set (i := 7) sc_law.nd rfl (.inl rfl) (pe_lst (pa_cons (pe_isE K hz hf (by rfl) B.isinstance (pa_cons (pv 8) (pa_cons (pe_glob (by rfl) X_BadVerse.g rfl) pa_nil))) pa_nil)))))
        .nil)))
      (pss_cons (ps_set (i := 3) sc_law.nd rfl (.inl rfl) (pe_bmK K PySem.F.plainAttrs_str PySem.F.slot_str_split PySem.F.type_str_split mt_split (pv 5) (pa_cons pe_str pa_nil)))
      (pss_cons (ps_set (i := 9) sc_law.nd rfl (.inl rfl) (pe_callO O__law_first_bad (hr.mono (by omega)) (by rfl) (takes_of rfl rfl rfl rfl) (pa_cons (pv 3) pa_nil)))
      (pss_cons (ps_if (pt_cmpR op_ge (pv 9) pe_int (nomark _))
        (pss_one (ps_ret (pe_callO O__law_same (hr.mono (by omega)) (by rfl) (takes_of rfl rfl rfl rfl) (pa_cons (pv 7) (pa_cons (pe_lst (pa_cons (pv 9) pa_nil)) pa_nil)))))
        pss_nil)
      (pss_cons (ps_if (PW.pt (pw_or (pt_cmpR (op_neK K (hu65 hr)) (pv 7) (pe_lst pa_nil) (nomark _)) (pw_or1 (pt_cmpR (op_neK K (hu65 hr)) (pe_callO O_book_text (hr.mono (by omega)) (by rfl) (takes_of rfl rfl rfl rfl) (pa_cons (pv 6) pa_nil)) (pv 5) (nomark _)))))
        (pss_one (ps_ret pe_bl))
        pss_nil)
      (pss_one (ps_ret (pe_callO O__law_book_told (hr.mono (by omega)) (by rfl) (takes_of rfl rfl rfl rfl) (pa_cons (pv 6) (pa_cons (pe_lc (own := [("_law_row", 10)]) rfl sc_law.nd (pi_listK K (pv 3)) (blkOk_by (N := ["_law_script", "_law_numbers_here", "_law_verses", "_law_rows", "_law_k", "_law_text", "_law_found", "_law_marks", "e", "_law_due", "_law_row"]) (sc := defScope s_law) (by decide +kernel)) (fun _ _ _ _ _ => (pg_name (i := 10) sc_law.nd rfl (.inl rfl))) (fun _ _ _ _ _ => pts_nil) (fun _ _ _ _ _ => (pe_bmK K PySem.F.plainAttrs_str PySem.F.slot_str_split PySem.F.type_str_split mt_split (pv 10) (pa_cons pe_str pa_nil)))) pa_nil))))))))))))))))))), ?_⟩
    refine q_b (i := 1) o0 (eb_pE (T := (tW tI)) (Z := fun y => Nums ((290 : Int)).toNat y) (ep_callB (S := (R__law_numbers K)) (Ex.refl _) (ebs_cons (T := (tL K tI)) (Ex.refl _) (ed_of (T := (tL K tI)) (up (Own.uh o0) (up (Own.ug o0) f0)) rfl) (ebs_cons (T := tI) (Ex.refl _) (ed_i ev_c) ebs_nil)) (fun vs G ha => ad__law_numbers ha (vc_law_pre_numbers1 script hn0))) (cv_nums (And.right (vc_law_pre_numbers1 script hn0)))) fun v3 M4 H5 eM6 o7 ⟨numbers_here_r1, f8, hr1⟩ => ?_
    refine q_b (i := 2) o7 (eb_pE (T := (tW (tW tX))) (Z := fun y => (GB (getI (([(5 : Int), (14 : Int), (40 : Int)] : List Int)) ((getI numbers_here_r1 (0 : Int)) % (3 : Int))).toNat y ∧ ∀ l ∈ y, l.length ≤ 1000)) (ep_callB (S := (R__law_book K)) (Ex.refl _) (ebs_cons (T := (tL K tI)) (Ex.refl _) (ed_to (T := (tW tI)) (S := (tL K tI)) (ed_slF (B := M4) (ed_to (T := (tW tI)) (S := (tL K tI)) (ed_of (T := (tW tI)) f8 rfl)) (eo_some ev_c) eo_none (Own.e0 o7))) (ebs_cons (T := tI) (Ex.refl _) (ed_i (ev_i (ed_ixG (ed_to (T := (tW tI)) (S := (tL K tI)) (ed_lst (T := tI) (l := ([(5 : Int), (14 : Int), (40 : Int)] : List Int)) (Own.e0 o7) (ebs_cons (T := tI) (Own.e0 o7) (ed_i ev_c) (ebs_cons (T := tI) (Own.e0 o7) (ed_i ev_c) (ebs_cons (T := tI) (Own.e0 o7) (ed_i ev_c) ebs_nil))) (Nat.le_of_ble_eq_true rfl))) (ev_op (ev_i (ed_ixG (ed_to (T := (tW tI)) (S := (tL K tI)) (ed_of (T := (tW tI)) f8 rfl)) ev_c (vc_law_ix1 script hn0 numbers_here_r1 hr1) (Own.e0 o7))) ev_c (rv_I (by decide))) (vc_law_ix2 script hn0 numbers_here_r1 hr1) (Own.e0 o7)))) ebs_nil)) (fun vs G ha => ad__law_book ha (vc_law_pre_book1 script hn0 numbers_here_r1 hr1))) (cv_good)) fun v9 M10 H11 eM12 o13 ⟨verses_r2, f14, hr2⟩ => ?_
    refine q_b (i := 3) o13 (ed_p (T := (tW tX)) (ep_callB (S := (R__law_book_rows K)) (Ex.refl _) (ebs_cons (T := (tL K (tL K tX))) (Ex.refl _) (ed_to (T := (tW (tW tX))) (S := (tL K (tL K tX))) (ed_of (T := (tW (tW tX))) (up (Own.e0 o13) f14) rfl)) ebs_nil) (fun vs G ha => ⟨(verses_r2), ha, (vc_law_pre_book_rows1 script hn0 numbers_here_r1 hr1 verses_r2 hr2), rfl⟩)) (Own.e0 o13) (fun _ _ h => h)) fun v15 M16 H17 eM18 o19 f20 => ?_
    refine q_wh o19 (et_not (et_B (ev_p (v := (.bl (true))) (ep_imp (ep_callB (S := (R__law_same K 4)) (Ex.refl _) (ebs_cons (T := tS) (Ex.refl _) (ed_p (T := tS) (ep_callB (S := (R_book_text K C_Book)) (Ex.refl _) (ebs_cons (T := (tBook K C_Book)) (Ex.refl _) (ed_p (T := (tBook K C_Book)) (ep_makeB (S := (R_Book K C_Book)) (Ex.refl _) (ebs_cons (T := (tL K (tL K tX))) (Ex.refl _) (ed_to (T := (tW (tW tX))) (S := (tL K (tL K tX))) (ed_p (T := (tW (tW tX))) (ep_callB (S := (R__law_copy2 K)) (Ex.refl _) (ebs_cons (T := (tL K (tL K tX))) (Ex.refl _) (ed_to (T := (tW (tW tX))) (S := (tL K (tL K tX))) (ed_of (T := (tW (tW tX))) (up (Own.e0 o19) (up eM18 f14)) rfl)) ebs_nil) (fun vs G ha => ad__law_copyT ha (vc_law_pre_copy1 script hn0 numbers_here_r1 hr1 verses_r2 hr2))) (Ex.refl _) (cv_rows))) ebs_nil) (fun vs G ha => ad_Book ha (vc_law_pre_Book1 script hn0 numbers_here_r1 hr1 verses_r2 hr2))) (Ex.refl _) (fun _ _ h => h)) ebs_nil) (fun vs G ha => ⟨(verses_r2), ha, rfl⟩)) (Ex.refl _) (fun _ _ h => h)) (ebs_cons (T := tS) (Ex.refl _) (ed_s (ev_join (a := ("\n" : Str)) (ed_to (T := (tW tX)) (S := (tL K tS)) (ed_of (T := (tW tX)) f20 rfl)) (Own.e0 o19) (vc_law_join1 script hn0 numbers_here_r1 hr1 verses_r2 hr2)) (vc_law_jok1 script hn0 numbers_here_r1 hr1 verses_r2 hr2)) ebs_nil)) (fun vs G ha => ad__law_same rfl (Nat.le_of_ble_eq_true rfl) ha (vc_law_pre_same1 script hn0 numbers_here_r1 hr1 verses_r2 hr2))) (fun _ _ h => h))))) (fun c1 H21 o22 => ?_) (fun c1 H21 o22 => ?_)
    · skip
      exact ((vc_law_never1 script hn0 numbers_here_r1 hr1 verses_r2 hr2 c1) : False).elim
    · skip
      refine q_fo (Z := fun B y σ σ2 => ∃ v, σ2 = σ.set 4 (some v) ∧ tI.R B v y) o22 (dr_rng (n := (getI numbers_here_r1 (1 : Int)) % (4 : Int)) (ev_op (ev_i (ed_ixG (ed_to (T := (tW tI)) (S := (tL K tI)) (ed_of (T := (tW tI)) (up (Ex.trans eM12 eM18) f8) rfl)) ev_c (vc_law_ix3 script hn0 numbers_here_r1 hr1 verses_r2 hr2 c1) (Own.e0 o22))) ev_c (rv_I (by decide))) (vc_law_rng1 script hn0 numbers_here_r1 hr1 verses_r2 hr2 c1) fun _ y _ _ _ q => q _ ⟨_, rfl, rfl⟩) (fun Mx ix σ' H' => ∃ (M23 : Hp) (g26 : Option V) (v27 : V) (rows_1 : (List Str)), (σ' = [some (.ref a), some v3, some v9, some v27, g26, none, none, none, none, none, none]) ∧ (Ex Mx M23) ∧ (Own (M23 :: H :: []) H') ∧ ((tW tX).R M23 v27 rows_1) ∧ (RwK ix rows_1)) (fun M1_1 H1 eM1_1 o1 => ?_) (fun M1_1 ix σ' H' eM1_1 ⟨M23, g26, v27, rows_1, _, eM25, o24, _, _⟩ => ?_) ?_ ?_
      · exact ⟨M1_1, _, _, (((verses_r2).map fun l => Txt.join (" " : Str) l)), rfl, Ex.refl _, o1, (up eM1_1 f20), (vc_law_inv1i1 script hn0 numbers_here_r1 hr1 verses_r2 hr2 c1)⟩
      · exact (eM25.trans (Own.e0 o24))
      · rintro M1_1 ix1 y1 σ' H' H'' σ2 eM1_1 hi1 ⟨M23, g26, v27, rows_1, rfl, eM25, o24, f28, hj1_1⟩ eH29 ⟨z31, rfl, f32⟩
        have o30 := Own.mono eH29 o24
        obtain rfl : z31 = (.int (y1)) := f32
        refine s_b (i := 3) o30 (eb_pE (T := (tW tX)) (Z := fun y => ∀ k : Nat, k ≤ 3 → RwK k (rows_1) → RwK (k + 1) (y)) (ep_callB (S := (R__law_spoilt_rows K)) (Ex.refl _) (ebs_cons (T := (tW tX)) (Ex.refl _) (ed_of (T := (tW tX)) (up (Own.e0 o30) f28) rfl) (ebs_cons (T := (tL K tI)) (Ex.refl _) (ed_to (T := (tW tI)) (S := (tL K tI)) (ed_slF (B := M23) (ed_to (T := (tW tI)) (S := (tL K tI)) (ed_of (T := (tW tI)) (up (Ex.trans eM12 (Ex.trans eM18 (Ex.trans eM1_1 eM25))) f8) rfl)) (eo_some (ev_op ev_c (ev_op ev_c (ev_var rfl) (rv_mulI (cmul_small (And.left (vc_law_mul1 script hn0 numbers_here_r1 hr1 verses_r2 hr2 c1 rows_1 ix1 y1 hj1_1 hi1)) (And.right (vc_law_mul1 script hn0 numbers_here_r1 hr1 verses_r2 hr2 c1 rows_1 ix1 y1 hj1_1 hi1))))) rv_addI)) eo_none (Own.e0 o30))) ebs_nil)) (fun vs G ha => ⟨(rows_1), (cutI numbers_here_r1 (some ((3 : Int) + ((4 : Int) * y1))) none), ha, (vc_law_pre_spoilt_rows1 script hn0 numbers_here_r1 hr1 verses_r2 hr2 c1 rows_1 ix1 y1 hj1_1 hi1), (vc_law_pre_spoilt_rows2 script hn0 numbers_here_r1 hr1 verses_r2 hr2 c1 rows_1 ix1 y1 hj1_1 hi1), rfl⟩)) (fun _ _ h => h)) fun v33 M34 H35 eM36 o37 ⟨rows_r3, f38, hr3⟩ => ?_
        exact ⟨M34, _, _, (rows_r3), rfl, (Ex.trans eM25 eM36), o37, f38, (vc_law_inv1s1 script hn0 numbers_here_r1 hr1 verses_r2 hr2 c1 rows_1 ix1 y1 hj1_1 hi1 rows_r3 hr3)⟩
      · rintro M1_1 σ' H' eM1_1 ⟨M23, g26, v27, rows_1, rfl, eM25, o24, f28, hj1_1⟩
        refine q_wh o24 (et_test (ev_op (ev_op (ev_i (ed_ixG (ed_to (T := (tW tI)) (S := (tL K tI)) (ed_of (T := (tW tI)) (up (Ex.trans eM12 (Ex.trans eM18 (Ex.trans eM1_1 eM25))) f8) rfl)) ev_c (vc_law_ix4 script hn0 numbers_here_r1 hr1 verses_r2 hr2 c1 rows_1 hj1_1) (Own.e0 o24))) ev_c (rv_I (by decide))) ev_c rv_eqI)) (fun c2 H39 o40 => ?_) (fun c2 H39 o40 => ?_)
        · skip
          refine s_b (i := 3) o40 (ed_lst (T := tS) (l := ([("" : Str)] : List Str)) (Own.e0 o40) (ebs_cons (T := tS) (Own.e0 o40) (ed_s ev_c (by decide +kernel)) ebs_nil) (Nat.le_of_ble_eq_true rfl)) fun v41 M42 H43 eM44 o45 f46 => ?_
          refine q_v (i := 5) o45 (ev_join (a := ("\n" : Str)) (ed_to (T := (tW tS)) (S := (tL K tS)) (ed_of (T := (tW tS)) f46 rfl)) (Own.e0 o45) (vc_law_join2 script hn0 numbers_here_r1 hr1 verses_r2 hr2 c1 rows_1 hj1_1 c2)) fun H47 o48 => ?_
          refine q_v (i := 6) o48 ev_c fun H49 o50 => ?_
          refine q_b (i := 7) o50 (ed_lst (T := tI) (l := ([] : List Int)) (Own.e0 o50) ebs_nil (Nat.le_of_ble_eq_true rfl)) fun v51 M52 H53 eM54 o55 f56 => ?_
          refine st_is (σ' := [some (.ref a), some v3, some v9, some v41, g26, some (.str (Txt.join (("\n" : Str)) (([("" : Str)] : List Str)))), some .non, some v51, none, none, none]) rfl ?_
          refine ⟨_, ?_, fun _ _ h => h⟩
          cases hE1 : readE (Txt.join (("\n" : Str)) (([("" : Str)] : List Str))) with
          | some qxn1 =>
            obtain ⟨xn1, fs1⟩ := qxn1
            rcases (vc_law_which1 script hn0 numbers_here_r1 hr1 verses_r2 hr2 c1 rows_1 hj1_1 c2 xn1 fs1 hE1) with ⟨rfl, BadText_row, rfl⟩
            · refine s_er (xn := "BadText") (fs := [(("row" : Str), V.int BadText_row)]) (er_callB (S := (R_read_book K C_Book)) (Ex.refl _) (ebs_cons (T := tS) (Ex.refl _) (ed_s (ev_var rfl) (vc_law_jok2 script hn0 numbers_here_r1 hr1 verses_r2 hr2 c1 rows_1 hj1_1 c2)) ebs_nil) (fun vs G ha => ⟨(Txt.join (("\n" : Str)) (([("" : Str)] : List Str))), ha, (vc_law_pre_read_book1 script hn0 numbers_here_r1 hr1 verses_r2 hr2 c1 rows_1 hj1_1 c2 BadText_row hE1), (vc_law_pre_read_book2 script hn0 numbers_here_r1 hr1 verses_r2 hr2 c1 rows_1 hj1_1 c2 BadText_row hE1), (resF_err hE1).symm⟩)) (mix_hitN X_BadText.g E_BadText_BadText fun H57 d60 a61 e58 _ cc62 => ?_)
              have o59 := Own.mono e58 o55
              obtain ⟨dd63, rfl, hdd64⟩ := xda_some cc62 (fun h => nomatch h)
              refine s_b (i := 7) o59 (ed_lst (T := tI) (l := ([BadText_row] : List Int)) (Own.e0 o59) (ebs_cons (T := tI) (Own.e0 o59) (ed_i (ev_xf (ev_var rfl) hdd64 rfl)) ebs_nil) (Nat.le_of_ble_eq_true rfl)) fun v65 M66 H67 eM68 o69 f70 => ?_
              refine st_is (σ' := [some (.ref a), some v3, some v9, some v41, g26, some (.str (Txt.join (("\n" : Str)) (([("" : Str)] : List Str)))), some .non, some v65, some (.ref a61), none, none]) rfl ?_
              refine q_b (i := 3) o69 (ed_of_n (Own.e0 o69) (en_splitX (ev_var rfl) ev_c (vc_law_split1 script hn0 numbers_here_r1 hr1 verses_r2 hr2 c1 rows_1 hj1_1 c2 BadText_row hE1))) fun v71 M72 H73 eM74 o75 f76 => ?_
              obtain ⟨rows_a1, ha1, f76⟩ : ∃ z : (List Str), z = (Txt.split (Txt.join (("\n" : Str)) (([("" : Str)] : List Str))) (("\n" : Str))) ∧ (tW tX).R M72 v71 z := ⟨_, rfl, f76⟩
              refine q_v (i := 9) o75 (ev_p (v := (.int (firstI (rows_a1)))) (ep_imp (ep_callB (S := (R__law_first_bad K)) (Ex.refl _) (ebs_cons (T := (tL K tX)) (Ex.refl _) (ed_to (T := (tW tX)) (S := (tL K tX)) (ed_of (T := (tW tX)) (up (Own.e0 o75) f76) rfl)) ebs_nil) (fun vs G ha => ⟨(rows_a1), ha, (vc_law_pre_first_bad1 script hn0 numbers_here_r1 hr1 verses_r2 hr2 c1 rows_1 hj1_1 c2 BadText_row hE1 rows_a1 ha1), rfl⟩)) (fun _ _ h => h))) fun H77 o78 => ?_
              refine q_wh o78 (et_test (ev_op (ev_var rfl) ev_c rv_I0)) (fun c3 H79 o80 => ?_) (fun c3 H79 o80 => ?_)
              · skip
                exact s_rv' o80 (ev_p (v := (.bl (true))) (ep_imp (ep_callB (S := (R__law_same K 4)) (Ex.refl _) (ebs_cons (T := (tW tI)) (Ex.refl _) (ed_of (T := (tW tI)) (up (Own.e0 o80) (up eM74 f70)) rfl) (ebs_cons (T := (tW tI)) (Ex.refl _) (ed_lst (T := tI) (l := ([firstI (rows_a1)] : List Int)) (Ex.refl _) (ebs_cons (T := tI) (Ex.refl _) (ed_i (ev_var rfl)) ebs_nil) (Nat.le_of_ble_eq_true rfl)) ebs_nil)) (fun vs G ha => ad__law_same rfl (Nat.le_of_ble_eq_true rfl) ha (vc_law_pre_same2 script hn0 numbers_here_r1 hr1 verses_r2 hr2 c1 rows_1 hj1_1 c2 BadText_row hE1 rows_a1 ha1 c3))) (fun _ _ h => h))) k (by first | (rw [(vc_law_ret1 script hn0 numbers_here_r1 hr1 verses_r2 hr2 c1 rows_1 hj1_1 c2 BadText_row hE1 rows_a1 ha1 c3)]; exact rfl) | (rw [← (vc_law_ret1 script hn0 numbers_here_r1 hr1 verses_r2 hr2 c1 rows_1 hj1_1 c2 BadText_row hE1 rows_a1 ha1 c3)]; exact rfl))
              · skip
                exact ((vc_law_never2 script hn0 numbers_here_r1 hr1 verses_r2 hr2 c1 rows_1 hj1_1 c2 BadText_row hE1 rows_a1 ha1 c3) : False).elim
          | none =>
            refine s_b (i := 6) o55 (ed_p (T := (tBook K C_Book)) (ep_callB (S := (R_read_book K C_Book)) (Ex.refl _) (ebs_cons (T := tS) (Ex.refl _) (ed_s (ev_var rfl) (vc_law_jok2 script hn0 numbers_here_r1 hr1 verses_r2 hr2 c1 rows_1 hj1_1 c2)) ebs_nil) (fun vs G ha => ⟨(Txt.join (("\n" : Str)) (([("" : Str)] : List Str))), ha, (vc_law_pre_read_book3 script hn0 numbers_here_r1 hr1 verses_r2 hr2 c1 rows_1 hj1_1 c2 hE1), (vc_law_pre_read_book4 script hn0 numbers_here_r1 hr1 verses_r2 hr2 c1 rows_1 hj1_1 c2 hE1), (resF_ok hE1).symm⟩)) (Own.e0 o55) (fun _ _ h => h)) fun v81 M82 H83 eM84 o85 f86 => ?_
            obtain ⟨found_a2, ha2, f86⟩ : ∃ z : (List (List Str)), z = (wordsM (Txt.split (Txt.join (("\n" : Str)) (([("" : Str)] : List Str))) ("\n" : Str))) ∧ (tBook K C_Book).R M82 v81 z := ⟨_, rfl, f86⟩
            refine q_b (i := 3) o85 (ed_of_n (Own.e0 o85) (en_splitX (ev_var rfl) ev_c (vc_law_split2 script hn0 numbers_here_r1 hr1 verses_r2 hr2 c1 rows_1 hj1_1 c2 hE1 found_a2 ha2))) fun v87 M88 H89 eM90 o91 f92 => ?_
            obtain ⟨rows_a3, ha3, f92⟩ : ∃ z : (List Str), z = (Txt.split (Txt.join (("\n" : Str)) (([("" : Str)] : List Str))) (("\n" : Str))) ∧ (tW tX).R M88 v87 z := ⟨_, rfl, f92⟩
            refine q_v (i := 9) o91 (ev_p (v := (.int (firstI (rows_a3)))) (ep_imp (ep_callB (S := (R__law_first_bad K)) (Ex.refl _) (ebs_cons (T := (tL K tX)) (Ex.refl _) (ed_to (T := (tW tX)) (S := (tL K tX)) (ed_of (T := (tW tX)) (up (Own.e0 o91) f92) rfl)) ebs_nil) (fun vs G ha => ⟨(rows_a3), ha, (vc_law_pre_first_bad2 script hn0 numbers_here_r1 hr1 verses_r2 hr2 c1 rows_1 hj1_1 c2 hE1 found_a2 ha2 rows_a3 ha3), rfl⟩)) (fun _ _ h => h))) fun H93 o94 => ?_
            refine q_wh o94 (et_test (ev_op (ev_var rfl) ev_c rv_I0)) (fun c3 H95 o96 => ?_) (fun c3 H95 o96 => ?_)
            · skip
              exact s_rv' o96 (ev_p (v := (.bl (true))) (ep_imp (ep_callB (S := (R__law_same K 4)) (Ex.refl _) (ebs_cons (T := (tW tI)) (Ex.refl _) (ed_of (T := (tW tI)) (up (Own.e0 o96) (up (Ex.trans eM84 eM90) f56)) rfl) (ebs_cons (T := (tW tI)) (Ex.refl _) (ed_lst (T := tI) (l := ([firstI (rows_a3)] : List Int)) (Ex.refl _) (ebs_cons (T := tI) (Ex.refl _) (ed_i (ev_var rfl)) ebs_nil) (Nat.le_of_ble_eq_true rfl)) ebs_nil)) (fun vs G ha => ad__law_same rfl (Nat.le_of_ble_eq_true rfl) ha (vc_law_pre_same3 script hn0 numbers_here_r1 hr1 verses_r2 hr2 c1 rows_1 hj1_1 c2 hE1 found_a2 ha2 rows_a3 ha3 c3))) (fun _ _ h => h))) k (by first | (rw [(vc_law_ret2 script hn0 numbers_here_r1 hr1 verses_r2 hr2 c1 rows_1 hj1_1 c2 hE1 found_a2 ha2 rows_a3 ha3 c3)]; exact rfl) | (rw [← (vc_law_ret2 script hn0 numbers_here_r1 hr1 verses_r2 hr2 c1 rows_1 hj1_1 c2 hE1 found_a2 ha2 rows_a3 ha3 c3)]; exact rfl))
            · skip
              refine q_wh o96 (et_or (et_test (ev_neB (T := (tW tI)) (ed_of (T := (tW tI)) (up (Ex.trans eM84 eM90) f56) rfl) (ed_lst (T := tI) (l := ([] : List Int)) (Own.e0 o96) ebs_nil (Nat.le_of_ble_eq_true rfl)) (Own.e0 o96))) fun hc97 => (et_test (ev_op (ev_p (v := .str (btxt (found_a2))) (ep_imp (ep_callB (S := (R_book_text K C_Book)) (Ex.refl _) (ebs_cons (T := (tBook K C_Book)) (Ex.refl _) (ed_of (T := (tBook K C_Book)) (up (Own.e0 o96) (up eM90 f86)) rfl) ebs_nil) (fun vs G ha => ⟨(found_a2), ha, rfl⟩)) (fun _ _ h => ((fun _ _ h => h) _ _ h).1))) (ev_var rfl) rv_neT))) (fun c4 H98 o99 => ?_) (fun c4 H98 o99 => ?_)
              · skip
                exact ((vc_law_never3 script hn0 numbers_here_r1 hr1 verses_r2 hr2 c1 rows_1 hj1_1 c2 hE1 found_a2 ha2 rows_a3 ha3 c3 c4) : False).elim
              · skip
                exact s_rv' o99 (ev_p (v := (.bl (true))) (ep_imp (ep_callB (S := (R__law_book_told K C_Book)) (Ex.refl _) (ebs_cons (T := (tBook K C_Book)) (Ex.refl _) (ed_of (T := (tBook K C_Book)) (up (Own.e0 o99) (up eM90 f86)) rfl) (ebs_cons (T := (tL K (tL K tX))) (Ex.refl _) (ed_to (T := (tW (tW tX))) (S := (tL K (tL K tX))) (ed_lcA (S := (tW tX)) (Z := fun B y σ σ2 => ∃ z100, σ2 = (σ.set 10 (some z100)) ∧ tX.R B z100 y) (dr_list (T := tX) (ed_to (T := (tW tX)) (S := (tL K tX)) (ed_of (T := (tW tX)) (up (Own.e0 o99) f92) rfl)) (Ex.refl _) (fun G x y H' e hx σ' Q q => by exact q _ ⟨x, rfl, hx⟩)) (Ex.refl _) (fun e1 : Str => Txt.split e1 ((" " : Str))) (fun _ _ _ ⟨z100, h0, fz100⟩ => by subst h0; rfl) (fun G101 e1 σ2 H101 eb101 eg101 eh101 hm1 hz101 => by obtain ⟨z100, rfl, fz100⟩ := hz101; obtain ⟨rfl, hs102⟩ : z100 = .str (e1) ∧ TxtOk (e1) := fz100; exact (ed_of_n eg101 (en_splitX (ev_var rfl) ev_c (vc_law_split3 script hn0 numbers_here_r1 hr1 verses_r2 hr2 c1 rows_1 hj1_1 c2 hE1 found_a2 ha2 rows_a3 ha3 c3 e1 c4 hm1)))) (fun _ _ _ _ e ⟨z100, h0, fz100⟩ => ⟨z100, h0, up e fz100⟩))) ebs_nil)) (fun vs G ha => ad__law_book_told ha (vc_law_pre_book_told1 script hn0 numbers_here_r1 hr1 verses_r2 hr2 c1 rows_1 hj1_1 c2 hE1 found_a2 ha2 rows_a3 ha3 c3 c4))) (fun _ _ h => h))) k (by first | (rw [(vc_law_ret3 script hn0 numbers_here_r1 hr1 verses_r2 hr2 c1 rows_1 hj1_1 c2 hE1 found_a2 ha2 rows_a3 ha3 c3 c4)]; exact rfl) | (rw [← (vc_law_ret3 script hn0 numbers_here_r1 hr1 verses_r2 hr2 c1 rows_1 hj1_1 c2 hE1 found_a2 ha2 rows_a3 ha3 c3 c4)]; exact rfl))
        · skip
          refine q_v (i := 5) o40 (ev_join (a := ("\n" : Str)) (ed_to (T := (tW tX)) (S := (tL K tS)) (ed_of (T := (tW tX)) f28 rfl)) (Own.e0 o40) (vc_law_join3 script hn0 numbers_here_r1 hr1 verses_r2 hr2 c1 rows_1 hj1_1 c2)) fun H104 o105 => ?_
          refine q_v (i := 6) o105 ev_c fun H106 o107 => ?_
          refine q_b (i := 7) o107 (ed_lst (T := tI) (l := ([] : List Int)) (Own.e0 o107) ebs_nil (Nat.le_of_ble_eq_true rfl)) fun v108 M109 H110 eM111 o112 f113 => ?_
          refine st_is (σ' := [some (.ref a), some v3, some v9, some v27, g26, some (.str (Txt.join (("\n" : Str)) rows_1)), some .non, some v108, none, none, none]) rfl ?_
          refine ⟨_, ?_, fun _ _ h => h⟩
          cases hE1 : readE (Txt.join (("\n" : Str)) rows_1) with
          | some qxn1 =>
            obtain ⟨xn1, fs1⟩ := qxn1
            rcases (vc_law_which2 script hn0 numbers_here_r1 hr1 verses_r2 hr2 c1 rows_1 hj1_1 xn1 fs1 c2 hE1) with ⟨rfl, BadText_row, rfl⟩
            · refine s_er (xn := "BadText") (fs := [(("row" : Str), V.int BadText_row)]) (er_callB (S := (R_read_book K C_Book)) (Ex.refl _) (ebs_cons (T := tS) (Ex.refl _) (ed_s (ev_var rfl) (vc_law_jok3 script hn0 numbers_here_r1 hr1 verses_r2 hr2 c1 rows_1 hj1_1 c2)) ebs_nil) (fun vs G ha => ⟨(Txt.join (("\n" : Str)) rows_1), ha, (vc_law_pre_read_book5 script hn0 numbers_here_r1 hr1 verses_r2 hr2 c1 rows_1 hj1_1 BadText_row c2 hE1), (vc_law_pre_read_book6 script hn0 numbers_here_r1 hr1 verses_r2 hr2 c1 rows_1 hj1_1 BadText_row c2 hE1), (resF_err hE1).symm⟩)) (mix_hitN X_BadText.g E_BadText_BadText fun H114 d117 a118 e115 _ cc119 => ?_)
              have o116 := Own.mono e115 o112
              obtain ⟨dd120, rfl, hdd121⟩ := xda_some cc119 (fun h => nomatch h)
              refine s_b (i := 7) o116 (ed_lst (T := tI) (l := ([BadText_row] : List Int)) (Own.e0 o116) (ebs_cons (T := tI) (Own.e0 o116) (ed_i (ev_xf (ev_var rfl) hdd121 rfl)) ebs_nil) (Nat.le_of_ble_eq_true rfl)) fun v122 M123 H124 eM125 o126 f127 => ?_
              refine st_is (σ' := [some (.ref a), some v3, some v9, some v27, g26, some (.str (Txt.join (("\n" : Str)) rows_1)), some .non, some v122, some (.ref a118), none, none]) rfl ?_
              refine q_b (i := 3) o126 (ed_of_n (Own.e0 o126) (en_splitX (ev_var rfl) ev_c (vc_law_split4 script hn0 numbers_here_r1 hr1 verses_r2 hr2 c1 rows_1 hj1_1 BadText_row c2 hE1))) fun v128 M129 H130 eM131 o132 f133 => ?_
              obtain ⟨due_a4, ha4⟩ : ∃ z : Int, z = (firstI (Txt.split (Txt.join (("\n" : Str)) rows_1) (("\n" : Str)))) := ⟨_, rfl⟩
              refine q_v (i := 9) o132 (ev_is (ev_p (v := (.int (firstI (Txt.split (Txt.join (("\n" : Str)) rows_1) (("\n" : Str)))))) (ep_imp (ep_callB (S := (R__law_first_bad K)) (Ex.refl _) (ebs_cons (T := (tL K tX)) (Ex.refl _) (ed_to (T := (tW tX)) (S := (tL K tX)) (ed_of (T := (tW tX)) (up (Own.e0 o132) f133) rfl)) ebs_nil) (fun vs G ha => ⟨(Txt.split (Txt.join (("\n" : Str)) rows_1) (("\n" : Str))), ha, (vc_law_pre_first_bad3 script hn0 numbers_here_r1 hr1 verses_r2 hr2 c1 rows_1 hj1_1 BadText_row c2 hE1), rfl⟩)) (fun _ _ h => h))) (congrArg V.int ha4.symm)) fun H134 o135 => ?_
              refine q_wh o135 (et_test (ev_op (ev_var rfl) ev_c rv_I0)) (fun c3 H136 o137 => ?_) (fun c3 H136 o137 => ?_)
              · skip
                exact s_rv' o137 (ev_p (v := (.bl (true))) (ep_imp (ep_callB (S := (R__law_same K 4)) (Ex.refl _) (ebs_cons (T := (tW tI)) (Ex.refl _) (ed_of (T := (tW tI)) (up (Own.e0 o137) (up eM131 f127)) rfl) (ebs_cons (T := (tW tI)) (Ex.refl _) (ed_lst (T := tI) (l := ([due_a4] : List Int)) (Ex.refl _) (ebs_cons (T := tI) (Ex.refl _) (ed_i (ev_var rfl)) ebs_nil) (Nat.le_of_ble_eq_true rfl)) ebs_nil)) (fun vs G ha => ad__law_same rfl (Nat.le_of_ble_eq_true rfl) ha (vc_law_pre_same4 script hn0 numbers_here_r1 hr1 verses_r2 hr2 c1 rows_1 hj1_1 BadText_row c2 hE1 due_a4 ha4 c3))) (fun _ _ h => h))) k (by first | (rw [(vc_law_ret4 script hn0 numbers_here_r1 hr1 verses_r2 hr2 c1 rows_1 hj1_1 BadText_row c2 hE1 due_a4 ha4 c3)]; exact rfl) | (rw [← (vc_law_ret4 script hn0 numbers_here_r1 hr1 verses_r2 hr2 c1 rows_1 hj1_1 BadText_row c2 hE1 due_a4 ha4 c3)]; exact rfl))
              · skip
                exact ((vc_law_never4 script hn0 numbers_here_r1 hr1 verses_r2 hr2 c1 rows_1 hj1_1 BadText_row c2 hE1 due_a4 ha4 c3) : False).elim
          | none =>
            refine s_b (i := 6) o112 (ed_p (T := (tBook K C_Book)) (ep_callB (S := (R_read_book K C_Book)) (Ex.refl _) (ebs_cons (T := tS) (Ex.refl _) (ed_s (ev_var rfl) (vc_law_jok3 script hn0 numbers_here_r1 hr1 verses_r2 hr2 c1 rows_1 hj1_1 c2)) ebs_nil) (fun vs G ha => ⟨(Txt.join (("\n" : Str)) rows_1), ha, (vc_law_pre_read_book7 script hn0 numbers_here_r1 hr1 verses_r2 hr2 c1 rows_1 hj1_1 c2 hE1), (vc_law_pre_read_book8 script hn0 numbers_here_r1 hr1 verses_r2 hr2 c1 rows_1 hj1_1 c2 hE1), (resF_ok hE1).symm⟩)) (Own.e0 o112) (fun _ _ h => h)) fun v138 M139 H140 eM141 o142 f143 => ?_
            obtain ⟨found_a5, ha5, f143⟩ : ∃ z : (List (List Str)), z = (wordsM (Txt.split (Txt.join (("\n" : Str)) rows_1) ("\n" : Str))) ∧ (tBook K C_Book).R M139 v138 z := ⟨_, rfl, f143⟩
            refine q_b (i := 3) o142 (ed_of_n (Own.e0 o142) (en_splitX (ev_var rfl) ev_c (vc_law_split5 script hn0 numbers_here_r1 hr1 verses_r2 hr2 c1 rows_1 hj1_1 c2 hE1 found_a5 ha5))) fun v144 M145 H146 eM147 o148 f149 => ?_
            obtain ⟨due_a6, ha6⟩ : ∃ z : Int, z = (firstI (Txt.split (Txt.join (("\n" : Str)) rows_1) (("\n" : Str)))) := ⟨_, rfl⟩
            refine q_v (i := 9) o148 (ev_is (ev_p (v := (.int (firstI (Txt.split (Txt.join (("\n" : Str)) rows_1) (("\n" : Str)))))) (ep_imp (ep_callB (S := (R__law_first_bad K)) (Ex.refl _) (ebs_cons (T := (tL K tX)) (Ex.refl _) (ed_to (T := (tW tX)) (S := (tL K tX)) (ed_of (T := (tW tX)) (up (Own.e0 o148) f149) rfl)) ebs_nil) (fun vs G ha => ⟨(Txt.split (Txt.join (("\n" : Str)) rows_1) (("\n" : Str))), ha, (vc_law_pre_first_bad4 script hn0 numbers_here_r1 hr1 verses_r2 hr2 c1 rows_1 hj1_1 c2 hE1 found_a5 ha5), rfl⟩)) (fun _ _ h => h))) (congrArg V.int ha6.symm)) fun H150 o151 => ?_
            refine q_wh o151 (et_test (ev_op (ev_var rfl) ev_c rv_I0)) (fun c3 H152 o153 => ?_) (fun c3 H152 o153 => ?_)
            · skip
              exact s_rv' o153 (ev_p (v := (.bl (true))) (ep_imp (ep_callB (S := (R__law_same K 4)) (Ex.refl _) (ebs_cons (T := (tW tI)) (Ex.refl _) (ed_of (T := (tW tI)) (up (Own.e0 o153) (up (Ex.trans eM141 eM147) f113)) rfl) (ebs_cons (T := (tW tI)) (Ex.refl _) (ed_lst (T := tI) (l := ([due_a6] : List Int)) (Ex.refl _) (ebs_cons (T := tI) (Ex.refl _) (ed_i (ev_var rfl)) ebs_nil) (Nat.le_of_ble_eq_true rfl)) ebs_nil)) (fun vs G ha => ad__law_same rfl (Nat.le_of_ble_eq_true rfl) ha (vc_law_pre_same5 script hn0 numbers_here_r1 hr1 verses_r2 hr2 c1 rows_1 hj1_1 c2 hE1 found_a5 ha5 due_a6 ha6 c3))) (fun _ _ h => h))) k (by first | (rw [(vc_law_ret5 script hn0 numbers_here_r1 hr1 verses_r2 hr2 c1 rows_1 hj1_1 c2 hE1 found_a5 ha5 due_a6 ha6 c3)]; exact rfl) | (rw [← (vc_law_ret5 script hn0 numbers_here_r1 hr1 verses_r2 hr2 c1 rows_1 hj1_1 c2 hE1 found_a5 ha5 due_a6 ha6 c3)]; exact rfl))
            · skip
              refine q_wh o153 (et_or (et_test (ev_neB (T := (tW tI)) (ed_of (T := (tW tI)) (up (Ex.trans eM141 eM147) f113) rfl) (ed_lst (T := tI) (l := ([] : List Int)) (Own.e0 o153) ebs_nil (Nat.le_of_ble_eq_true rfl)) (Own.e0 o153))) fun hc154 => (et_test (ev_op (ev_p (v := .str (btxt (found_a5))) (ep_imp (ep_callB (S := (R_book_text K C_Book)) (Ex.refl _) (ebs_cons (T := (tBook K C_Book)) (Ex.refl _) (ed_of (T := (tBook K C_Book)) (up (Own.e0 o153) (up eM147 f143)) rfl) ebs_nil) (fun vs G ha => ⟨(found_a5), ha, rfl⟩)) (fun _ _ h => ((fun _ _ h => h) _ _ h).1))) (ev_var rfl) rv_neT))) (fun c4 H155 o156 => ?_) (fun c4 H155 o156 => ?_)
              · skip
                exact ((vc_law_never5 script hn0 numbers_here_r1 hr1 verses_r2 hr2 c1 rows_1 hj1_1 c2 hE1 found_a5 ha5 due_a6 ha6 c3 c4) : False).elim
              · skip
                exact s_rv' o156 (ev_p (v := (.bl (true))) (ep_imp (ep_callB (S := (R__law_book_told K C_Book)) (Ex.refl _) (ebs_cons (T := (tBook K C_Book)) (Ex.refl _) (ed_of (T := (tBook K C_Book)) (up (Own.e0 o156) (up eM147 f143)) rfl) (ebs_cons (T := (tL K (tL K tX))) (Ex.refl _) (ed_to (T := (tW (tW tX))) (S := (tL K (tL K tX))) (ed_lcA (S := (tW tX)) (Z := fun B y σ σ2 => ∃ z157, σ2 = (σ.set 10 (some z157)) ∧ tX.R B z157 y) (dr_list (T := tX) (ed_to (T := (tW tX)) (S := (tL K tX)) (ed_of (T := (tW tX)) (up (Own.e0 o156) f149) rfl)) (Ex.refl _) (fun G x y H' e hx σ' Q q => by exact q _ ⟨x, rfl, hx⟩)) (Ex.refl _) (fun e1 : Str => Txt.split e1 ((" " : Str))) (fun _ _ _ ⟨z157, h0, fz157⟩ => by subst h0; rfl) (fun G158 e1 σ2 H158 eb158 eg158 eh158 hm1 hz158 => by obtain ⟨z157, rfl, fz157⟩ := hz158; obtain ⟨rfl, hs159⟩ : z157 = .str (e1) ∧ TxtOk (e1) := fz157; exact (ed_of_n eg158 (en_splitX (ev_var rfl) ev_c (vc_law_split6 script hn0 numbers_here_r1 hr1 verses_r2 hr2 c1 rows_1 hj1_1 e1 c2 hE1 found_a5 ha5 due_a6 ha6 c3 c4 hm1)))) (fun _ _ _ _ e ⟨z157, h0, fz157⟩ => ⟨z157, h0, up e fz157⟩))) ebs_nil)) (fun vs G ha => ad__law_book_told ha (vc_law_pre_book_told2 script hn0 numbers_here_r1 hr1 verses_r2 hr2 c1 rows_1 hj1_1 c2 hE1 found_a5 ha5 due_a6 ha6 c3 c4))) (fun _ _ h => h))) k (by first | (rw [(vc_law_ret6 script hn0 numbers_here_r1 hr1 verses_r2 hr2 c1 rows_1 hj1_1 c2 hE1 found_a5 ha5 due_a6 ha6 c3 c4)]; exact rfl) | (rw [← (vc_law_ret6 script hn0 numbers_here_r1 hr1 verses_r2 hr2 c1 rows_1 hj1_1 c2 hE1 found_a5 ha5 due_a6 ha6 c3 c4)]; exact rfl))
end

theorem all_mkH {l : PySem.W.OpenLaw} {w : World} {K : PySem.W.Frag} {h : Heap} {mg : Str → Option Value} {fa : Addr} (X : K.In h) (G : h.Ns mainGlobals mg) (hfa : mg "law" = some (.ref fa)) (c : He.SaysX fa_ fn_ [] tf_ ex_ w h K) : LamX.LawAtS l w K (L2.CX l.prog w) 7 63 "_law_script" mg fa h := by
  have B : Bt mg := ⟨He.free_ok X G (c.t.d.fact 0 (f := .free "abs") rfl), He.free_ok X G (c.t.d.fact 1 (f := .free "all") rfl), He.free_ok X G (c.t.d.fact 2 (f := .free "any") rfl), He.free_ok X G (c.t.d.fact 3 (f := .free "dict") rfl), He.free_ok X G (c.t.d.fact 4 (f := .free "enumerate") rfl), He.free_ok X G (c.t.d.fact 5 (f := .free "int") rfl), He.free_ok X G (c.t.d.fact 6 (f := .free "isinstance") rfl), He.free_ok X G (c.t.d.fact 7 (f := .free "len") rfl), He.free_ok X G (c.t.d.fact 8 (f := .free "list") rfl), He.free_ok X G (c.t.d.fact 9 (f := .free "max") rfl), He.free_ok X G (c.t.d.fact 10 (f := .free "min") rfl), He.free_ok X G (c.t.d.fact 11 (f := .free "range") rfl), He.free_ok X G (c.t.d.fact 12 (f := .free "sorted") rfl), He.free_ok X G (c.t.d.fact 13 (f := .free "str") rfl), He.free_ok X G (c.t.d.fact 14 (f := .free "sum") rfl), He.free_ok X G (c.t.d.fact 15 (f := .free "tuple") rfl), He.free_ok X G (c.t.d.fact 16 (f := .free "zip") rfl), He.free_ok X G (c.t.d.fact 17 (f := .free "bool") rfl), He.free_ok X G (c.t.d.fact 18 (f := .free "set") rfl)⟩
  obtain ⟨t_LETTERS, c_LETTERS⟩ := He.str_ok X G (c.t.d.fact 19 (f := .str "LETTERS" "abcdefghijklmnopqrstuvwxyz") rfl)
  obtain ⟨t_MOST_SIGNS, c_MOST_SIGNS⟩ := He.int_ok X G (c.t.d.fact 20 (f := .int "MOST_SIGNS" 3) rfl)
  obtain ⟨t_MOST_SYLLABLES, c_MOST_SYLLABLES⟩ := He.int_ok X G (c.t.d.fact 21 (f := .int "MOST_SYLLABLES" 8) rfl)
  obtain ⟨t_MOST_VERSES, c_MOST_VERSES⟩ := He.int_ok X G (c.t.d.fact 22 (f := .int "MOST_VERSES" 40) rfl)
  have z_BadBook := He.exc_ok (c.t.d.fact 23 (f := .exc "BadBook") rfl)
  have X_BadBook : Xc K mg "BadBook" (He.ga K "BadBook") := ⟨(He.glo_ok X G (c.t.d.fact 24 (f := .glo "BadBook") rfl)), z_BadBook.1, z_BadBook.2.1, z_BadBook.2.2.1, z_BadBook.2.2.2⟩
  obtain ⟨fd_BadVersed__initd_, F_BadVersed__initd_⟩ := c.t.d.def_ 0 (d := dd_BadVersed__initd_) rfl
  have F_BadVersed__initd_ : FunD K "__init__" "BadVerse.__init__" (defArgs s_BadVersed__initd_) (defBody s_BadVersed__initd_) (defScope s_BadVersed__initd_) [] [] (He.fAd K ("BadVerse", some "__init__")) fd_BadVersed__initd_ := F_BadVersed__initd_
  have z_BadVerse := xi_ok (x := "BadVerse") (ba c.more).1
  obtain ⟨fd_Aliked__initd_, F_Aliked__initd_⟩ := c.t.d.def_ 1 (d := dd_Aliked__initd_) rfl
  have F_Aliked__initd_ : FunD K "__init__" "Alike.__init__" (defArgs s_Aliked__initd_) (defBody s_Aliked__initd_) (defScope s_Aliked__initd_) [] [] (He.fAd K ("Alike", some "__init__")) fd_Aliked__initd_ := F_Aliked__initd_
  have z_Alike := xi_ok (x := "Alike") (ba (ba c.more).2).1
  have z_NoVerse := He.exc_ok (c.t.d.fact 30 (f := .exc "NoVerse") rfl)
  have X_NoVerse : Xc K mg "NoVerse" (He.ga K "NoVerse") := ⟨(He.glo_ok X G (c.t.d.fact 31 (f := .glo "NoVerse") rfl)), z_NoVerse.1, z_NoVerse.2.1, z_NoVerse.2.2.1, z_NoVerse.2.2.2⟩
  obtain ⟨fd_BadTextd__initd_, F_BadTextd__initd_⟩ := c.t.d.def_ 2 (d := dd_BadTextd__initd_) rfl
  have F_BadTextd__initd_ : FunD K "__init__" "BadText.__init__" (defArgs s_BadTextd__initd_) (defBody s_BadTextd__initd_) (defScope s_BadTextd__initd_) [] [] (He.fAd K ("BadText", some "__init__")) fd_BadTextd__initd_ := F_BadTextd__initd_
  have z_BadText := xi_ok (x := "BadText") (ba (ba (ba c.more).2).2).1
  have z_SnatchError := He.exc_ok (c.t.d.fact 34 (f := .exc "SnatchError") rfl)
  have X_SnatchError : Xc K mg "SnatchError" (He.ga K "SnatchError") := ⟨(He.glo_ok X G (c.t.d.fact 35 (f := .glo "SnatchError") rfl)), z_SnatchError.1, z_SnatchError.2.1, z_SnatchError.2.2.1, z_SnatchError.2.2.2⟩
  have XF_BadText := xf_ok (x := "BadText") (ba (ba (ba (ba c.more).2).2).2).1
  have XN_BadText_row := He.noat_ok (c.t.d.fact 33 (f := .noat "BadText" "row") rfl)
  have E_BadText_BadText : PySem.W.exmOne K (.ref (He.ga K "BadText")) (.ref (He.ga K "BadText")) = some true := He.exm_ok (c.t.d.fact 36 (f := .exm "BadText" "BadText" true) rfl)
  have T_Book : TBook K mg (He.ga K "Book") := ⟨He.cls_ok (c.t.d.fact 37 (f := .cls "Book") rfl), (He.glo_ok X G (c.t.d.fact 38 (f := .glo "Book") rfl)), He.noat_ok (c.t.d.fact 39 (f := .noat "Book" "lines") rfl)⟩
  obtain ⟨fd__law_numbers, F__law_numbers⟩ := c.t.d.def_ 3 (d := dd__law_numbers) rfl
  have F__law_numbers : FunD K "_law_numbers" "_law_numbers" (defArgs s__law_numbers) (defBody s__law_numbers) (defScope s__law_numbers) [] [] (He.fAd K ("_law_numbers", none)) fd__law_numbers := F__law_numbers
  have D__law_numbers : Df K mg "_law_numbers" s__law_numbers ["_law_script", "_law_many"] := ⟨He.fAd K ("_law_numbers", none), fd__law_numbers, (He.glo_ok X G (c.t.d.fact 40 (f := .glo "_law_numbers") rfl)), fun_ofD F__law_numbers, (FunD.bindsN (ps := ["_law_script", "_law_many"]) F__law_numbers fun _ _ _ _ _ _ us hl => match us, hl with | [_, _], _ => rfl)⟩
  obtain ⟨fd__law_same, F__law_same⟩ := c.t.d.def_ 4 (d := dd__law_same) rfl
  have F__law_same : FunD K "_law_same" "_law_same" (defArgs s__law_same) (defBody s__law_same) (defScope s__law_same) [] [] (He.fAd K ("_law_same", none)) fd__law_same := F__law_same
  have D__law_same : Df K mg "_law_same" s__law_same ["_law_found", "_law_due"] := ⟨He.fAd K ("_law_same", none), fd__law_same, (He.glo_ok X G (c.t.d.fact 41 (f := .glo "_law_same") rfl)), fun_ofD F__law_same, (FunD.bindsN (ps := ["_law_found", "_law_due"]) F__law_same fun _ _ _ _ _ _ us hl => match us, hl with | [_, _], _ => rfl)⟩
  obtain ⟨fd_is_syllable, F_is_syllable⟩ := c.t.d.def_ 5 (d := dd_is_syllable) rfl
  have F_is_syllable : FunD K "is_syllable" "is_syllable" (defArgs s_is_syllable) (defBody s_is_syllable) (defScope s_is_syllable) [] [] (He.fAd K ("is_syllable", none)) fd_is_syllable := F_is_syllable
  have D_is_syllable : Df K mg "is_syllable" s_is_syllable ["text"] := ⟨He.fAd K ("is_syllable", none), fd_is_syllable, (He.glo_ok X G (c.t.d.fact 42 (f := .glo "is_syllable") rfl)), fun_ofD F_is_syllable, (FunD.bindsN (ps := ["text"]) F_is_syllable fun _ _ _ _ _ _ us hl => match us, hl with | [_], _ => rfl)⟩
  obtain ⟨fd_is_verse, F_is_verse⟩ := c.t.d.def_ 6 (d := dd_is_verse) rfl
  have F_is_verse : FunD K "is_verse" "is_verse" (defArgs s_is_verse) (defBody s_is_verse) (defScope s_is_verse) [] [] (He.fAd K ("is_verse", none)) fd_is_verse := F_is_verse
  have D_is_verse : Df K mg "is_verse" s_is_verse ["line"] := ⟨He.fAd K ("is_verse", none), fd_is_verse, (He.glo_ok X G (c.t.d.fact 43 (f := .glo "is_verse") rfl)), fun_ofD F_is_verse, (FunD.bindsN (ps := ["line"]) F_is_verse fun _ _ _ _ _ _ us hl => match us, hl with | [_], _ => rfl)⟩
  obtain ⟨fd_begins, F_begins⟩ := c.t.d.def_ 7 (d := dd_begins) rfl
  have F_begins : FunD K "begins" "begins" (defArgs s_begins) (defBody s_begins) (defScope s_begins) [] [] (He.fAd K ("begins", none)) fd_begins := F_begins
  have D_begins : Df K mg "begins" s_begins ["heard", "line"] := ⟨He.fAd K ("begins", none), fd_begins, (He.glo_ok X G (c.t.d.fact 44 (f := .glo "begins") rfl)), fun_ofD F_begins, (FunD.bindsN (ps := ["heard", "line"]) F_begins fun _ _ _ _ _ _ us hl => match us, hl with | [_, _], _ => rfl)⟩
  obtain ⟨fd_alike, F_alike⟩ := c.t.d.def_ 8 (d := dd_alike) rfl
  have F_alike : FunD K "alike" "alike" (defArgs s_alike) (defBody s_alike) (defScope s_alike) [] [] (He.fAd K ("alike", none)) fd_alike := F_alike
  have D_alike : Df K mg "alike" s_alike ["one", "other"] := ⟨He.fAd K ("alike", none), fd_alike, (He.glo_ok X G (c.t.d.fact 45 (f := .glo "alike") rfl)), fun_ofD F_alike, (FunD.bindsN (ps := ["one", "other"]) F_alike fun _ _ _ _ _ _ us hl => match us, hl with | [_, _], _ => rfl)⟩
  obtain ⟨fd_need_verses, F_need_verses⟩ := c.t.d.def_ 9 (d := dd_need_verses) rfl
  have F_need_verses : FunD K "need_verses" "need_verses" (defArgs s_need_verses) (defBody s_need_verses) (defScope s_need_verses) [] [] (He.fAd K ("need_verses", none)) fd_need_verses := F_need_verses
  have D_need_verses : Df K mg "need_verses" s_need_verses ["verses"] := ⟨He.fAd K ("need_verses", none), fd_need_verses, (He.glo_ok X G (c.t.d.fact 46 (f := .glo "need_verses") rfl)), fun_ofD F_need_verses, (FunD.bindsN (ps := ["verses"]) F_need_verses fun _ _ _ _ _ _ us hl => match us, hl with | [_], _ => rfl)⟩
  obtain ⟨fd_Bookd__initd_, F_Bookd__initd_⟩ := c.t.d.def_ 10 (d := dd_Bookd__initd_) rfl
  have F_Bookd__initd_ : FunD K "__init__" "Book.__init__" (defArgs s_Bookd__initd_) (defBody s_Bookd__initd_) (defScope s_Bookd__initd_) [] [] (He.fAd K ("Book", some "__init__")) fd_Bookd__initd_ := F_Bookd__initd_
  have D_Bookd__initd_ : Dm K (He.ga K "Book") "__init__" "Book.__init__" s_Bookd__initd_ ["self", "verses"] := ⟨T_Book.cl, He.fAd K ("Book", some "__init__"), fd_Bookd__initd_, He.meth_ok (c.t.d.fact 47 (f := .meth "Book" "__init__") rfl), fun_ofD F_Bookd__initd_, (FunD.bindsN (ps := ["self", "verses"]) F_Bookd__initd_ fun _ _ _ _ _ _ us hl => match us, hl with | [_, _], _ => rfl)⟩
  obtain ⟨fd_Book_many, F_Book_many⟩ := c.t.d.def_ 11 (d := dd_Book_many) rfl
  have F_Book_many : FunD K "many" "Book.many" (defArgs s_Book_many) (defBody s_Book_many) (defScope s_Book_many) [] [] (He.fAd K ("Book", some "many")) fd_Book_many := F_Book_many
  have D_Book_many : Dm K (He.ga K "Book") "many" "Book.many" s_Book_many ["self"] := ⟨T_Book.cl, He.fAd K ("Book", some "many"), fd_Book_many, He.meth_ok (c.t.d.fact 48 (f := .meth "Book" "many") rfl), fun_ofD F_Book_many, (FunD.bindsN (ps := ["self"]) F_Book_many fun _ _ _ _ _ _ us hl => match us, hl with | [_], _ => rfl)⟩
  obtain ⟨fd_Book_verse, F_Book_verse⟩ := c.t.d.def_ 12 (d := dd_Book_verse) rfl
  have F_Book_verse : FunD K "verse" "Book.verse" (defArgs s_Book_verse) (defBody s_Book_verse) (defScope s_Book_verse) [] [] (He.fAd K ("Book", some "verse")) fd_Book_verse := F_Book_verse
  have D_Book_verse : Dm K (He.ga K "Book") "verse" "Book.verse" s_Book_verse ["self", "number"] := ⟨T_Book.cl, He.fAd K ("Book", some "verse"), fd_Book_verse, He.meth_ok (c.t.d.fact 49 (f := .meth "Book" "verse") rfl), fun_ofD F_Book_verse, (FunD.bindsN (ps := ["self", "number"]) F_Book_verse fun _ _ _ _ _ _ us hl => match us, hl with | [_, _], _ => rfl)⟩
  obtain ⟨fd_Book_verses, F_Book_verses⟩ := c.t.d.def_ 13 (d := dd_Book_verses) rfl
  have F_Book_verses : FunD K "verses" "Book.verses" (defArgs s_Book_verses) (defBody s_Book_verses) (defScope s_Book_verses) [] [] (He.fAd K ("Book", some "verses")) fd_Book_verses := F_Book_verses
  have D_Book_verses : Dm K (He.ga K "Book") "verses" "Book.verses" s_Book_verses ["self"] := ⟨T_Book.cl, He.fAd K ("Book", some "verses"), fd_Book_verses, He.meth_ok (c.t.d.fact 50 (f := .meth "Book" "verses") rfl), fun_ofD F_Book_verses, (FunD.bindsN (ps := ["self"]) F_Book_verses fun _ _ _ _ _ _ us hl => match us, hl with | [_], _ => rfl)⟩
  obtain ⟨fd__law_sound, F__law_sound⟩ := c.t.d.def_ 14 (d := dd__law_sound) rfl
  have F__law_sound : FunD K "_law_sound" "_law_sound" (defArgs s__law_sound) (defBody s__law_sound) (defScope s__law_sound) [] [] (He.fAd K ("_law_sound", none)) fd__law_sound := F__law_sound
  have D__law_sound : Df K mg "_law_sound" s__law_sound ["_law_number"] := ⟨He.fAd K ("_law_sound", none), fd__law_sound, (He.glo_ok X G (c.t.d.fact 51 (f := .glo "_law_sound") rfl)), fun_ofD F__law_sound, (FunD.bindsN (ps := ["_law_number"]) F__law_sound fun _ _ _ _ _ _ us hl => match us, hl with | [_], _ => rfl)⟩
  obtain ⟨fd__law_pool, F__law_pool⟩ := c.t.d.def_ 15 (d := dd__law_pool) rfl
  have F__law_pool : FunD K "_law_pool" "_law_pool" (defArgs s__law_pool) (defBody s__law_pool) (defScope s__law_pool) [] [] (He.fAd K ("_law_pool", none)) fd__law_pool := F__law_pool
  have D__law_pool : Df K mg "_law_pool" s__law_pool ["_law_d"] := ⟨He.fAd K ("_law_pool", none), fd__law_pool, (He.glo_ok X G (c.t.d.fact 52 (f := .glo "_law_pool") rfl)), fun_ofD F__law_pool, (FunD.bindsN (ps := ["_law_d"]) F__law_pool fun _ _ _ _ _ _ us hl => match us, hl with | [_], _ => rfl)⟩
  obtain ⟨fd__law_alike, F__law_alike⟩ := c.t.d.def_ 16 (d := dd__law_alike) rfl
  have F__law_alike : FunD K "_law_alike" "_law_alike" (defArgs s__law_alike) (defBody s__law_alike) (defScope s__law_alike) [] [] (He.fAd K ("_law_alike", none)) fd__law_alike := F__law_alike
  have D__law_alike : Df K mg "_law_alike" s__law_alike ["_law_one", "_law_other"] := ⟨He.fAd K ("_law_alike", none), fd__law_alike, (He.glo_ok X G (c.t.d.fact 53 (f := .glo "_law_alike") rfl)), fun_ofD F__law_alike, (FunD.bindsN (ps := ["_law_one", "_law_other"]) F__law_alike fun _ _ _ _ _ _ us hl => match us, hl with | [_, _], _ => rfl)⟩
  obtain ⟨fd__law_verse, F__law_verse⟩ := c.t.d.def_ 17 (d := dd__law_verse) rfl
  have F__law_verse : FunD K "_law_verse" "_law_verse" (defArgs s__law_verse) (defBody s__law_verse) (defScope s__law_verse) [] [] (He.fAd K ("_law_verse", none)) fd__law_verse := F__law_verse
  have D__law_verse : Df K mg "_law_verse" s__law_verse ["_law_verses", "_law_pool_here", "_law_d"] := ⟨He.fAd K ("_law_verse", none), fd__law_verse, (He.glo_ok X G (c.t.d.fact 54 (f := .glo "_law_verse") rfl)), fun_ofD F__law_verse, (FunD.bindsN (ps := ["_law_verses", "_law_pool_here", "_law_d"]) F__law_verse fun _ _ _ _ _ _ us hl => match us, hl with | [_, _, _], _ => rfl)⟩
  obtain ⟨fd__law_wide, F__law_wide⟩ := c.t.d.def_ 18 (d := dd__law_wide) rfl
  have F__law_wide : FunD K "_law_wide" "_law_wide" (defArgs s__law_wide) (defBody s__law_wide) (defScope s__law_wide) [] [] (He.fAd K ("_law_wide", none)) fd__law_wide := F__law_wide
  have D__law_wide : Df K mg "_law_wide" s__law_wide ["_law_d", "_law_size"] := ⟨He.fAd K ("_law_wide", none), fd__law_wide, (He.glo_ok X G (c.t.d.fact 55 (f := .glo "_law_wide") rfl)), fun_ofD F__law_wide, (FunD.bindsN (ps := ["_law_d", "_law_size"]) F__law_wide fun _ _ _ _ _ _ us hl => match us, hl with | [_, _], _ => rfl)⟩
  obtain ⟨fd__law_book, F__law_book⟩ := c.t.d.def_ 19 (d := dd__law_book) rfl
  have F__law_book : FunD K "_law_book" "_law_book" (defArgs s__law_book) (defBody s__law_book) (defScope s__law_book) [] [] (He.fAd K ("_law_book", none)) fd__law_book := F__law_book
  have D__law_book : Df K mg "_law_book" s__law_book ["_law_d", "_law_most"] := ⟨He.fAd K ("_law_book", none), fd__law_book, (He.glo_ok X G (c.t.d.fact 56 (f := .glo "_law_book") rfl)), fun_ofD F__law_book, (FunD.bindsN (ps := ["_law_d", "_law_most"]) F__law_book fun _ _ _ _ _ _ us hl => match us, hl with | [_, _], _ => rfl)⟩
  obtain ⟨fd__law_book_told, F__law_book_told⟩ := c.t.d.def_ 20 (d := dd__law_book_told) rfl
  have F__law_book_told : FunD K "_law_book_told" "_law_book_told" (defArgs s__law_book_told) (defBody s__law_book_told) (defScope s__law_book_told) [] [] (He.fAd K ("_law_book_told", none)) fd__law_book_told := F__law_book_told
  have D__law_book_told : Df K mg "_law_book_told" s__law_book_told ["_law_book_here", "_law_verses"] := ⟨He.fAd K ("_law_book_told", none), fd__law_book_told, (He.glo_ok X G (c.t.d.fact 57 (f := .glo "_law_book_told") rfl)), fun_ofD F__law_book_told, (FunD.bindsN (ps := ["_law_book_here", "_law_verses"]) F__law_book_told fun _ _ _ _ _ _ us hl => match us, hl with | [_, _], _ => rfl)⟩
  obtain ⟨fd__law_is_line, F__law_is_line⟩ := c.t.d.def_ 21 (d := dd__law_is_line) rfl
  have F__law_is_line : FunD K "_law_is_line" "_law_is_line" (defArgs s__law_is_line) (defBody s__law_is_line) (defScope s__law_is_line) [] [] (He.fAd K ("_law_is_line", none)) fd__law_is_line := F__law_is_line
  have D__law_is_line : Df K mg "_law_is_line" s__law_is_line ["_law_line"] := ⟨He.fAd K ("_law_is_line", none), fd__law_is_line, (He.glo_ok X G (c.t.d.fact 58 (f := .glo "_law_is_line") rfl)), fun_ofD F__law_is_line, (FunD.bindsN (ps := ["_law_line"]) F__law_is_line fun _ _ _ _ _ _ us hl => match us, hl with | [_], _ => rfl)⟩
  obtain ⟨fd__law_copy, F__law_copy⟩ := c.t.d.def_ 22 (d := dd__law_copy) rfl
  have F__law_copy : FunD K "_law_copy" "_law_copy" (defArgs s__law_copy) (defBody s__law_copy) (defScope s__law_copy) [] [] (He.fAd K ("_law_copy", none)) fd__law_copy := F__law_copy
  have D__law_copy : Df K mg "_law_copy" s__law_copy ["_law_rows"] := ⟨He.fAd K ("_law_copy", none), fd__law_copy, (He.glo_ok X G (c.t.d.fact 59 (f := .glo "_law_copy") rfl)), fun_ofD F__law_copy, (FunD.bindsN (ps := ["_law_rows"]) F__law_copy fun _ _ _ _ _ _ us hl => match us, hl with | [_], _ => rfl)⟩
  obtain ⟨fd_book_text, F_book_text⟩ := c.t.d.def_ 23 (d := dd_book_text) rfl
  have F_book_text : FunD K "book_text" "book_text" (defArgs s_book_text) (defBody s_book_text) (defScope s_book_text) [] [] (He.fAd K ("book_text", none)) fd_book_text := F_book_text
  have D_book_text : Df K mg "book_text" s_book_text ["book"] := ⟨He.fAd K ("book_text", none), fd_book_text, (He.glo_ok X G (c.t.d.fact 60 (f := .glo "book_text") rfl)), fun_ofD F_book_text, (FunD.bindsN (ps := ["book"]) F_book_text fun _ _ _ _ _ _ us hl => match us, hl with | [_], _ => rfl)⟩
  obtain ⟨fd_is_next, F_is_next⟩ := c.t.d.def_ 24 (d := dd_is_next) rfl
  have F_is_next : FunD K "is_next" "is_next" (defArgs s_is_next) (defBody s_is_next) (defScope s_is_next) [] [] (He.fAd K ("is_next", none)) fd_is_next := F_is_next
  have D_is_next : Df K mg "is_next" s_is_next ["verses", "line"] := ⟨He.fAd K ("is_next", none), fd_is_next, (He.glo_ok X G (c.t.d.fact 61 (f := .glo "is_next") rfl)), fun_ofD F_is_next, (FunD.bindsN (ps := ["verses", "line"]) F_is_next fun _ _ _ _ _ _ us hl => match us, hl with | [_, _], _ => rfl)⟩
  obtain ⟨fd_read_book, F_read_book⟩ := c.t.d.def_ 25 (d := dd_read_book) rfl
  have F_read_book : FunD K "read_book" "read_book" (defArgs s_read_book) (defBody s_read_book) (defScope s_read_book) [] [] (He.fAd K ("read_book", none)) fd_read_book := F_read_book
  have D_read_book : Df K mg "read_book" s_read_book ["text"] := ⟨He.fAd K ("read_book", none), fd_read_book, (He.glo_ok X G (c.t.d.fact 62 (f := .glo "read_book") rfl)), fun_ofD F_read_book, (FunD.bindsN (ps := ["text"]) F_read_book fun _ _ _ _ _ _ us hl => match us, hl with | [_], _ => rfl)⟩
  obtain ⟨fd__law_book_rows, F__law_book_rows⟩ := c.t.d.def_ 26 (d := dd__law_book_rows) rfl
  have F__law_book_rows : FunD K "_law_book_rows" "_law_book_rows" (defArgs s__law_book_rows) (defBody s__law_book_rows) (defScope s__law_book_rows) [] [] (He.fAd K ("_law_book_rows", none)) fd__law_book_rows := F__law_book_rows
  have D__law_book_rows : Df K mg "_law_book_rows" s__law_book_rows ["_law_verses"] := ⟨He.fAd K ("_law_book_rows", none), fd__law_book_rows, (He.glo_ok X G (c.t.d.fact 63 (f := .glo "_law_book_rows") rfl)), fun_ofD F__law_book_rows, (FunD.bindsN (ps := ["_law_verses"]) F__law_book_rows fun _ _ _ _ _ _ us hl => match us, hl with | [_], _ => rfl)⟩
  obtain ⟨fd__law_first_bad, F__law_first_bad⟩ := c.t.d.def_ 27 (d := dd__law_first_bad) rfl
  have F__law_first_bad : FunD K "_law_first_bad" "_law_first_bad" (defArgs s__law_first_bad) (defBody s__law_first_bad) (defScope s__law_first_bad) [] [] (He.fAd K ("_law_first_bad", none)) fd__law_first_bad := F__law_first_bad
  have D__law_first_bad : Df K mg "_law_first_bad" s__law_first_bad ["_law_rows"] := ⟨He.fAd K ("_law_first_bad", none), fd__law_first_bad, (He.glo_ok X G (c.t.d.fact 64 (f := .glo "_law_first_bad") rfl)), fun_ofD F__law_first_bad, (FunD.bindsN (ps := ["_law_rows"]) F__law_first_bad fun _ _ _ _ _ _ us hl => match us, hl with | [_], _ => rfl)⟩
  obtain ⟨fd__law_spoilt_rows, F__law_spoilt_rows⟩ := c.t.d.def_ 28 (d := dd__law_spoilt_rows) rfl
  have F__law_spoilt_rows : FunD K "_law_spoilt_rows" "_law_spoilt_rows" (defArgs s__law_spoilt_rows) (defBody s__law_spoilt_rows) (defScope s__law_spoilt_rows) [] [] (He.fAd K ("_law_spoilt_rows", none)) fd__law_spoilt_rows := F__law_spoilt_rows
  have D__law_spoilt_rows : Df K mg "_law_spoilt_rows" s__law_spoilt_rows ["_law_rows", "_law_d"] := ⟨He.fAd K ("_law_spoilt_rows", none), fd__law_spoilt_rows, (He.glo_ok X G (c.t.d.fact 65 (f := .glo "_law_spoilt_rows") rfl)), fun_ofD F__law_spoilt_rows, (FunD.bindsN (ps := ["_law_rows", "_law_d"]) F__law_spoilt_rows fun _ _ _ _ _ _ us hl => match us, hl with | [_, _], _ => rfl)⟩
  obtain ⟨fd_law, F_law⟩ := c.t.d.def_ 29 (d := dd_law) rfl
  have F_law : FunD K "law" "law" (defArgs s_law) (defBody s_law) (defScope s_law) [] [] (He.fAd K ("law", none)) fd_law := F_law
  have D_law : Df K mg "law" s_law ["_law_script"] := ⟨He.fAd K ("law", none), fd_law, (He.glo_ok X G (c.t.d.fact 66 (f := .glo "law") rfl)), fun_ofD F_law, (FunD.bindsN (ps := ["_law_script"]) F_law fun _ _ _ _ _ _ us hl => match us, hl with | [_], _ => rfl)⟩
  have e := hfa.symm.trans (He.glo_ok X G (c.t.d.fact 66 (f := .glo "law") rfl))
  cases e
  refine ⟨fd_law, [], spLaw K, (fun _ h => nomatch h), (fun _ h => nomatch h), (fun _ h => nomatch h), fun s v => FunD.bindsA (ps := ["_law_script"]) F_law (fun _ _ _ _ _ _ us hl => match us, hl with | [_], _ => rfl) s [v] rfl, fun H a ns hl _ _ hS => ⟨a, ns, rfl, hS, hl, fun _ => rfl⟩, fun base _ _ _ => ?_⟩
  have X_BadVerse : Xi l.prog w K mg base "BadVerse" (He.ga K "BadVerse") ["row"] := ⟨(He.glo_ok X G (c.t.d.fact 25 (f := .glo "BadVerse") rfl)), z_BadVerse.1, _, fd_BadVersed__initd_, ["self", "row"], z_BadVerse.2.1, z_BadVerse.2.2, (FunD.bindsN (ps := ["self", "row"]) F_BadVersed__initd_ fun _ _ _ _ _ _ us hl => match us, hl with | [_, _], _ => rfl), okx_BadVerse z_BadVerse.1 (He.noat_ok (c.t.d.fact 26 (f := .noat "BadVerse" "row") rfl)) (fun_ofD F_BadVersed__initd_)⟩
  have X_Alike : Xi l.prog w K mg base "Alike" (He.ga K "Alike") ["one", "other"] := ⟨(He.glo_ok X G (c.t.d.fact 27 (f := .glo "Alike") rfl)), z_Alike.1, _, fd_Aliked__initd_, ["self", "one", "other"], z_Alike.2.1, z_Alike.2.2, (FunD.bindsN (ps := ["self", "one", "other"]) F_Aliked__initd_ fun _ _ _ _ _ _ us hl => match us, hl with | [_, _, _], _ => rfl), okx_Alike z_Alike.1 (He.noat_ok (c.t.d.fact 28 (f := .noat "Alike" "one") rfl)) (He.noat_ok (c.t.d.fact 29 (f := .noat "Alike" "other") rfl)) (fun_ofD F_Aliked__initd_)⟩
  have X_BadText : Xi l.prog w K mg base "BadText" (He.ga K "BadText") ["row"] := ⟨(He.glo_ok X G (c.t.d.fact 32 (f := .glo "BadText") rfl)), z_BadText.1, _, fd_BadTextd__initd_, ["self", "row"], z_BadText.2.1, z_BadText.2.2, (FunD.bindsN (ps := ["self", "row"]) F_BadTextd__initd_ fun _ _ _ _ _ _ us hl => match us, hl with | [_, _], _ => rfl), okx_BadText z_BadText.1 (He.noat_ok (c.t.d.fact 33 (f := .noat "BadText" "row") rfl)) (fun_ofD F_BadTextd__initd_)⟩
  have O__law_numbers := ok__law_numbers (P := l.prog) (w := w) (base := base) B D__law_numbers
  have O__law_same := ok__law_same (P := l.prog) (w := w) (base := base) B D__law_same
  have O_is_syllable := ok_is_syllable (P := l.prog) (w := w) (base := base) B c_LETTERS c_MOST_SIGNS D_is_syllable
  have O_is_verse := ok_is_verse (P := l.prog) (w := w) (base := base) B c_MOST_SYLLABLES O_is_syllable D_is_verse
  have O_begins := ok_begins (P := l.prog) (w := w) (base := base) B D_begins
  have O_alike := ok_alike (P := l.prog) (w := w) (base := base) B O_begins D_alike
  have O_need_verses := ok_need_verses (P := l.prog) (w := w) (base := base) (C_BadBook := (He.ga K "BadBook")) (C_BadVerse := (He.ga K "BadVerse")) (C_Alike := (He.ga K "Alike")) B c_MOST_VERSES X_BadBook X_BadVerse X_Alike O_is_verse O_alike D_need_verses
  have O_Bookd__initd_ := ok_Bookd__initd_ (P := l.prog) (w := w) (base := base) (C_Book := (He.ga K "Book")) B T_Book O_need_verses D_Bookd__initd_
  have O_Book := O_Bookd__initd_.make (He.glo_ok X G (c.t.d.fact 38 (f := .glo "Book") rfl)) (mkr_ok (c.t.d.fact 67 (f := .mkr "Book") rfl)).1 (mkr_ok (c.t.d.fact 67 (f := .mkr "Book") rfl)).2
  have O_Book_many := ok_Book_many (P := l.prog) (w := w) (base := base) (C_Book := (He.ga K "Book")) B T_Book D_Book_many
  have O_Book_verse := ok_Book_verse (P := l.prog) (w := w) (base := base) (C_Book := (He.ga K "Book")) (C_NoVerse := (He.ga K "NoVerse")) B T_Book X_NoVerse D_Book_verse
  have O_Book_verses := ok_Book_verses (P := l.prog) (w := w) (base := base) (C_Book := (He.ga K "Book")) B T_Book D_Book_verses
  have O__law_sound := ok__law_sound (P := l.prog) (w := w) (base := base) B D__law_sound
  have O__law_pool := ok__law_pool (P := l.prog) (w := w) (base := base) B O__law_sound D__law_pool
  have O__law_alike := ok__law_alike (P := l.prog) (w := w) (base := base) B D__law_alike
  have O__law_verse := ok__law_verse (P := l.prog) (w := w) (base := base) B D__law_verse
  have O__law_wide := ok__law_wide (P := l.prog) (w := w) (base := base) B D__law_wide
  have O__law_book := ok__law_book (P := l.prog) (w := w) (base := base) B O__law_pool O__law_verse O__law_wide O__law_alike D__law_book
  have O__law_book_told := ok__law_book_told (P := l.prog) (w := w) (base := base) (C_Book := (He.ga K "Book")) B O_Book_many O_Book_verse O_Book_verses O__law_same D__law_book_told
  have O__law_is_line := ok__law_is_line (P := l.prog) (w := w) (base := base) B D__law_is_line
  have O__law_copy := ok__law_copy (P := l.prog) (w := w) (base := base) B D__law_copy
  have O_book_text := ok_book_text (P := l.prog) (w := w) (base := base) (C_Book := (He.ga K "Book")) B O_Book_verses D_book_text
  have O_is_next := ok_is_next (P := l.prog) (w := w) (base := base) B c_MOST_VERSES O_alike O_is_verse D_is_next
  have O_read_book := ok_read_book (P := l.prog) (w := w) (base := base) (C_BadText := (He.ga K "BadText")) (C_Book := (He.ga K "Book")) B X_BadText O_Book O_is_next D_read_book
  have O__law_book_rows := ok__law_book_rows (P := l.prog) (w := w) (base := base) B D__law_book_rows
  have O__law_first_bad := ok__law_first_bad (P := l.prog) (w := w) (base := base) B O__law_alike O__law_is_line D__law_first_bad
  have O__law_spoilt_rows := ok__law_spoilt_rows (P := l.prog) (w := w) (base := base) B D__law_spoilt_rows
  have O_law := ok_law (P := l.prog) (w := w) (base := base) (C_BadText := (He.ga K "BadText")) (C_BadVerse := (He.ga K "BadVerse")) (C_Book := (He.ga K "Book")) (C_SnatchError := (He.ga K "SnatchError")) B X_SnatchError X_BadText X_BadVerse E_BadText_BadText XF_BadText XN_BadText_row O_Book O__law_book O__law_book_rows O__law_book_told O__law_copy O__law_first_bad O__law_numbers O__law_same O__law_spoilt_rows O_book_text O_read_book D_law
  exact Ok.fn O_law (He.glo_ok X G (c.t.d.fact 66 (f := .glo "law") rfl)) (fun_ofD F_law)
end Kj
open PySem PySem.W PySem.Calls PyProof.Rows
set_option maxHeartbeats 0 in
theorem PySem.Challenge.cw_kimariji_k56_books_written_and_read_holds : PySem.Challenge.rw_kimariji_k56_books_written_and_read.Holds := by
  w_on; o_law
  refine HandSHeadRun.head_any (r := OpenLaw.row PySem.Challenge.rw_kimariji_k56_books_written_and_read) (q := view (OpenLaw.row PySem.Challenge.rw_kimariji_k56_books_written_and_read).prog [37]) (H := Kj.hk_) (ob := Kj.ob_) (M := 12000) (loose := Kj.nm_) (d := HandSHeadRun.topDef (OpenLaw.row PySem.Challenge.rw_kimariji_k56_books_written_and_read).prog 37) (kwd := []) Kj.ob_eq
    (by kernel_rfl) (fun s => by kernel_rfl) Kj.run_ (by kernel_rfl) (by kernel_rfl) (by kernel_rfl) (by rfl) (by first | assumption | decide +kernel) (by decide +kernel) ⟨rfl, rfl, rfl, rfl, rfl, by decide +kernel⟩ ?hw ?hc
  case hw => w_witness2
  case hc =>
    refine LamX.walk_ofTsE (l := PySem.Challenge.rw_kimariji_k56_books_written_and_read) (n := 63) (k := 7) (x := "_law_script") (CX := fun w => L2.CX PySem.Challenge.rw_kimariji_k56_books_written_and_read.prog w) rfl (by decide) (by kernel_rfl) ⟨rfl, by decide, by decide⟩ ?F (fun _ _ _ _ _ z => Kj.cx_none z)
    intro w mg fa h Y G hmg0
    obtain ⟨K, KX, c⟩ := Y
    have hmg : mg ("law" : PySem.Str) = some (.ref fa) := by
      have e : (HandSHeadRun.topDef (OpenLaw.row PySem.Challenge.rw_kimariji_k56_books_written_and_read).prog 37).name = ("law" : PySem.Str) := by kernel_rfl
      rw [← e]
      exact hmg0
    exact ⟨K, KX, Kj.all_mkH KX G hmg c⟩
#print axioms PySem.Challenge.cw_kimariji_k56_books_written_and_read_holds
