import PyProof.Rows.All
import Wide.All
import OpenK.AllK
import Wide.FinOn
import PySem.Challenge.RW_kimariji_k63_books_refused_at_a_hall
import HandS.ForMost
import HandS.ForExc
import HandS.Evl
import HandS.Wide
import HandS.IsInst
import HandS.TryMany
import HandS.TryOnly
import HandS.SortInts
import HandS.Deep
import HandS.RaiseMore
import HandS.Conv
import HandS.Zip
import HandS.ExcInit
import HandS.ExcField
import HandS.TupAny
import HandS.Style
import HandS.SortKw
import KE.DatumOrd
import KE.KDictZip
import KE.KItemsList
import HandS.ListItems
import HandS.SetFor
import HandS.DictTup
import HandS.Strs
import HandS.Dict
import HandS.Lambda
import HandS.Defaults
import HandS.Head0
import HandS.Head1
import HandS.Head2
import HandS.HeadEnd
import HandS.HeadHook1
import HandS.HeadHook2
import HandS.HeadHook3
import HandS.HeadHook4
import HandS.HeadWalk
import HandS.ExcIs
import HandS.DeepEq
import PyProof.EqAt
import HandS.WordsDict
set_option Elab.async false
set_option linter.all false
set_option maxRecDepth 100000
set_option maxHeartbeats 2000000
/-! Kj0: one rule a construct, whatever the kinds of its values; defs, methods and classes by their promises alone. -/
namespace Kj
open PySem PySem.Spec PyProof.Rows L2 Evl
/-! ### operators, whatever the kinds -/
section
variable {X : Cx}
def rAddS : R2 := fun x y H Q => ∃ i j, x = .str i ∧ y = .str j ∧ i.length + j.length ≤ sizeLine ∧ Q (.str (i ++ j)) H
def rAddU (K : PySem.W.Frag) : R2 := fun x y H Q => (rI0 (fun i j => .int (i + j)) x y H Q ∨ rAddS x y H Q) ∨ (rCat x y H Q ∨ rCatT K x y H Q)
theorem op_addU : OpR X (binaryOp .Add) (rAddU X.K) := (OpR.or op_add op_add_str).or (OpR.or op_cat op_catT)
def rMulS : R2 := fun x y H Q => ∃ a n, x = .str a ∧ y = .int n ∧ MulOk a n ∧ Q (.str (Txt.mul a n)) H
theorem op_mulS : OpR X (binaryOp .Mult) rMulS := by
  intro pins s σ H x y v u Q I rx ry h
  obtain ⟨a, n, rfl, rfl, hc, q⟩ := h
  obtain ⟨t, rfl⟩ := rx
  obtain ⟨t', rfl⟩ := ry
  exact SB.mul hc fun t' k => ⟨.str (Txt.mul a n), H, I.tok _, ⟨_, rfl⟩, q⟩
def rMulU : R2 := fun x y H Q => (rI CMulW (fun i j => .int (i * j)) x y H Q ∨ rRep x y H Q) ∨ rMulS x y H Q
theorem op_mulU : OpR X (binaryOp .Mult) rMulU := (OpR.or op_mulW op_rep).or op_mulS
def rEqU (K : PySem.W.Frag) : R2 := fun x y H Q => rEq x y H Q ∨ rEqD K x y H Q
def rNeU (K : PySem.W.Frag) : R2 := fun x y H Q => rNe x y H Q ∨ rNeD K x y H Q
theorem op_eqU (hu : X.A.units + 65 < cLine) : OpR X (compareOp .Eq) (rEqU X.K) := OpR.or op_eq (op_eqD (by omega))
theorem op_neU (hu : X.A.units + 65 < cLine) : OpR X (compareOp .NotEq) (rNeU X.K) := OpR.or op_ne (op_neD (by omega))
def rSign : R2 := fun x y H Q => ∃ (c : Nat) (z : Str), x = .str ⟨#[c]⟩ ∧ y = .str z ∧ Q (.bl (decide (c ∈ z.cps.toList))) H
def rInU (K : PySem.W.Frag) : R2 := fun x y H Q => (rIn K false x y H Q ∨ rSign x y H Q) ∨ rInD K x y H Q
theorem op_inU (hu : X.A.units + 65 < cLine) : OpR X (compareOp .In) (rInU X.K) := (OpR.or op_in_seq op_in_sign).or (op_inD hu)
def rSlU (K : PySem.W.Frag) : V → Option Int → Option Int → Hp → VK → Prop := fun x lo hi H Q => (rSlL K x lo hi H Q ∨ rSlA K x lo hi H Q) ∨ rSlS x lo hi H Q
theorem sl_U : SlR X (rSlU X.K) := (SlR.or sl_list sl_tupA).or sl_str
def rLenU (K : PySem.W.Frag) : List V → Hp → VK → Prop := fun xs H Q => rLenS K xs H Q ∨ ∃ z, xs = [V.str z] ∧ z.length ≤ sizeLine ∧ Q (.int z.length) H
theorem call_lenU : CallR X (.builtin "len") (rLenU X.K) := CallR.or call_len_seq call_len_str
end
/-! ### the same, the written part told by name (a try's body and a comprehension's block have contexts of their own) -/
section
variable {X : Cx} (K : PySem.W.Frag)
theorem k_op {f : Value → Value → Sem Value} {r : PySem.W.Frag → R2} (h : OpR X f (r X.K)) (hK : X.K = K) : OpR X f (r K) := hK ▸ h
theorem op_addK (hK : X.K = K := by rfl) : OpR X (binaryOp .Add) (rAddU K) := k_op K op_addU hK
theorem op_eqK (hu : X.A.units + 65 < cLine) (hK : X.K = K := by rfl) : OpR X (compareOp .Eq) (rEqU K) := k_op K (op_eqU hu) hK
theorem op_neK (hu : X.A.units + 65 < cLine) (hK : X.K = K := by rfl) : OpR X (compareOp .NotEq) (rNeU K) := k_op K (op_neU hu) hK
theorem op_inK (hu : X.A.units + 65 < cLine) (hK : X.K = K := by rfl) : OpR X (compareOp .In) (rInU K) := k_op K (op_inU hu) hK
theorem ix_seqK (hK : X.K = K := by rfl) : IxR X (rIx K) := by subst hK; exact ix_seq
theorem sl_K (hK : X.K = K := by rfl) : SlR X (rSlU K) := by subst hK; exact sl_U
theorem call_lenK (hK : X.K = K := by rfl) : CallR X (.builtin "len") (rLenU K) := by subst hK; exact call_lenU
theorem cr_allK (hc : X.calm = true) (hK : X.K = K := by rfl) : CallR X (.builtin "all") (rAll K) := by subst hK; exact cr_all hc
def rIsiU (K : PySem.W.Frag) : List V → Hp → VK → Prop := fun xs H Q => rIsi K xs H Q ∨ rIsiT K xs H Q
theorem call_isiK' (hK : X.K = K := by rfl) : CallR X (.builtin "isinstance") (rIsiU K) := by subst hK; exact CallR.or call_isi call_isiT
theorem call_listK (hK : X.K = K := by rfl) : CallR X (.type "list") (rListS K) := by subst hK; exact call_list_of
def rJoin (K : PySem.W.Frag) : V → List V → Hp → VK → Prop := fun x xs H Q => ∃ a p, ∃ ys : List Str, x = .str a ∧ xs = [.ref p] ∧ (SqL K H p (ys.map V.str) ∨ SqT K H p (ys.map V.str)) ∧ (ys.map (·.length)).sum + ys.length * a.length ≤ 16777216 ∧ Q (.str (Txt.join a ys)) H
theorem mt_joinK (hK : X.K = K := by rfl) : MtR X "str.join" (rJoin K) := by subst hK; exact mt_join
theorem pi_listK {tg l : Expr} {tl : TE} (hl : PE X l tl) (hK : X.K = K := by rfl) : PI X tg l (iList K tl) := by subst hK; exact pi_list hl
theorem pi_enumK {e : Expr} {ta : TA} {p pos tpos : Pos} {elts : List Expr} {kk : Nat} (hg : Gl X "enumerate") (hm : X.mg "enumerate" = none) (ha : PA X [e] ta) (hs : starEach [e] X.env = [(false, eval e X.env)] := by rfl) (hK : X.K = K := by rfl) :
    PI X (.Tuple elts kk tpos) (.Call (.Name "enumerate" p) [e] [] pos) (iEnum K ta) := by subst hK; exact pi_enum hg hm ha hs
theorem pi_zipK {e e2 : Expr} {ta : TA} {p pos tpos : Pos} {elts : List Expr} {kk : Nat} (hg : Gl X "zip") (hm : X.mg "zip" = none) (ha : PA X [e, e2] ta)
    (hs : starEach [e, e2] X.env = (false, eval e X.env) :: starEach [e2] X.env := by rfl) (hpl : (backTo pos (starEach [e2] X.env)).any (·.1) = false := by rfl) (hK : X.K = K := by rfl) :
    PI X (.Tuple elts kk tpos) (.Call (.Name "zip" p) [e, e2] [] pos) (RZ.iZipA K ta) := by subst hK; exact RZ.pi_zipA hg hm ha hs hpl
theorem pg_tupK {es : List Expr} {k : Nat} {t : TGs} {n : Nat} {pos : Pos} (hc : X.calm = true) (h : PGs X es t)
    (hn : (assignEach es X.env).length = n := by rfl) (hst : (assignEach es X.env).findIdx? (·.1) = none := by rfl) (hK : X.K = K := by rfl) : PG X (.Tuple es k pos) (gTup K n t) := by subst hK; exact pg_tup hc h hn hst
theorem pe_fldK {e : Expr} {f : Str} {ta : TE} {pos : Pos} (he : PE X e ta) (hb : attributeBase e f X.env (eval e X.env) = eval e X.env := by rfl) (hK : X.K = K := by rfl) : PE X (.Attribute e f pos) (tFld K ta f) := by subst hK; exact pe_fld he hb
theorem pe_bmK {o e : Expr} {es : List Expr} {name : Str} {T id : String} {r : V → List V → Hp → VK → Prop} {to : TE} {t : TA} {apos cpos : Pos} (pa : PlainAttrs T) (slot : Slot T name id) (hty : typeOf (.builtin id) = pure (.type "method_descriptor")) (hm : MtR X id r) (ho : PE X o to) (ha : PA X (e :: es) t)
    (hbase : attributeBase o name X.env (eval o X.env) = eval o X.env := by rfl)
    (hfew : ((backTo cpos (starEach (e :: es) X.env)).all (fun x => !x.1) && (backToKw cpos (keywordEach [] X.env)).all (fun x => x.1.isSome)
      && decide ((e :: es).length + ([] : List Keyword).length + (if ([] : List Keyword).isEmpty then 0 else 1) < 30)) = true := by rfl)
    (hline : (apos.endLine == cpos.line) = true := by rfl) (hs : starEach (e :: es) X.env = (false, eval e X.env) :: starEach es X.env := by rfl) (hplain : (backTo cpos (starEach es X.env)).any (·.1) = false := by rfl) (hK : X.K = K := by rfl) :
    PE X (.Call (.Attribute o name apos) (e :: es) [] cpos) (tBM K T r to t) := by subst hK; exact pe_bm pa slot hty hm ho ha hbase hfew hline hs hplain
theorem ps_fldK {o value : Expr} {f : Str} {ta tv : TE} {pos pos' : Pos} (ha : PE X o ta) (hv : PE X value tv) (hs : swapsWith value (some (.Attribute o f pos')) pos.line X.env = pure false := by rfl) (hK : X.K = K := by rfl) : PS X (.Assign [.Attribute o f pos'] value pos) (sFld K ta tv f) := by subst hK; exact ps_fld ha hv hs
end
/-! ### room -/
theorem hu65 {A : Around} {k : Nat} (hr : Room k A) : A.units + 65 < cLine := by have := hr.un; omega
/-! ### builtin names that the text leaves as they are -/
structure Bt (mg : Str → Option Value) : Prop where
  abs : mg "abs" = none
  all : mg "all" = none
  any : mg "any" = none
  dict : mg "dict" = none
  enumerate : mg "enumerate" = none
  int : mg "int" = none
  isinstance : mg "isinstance" = none
  len : mg "len" = none
  list : mg "list" = none
  max : mg "max" = none
  min : mg "min" = none
  range : mg "range" = none
  sorted : mg "sorted" = none
  str : mg "str" = none
  sum : mg "sum" = none
  tuple : mg "tuple" = none
  zip : mg "zip" = none
  bool : mg "bool" = none
  set : mg "set" = none
theorem boot_b_all : bootBuiltins "all" = some (.builtin "all") := by decide +kernel
theorem boot_b_len : bootBuiltins "len" = some (.builtin "len") := by decide +kernel
theorem boot_b_max : bootBuiltins "max" = some (.builtin "max") := by decide +kernel
theorem boot_b_min : bootBuiltins "min" = some (.builtin "min") := by decide +kernel
theorem boot_b_isinstance : bootBuiltins "isinstance" = some (.builtin "isinstance") := by decide +kernel
theorem boot_ty_int : bootBuiltins "int" = some (.type "int") := by decide +kernel
theorem boot_ty_list : bootBuiltins "list" = some (.type "list") := by decide +kernel
theorem boot_ty_str : bootBuiltins "str" = some (.type "str") := by decide +kernel
theorem boot_ty_tuple : bootBuiltins "tuple" = some (.type "tuple") := by decide +kernel
theorem boot_ty_dict : bootBuiltins "dict" = some (.type "dict") := by decide +kernel
theorem boot_ty_bool : bootBuiltins "bool" = some (.type "bool") := by decide +kernel
/-! ### defs by their promises -/
/-- the def that stands behind the name x keeps sp -/
structure Ok (P : Program) (w : World) (K : PySem.W.Frag) (mg : Str → Option Value) (base : Heap) (k : Nat) (x : Str) (ps : List Str) (sp : Sp) : Prop where
  ex : ∃ f fd, mg x = some (.ref f) ∧ PySem.W.keepIn K (.ref f) = true ∧ Binds K fd ps [] ∧ FnOk P w K mg base (L2.CX P w) k f fd ps sp ∧ ∃ oc od osl, K.lookup f = some ⟨oc, od, .func fd, osl⟩
/-- a def of the text -/
structure Df (K : PySem.W.Frag) (mg : Str → Option Value) (x : Str) (st : Stmt) (ps : List Str) : Prop where
  ex : ∃ f fd, mg x = some (.ref f) ∧ Fun K x x st f fd ∧ Binds K fd ps []
/-- the method m of the class at C keeps sp -/
structure OkM (P : Program) (w : World) (K : PySem.W.Frag) (mg : Str → Option Value) (base : Heap) (k : Nat) (C : Addr) (m : Str) (ps : List Str) (sp : Sp) : Prop where
  cls : Cls K C
  ex : ∃ f fd, Meth K C m f ∧ Binds K fd ps [] ∧ FnOk P w K mg base (L2.CX P w) k f fd ps sp
/-- a method of the text -/
structure Dm (K : PySem.W.Frag) (C : Addr) (m q : Str) (st : Stmt) (ps : List Str) : Prop where
  cls : Cls K C
  ex : ∃ f fd, Meth K C m f ∧ Fun K m q st f fd ∧ Binds K fd ps []
/-- the class behind the name x is made by an __init__ that keeps sp -/
structure OkC (P : Program) (w : World) (K : PySem.W.Frag) (mg : Str → Option Value) (base : Heap) (k : Nat) (C : Addr) (x : Str) (ps : List Str) (sp : Sp) : Prop where
  g : mg x = some (.ref C)
  ex : ∃ f fd, Mk K C f ∧ Binds K fd ps [] ∧ FnOk P w K mg base (L2.CX P w) k f fd ps sp
section
variable {P : Program} {w : World} {K : PySem.W.Frag} {mg : Str → Option Value} {base : Heap}
theorem Df.ok {x : Str} {st : Stmt} {N ps : List Str} {k : Nat} {sp : Sp} (D : Df K mg x st ps) (S : FnScope N ps (defScope st)) (len : ∀ vs H Q E, sp vs H Q E → vs.length = ps.length)
    (hbody : ∀ (f : Addr) (cdv : Value) (A : Around) (outer : List Env) (s : Shared) (H : Hp) (vs : List V) (Q : VK) (E : XK), Room k (A.deeper (envOfC x (defScope st) s.heap.objs.size f cdv)) → sp vs H Q E →
      ∃ t, PSs (cxOf (L2.CX P w) P w K mg base N x (defScope st) f cdv A outer s H E) (defBody st) t ∧ t { nx := fun _ H' => Q .non H', rt := Q } (start N vs) H) : Ok P w K mg base (k + 1) x ps sp := by
  obtain ⟨f, fd, g, F, b⟩ := D.ex
  obtain ⟨oc, od, kV, doc, pm, an, cdv, ct, osl, hfd, lk, hcd⟩ := F.ex
  exact ⟨f, fd, g, F.kp, b, F.okX S len fun cdv A outer s H vs Q E hr h => hbody f cdv A outer s H vs Q E hr h, oc, od, osl, lk⟩
theorem Dm.ok {C : Addr} {m q : Str} {st : Stmt} {N ps : List Str} {k : Nat} {sp : Sp} (D : Dm K C m q st ps) (S : FnScope N ps (defScope st)) (len : ∀ vs H Q E, sp vs H Q E → vs.length = ps.length)
    (hbody : ∀ (f : Addr) (cdv : Value) (A : Around) (outer : List Env) (s : Shared) (H : Hp) (vs : List V) (Q : VK) (E : XK), Room k (A.deeper (envOfC q (defScope st) s.heap.objs.size f cdv)) → sp vs H Q E →
      ∃ t, PSs (cxOf (L2.CX P w) P w K mg base N q (defScope st) f cdv A outer s H E) (defBody st) t ∧ t { nx := fun _ H' => Q .non H', rt := Q } (start N vs) H) : OkM P w K mg base (k + 1) C m ps sp := by
  obtain ⟨f, fd, g, F, b⟩ := D.ex
  exact ⟨D.cls, f, fd, g, b, F.okX S len fun cdv A outer s H vs Q E hr h => hbody f cdv A outer s H vs Q E hr h⟩
theorem OkM.make {C : Addr} {ps : List Str} {k : Nat} {sp : Sp} {x : Str} (O : OkM P w K mg base k C "__init__" ps sp) (g : mg x = some (.ref C)) (mk : PySem.W.makesIn K C = true) (kc : PySem.W.keepIn K (.ref C) = true) : OkC P w K mg base k C x ps sp := by
  obtain ⟨f, fd, m, b, F⟩ := O.ex
  exact ⟨g, f, fd, ⟨mk, m.at_, m.fn, kc⟩, b, F⟩
theorem Ok.mono {x : Str} {ps : List Str} {j k : Nat} {sp : Sp} (O : Ok P w K mg base j x ps sp) (h : j ≤ k) : Ok P w K mg base k x ps sp := by
  obtain ⟨f, fd, g, kp, b, F, l⟩ := O.ex
  exact ⟨f, fd, g, kp, b, F.mono h, l⟩
theorem Ok.imp {x : Str} {ps : List Str} {k : Nat} {sp sp' : Sp} (O : Ok P w K mg base k x ps sp) (h : ∀ vs H Q E, sp' vs H Q E → sp vs H Q E) : Ok P w K mg base k x ps sp' := by
  obtain ⟨f, fd, g, kp, b, F, l⟩ := O.ex
  exact ⟨f, fd, g, kp, b, F.imp h, l⟩
end
section
variable {X : Cx} {W : WX} {k : Nat} {C : Addr} {ps : List Str} {sp : Sp} {x m : Str} {p pos apos : Pos} {e o : Expr} {es : List Expr} {ta : TE} {t : TA}
/-- f(e, ..) -/
theorem pe_callO (O : Ok X.prog X.w X.K X.mg X.base k x ps sp) (hr : Room k X.A) (hg : Gl X x) (tk : Takes X W) (ha : PA X (e :: es) t) (hdb : (x == ("__debug__" : Str)) = false := by decide)
    (he : starEach (e :: es) X.env = (false, eval e X.env) :: starEach es X.env := by rfl) (hpl : (backTo pos (starEach es X.env)).any (·.1) = false := by rfl) :
    PE X (.Call (.Name x p) (e :: es) [] pos) (tCallS sp (WE W) t) := by
  obtain ⟨f, fd, g, kp, b, F, _⟩ := O.ex
  exact pe_callS F hr hg g kp b (fun σ => passAt tk σ) ha hdb he hpl
/-- o.m(e, ..) -/
def tMethS (C : Addr) (m : Str) (sp : Sp) (E : L2.St → XK) (ta : TE) (t : TA) : TE := fun σ H Q => ta σ H fun x H1 => ∃ a dx fs, x = .ref a ∧ H1 a = some (.ins C dx fs) ∧ fs.lookup m = none ∧ t σ H1 fun vs H2 => sp (x :: vs) H2 Q (E σ)
theorem pe_methO {pl : Sem Bool} (O : OkM X.prog X.w X.K X.mg X.base k C m ps sp) (he : PE X o ta) (hr : Room k X.A) (tk : Takes X W) (ha : PA X (e :: es) t)
    (hst : starEach (e :: es) X.env = (false, eval e X.env) :: starEach es X.env := by rfl) (hpl : (backTo pos (starEach es X.env)).any (·.1) = false := by rfl)
    (ht : eval (.Call (.Attribute o m apos) (e :: es) [] pos) X.env = (do
      let ov ← eval o X.env
      standAt apos.atName
      let (f, first) ← holding [ov] (getMethod ov m pl)
      callWith pos f first (backTo pos (starEach (e :: es) X.env)) (backToKw pos (keywordEach [] X.env))) := by rfl) :
    PE X (.Call (.Attribute o m apos) (e :: es) [] pos) (tMethS C m sp (WE W) ta t) := by
  obtain ⟨f, fd, hm, b, F⟩ := O.ex
  refine ⟨fun pins s σ H Q I h => ?_⟩
  refine PySem.W.methodCall_KW (pl := pl) (thn (he.run pins s σ H _ I h) fun u s1 ⟨x, H1, I1, rx, a, dx, fs, ex, ea, l, q⟩ => ?_) ht
  subst ex
  obtain rfl : u = Value.ref a := rx
  refine getmeth_ok I1 ea O.cls hm l ?_
  refine PySem.W.callWith_K (first := [.ref a]) (h₀ := X.base) I.ok.mod.kin hm.kp (thn (ha.run pos pins s1 σ H1 _ I1 q) fun us s2 ⟨vs, H2, I2, r, q2⟩ => ⟨I2.kIn, ?_⟩) hst hpl
  exact run_fnS (us := .ref a :: us) (vs := .ref a :: vs) F hr b (passAt tk σ) I2 (.cons rfl r) q2
theorem pe_methO0 {pl : Sem Bool} (O : OkM X.prog X.w X.K X.mg X.base k C m ps sp) (he : PE X o ta) (hr : Room k X.A) (tk : Takes X W)
    (ht : eval (.Call (.Attribute o m apos) [] [] pos) X.env = (do
      let ov ← eval o X.env
      standAt apos.atName
      let (f, first) ← holding [ov] (getMethod ov m pl)
      callWith pos f first (backTo pos (starEach [] X.env)) (backToKw pos (keywordEach [] X.env))) := by rfl) :
    PE X (.Call (.Attribute o m apos) [] [] pos) (tMethS C m sp (WE W) ta tNil) := by
  obtain ⟨f, fd, hm, b, F⟩ := O.ex
  refine ⟨fun pins s σ H Q I h => ?_⟩
  refine PySem.W.methodCall_KW (pl := pl) (thn (he.run pins s σ H _ I h) fun u s1 ⟨x, H1, I1, rx, a, dx, fs, ex, ea, l, q⟩ => ?_) ht
  subst ex
  obtain rfl : u = Value.ref a := rx
  refine getmeth_ok I1 ea O.cls hm l ?_
  exact PySem.W.callWith_K0 (first := [.ref a]) I1.kIn hm.kp (run_fnS (us := [.ref a]) (vs := [.ref a]) F hr b (passAt tk σ) I1 (.cons rfl .nil) q)
end
/-! ### a new instance, by an __init__ that may raise -/
section
variable {X : Cx} {W : WX} {k : Nat} {C : Addr} {ps : List Str} {sp : Sp} {x m : Str} {p pos apos : Pos} {e o : Expr} {es : List Expr} {ta : TE} {t : TA}
def tMakeS (C : Addr) (sp : Sp) (E : L2.St → XK) (t : TA) : TE := fun σ H Q => t σ H fun vs H1 => ∀ x dx, H1 x = none → H1 dx = none → dx ≠ x →
  sp (.ref x :: vs) (upd (upd H1 dx (.own x)) x (.ins C dx [])) (fun v H2 => v = .non ∧ Q (.ref x) H2) (E σ)
theorem run_makeS {pins : List (Addr × Obj)} {σ : L2.St} {H : Hp} {s : Shared} {Q : VK} {us : List Value} {vs : List V} {f : Addr} {fd : FuncData} (M : Mk X.K C f) (F : FnOk X.prog X.w X.K X.mg X.base (L2.CX X.prog X.w) k f fd ps sp) (hr : Room (k + 1) X.A) (hb : Binds X.K fd ps [])
    (tk : Takes X W) (I : Inv X pins σ H s) (r : Vals vs us)
    (h : ∀ x dx, H x = none → H dx = none → dx ≠ x → sp (.ref x :: vs) (upd (upd H dx (.own x)) x (.ins C dx [])) (fun v H2 => v = .non ∧ Q (.ref x) H2) (WE W σ)) :
    wpAny (model X.prog X.w) X.A (call (.ref C) us) (EP X pins σ Q) X.xe s := by
  have hq := h (s.heap.objs.size + 1) s.heap.objs.size (I.hok.fresh (Nat.le_succ _)) (I.hok.fresh (Nat.le_refl _)) (Nat.ne_of_lt (Nat.lt_succ_self _))
  have I2 := Inv.made (C := C) I
  have r2 : Vals (V.ref (s.heap.objs.size + 1) :: vs) (Value.ref (s.heap.objs.size + 1) :: us) := .cons rfl r
  have hl : (Value.ref (s.heap.objs.size + 1) :: us).length = ps.length := by
    have e := r2.length
    rw [F.len _ _ _ _ hq] at e
    exact e.symm
  refine wpAny_call (make_map (f := f) I.kIn M.makes M.init (beq_iff_eq.mp M.fn) (codeAny_mono (F.run _ X.stack _ _ ⟨Value.ref (s.heap.objs.size + 1) :: us, []⟩ (Value.ref (s.heap.objs.size + 1) :: us) _ _ (WE W σ) (hr.make C us [])
    (I2.env0.make C us []) (by have z := hb _ (Value.ref (s.heap.objs.size + 1) :: us) I2.kIn (by rw [List.append_nil]; exact hl); rw [List.append_nil] at z; exact z) r2 hq) fun r s' hq' => ?_))
  cases r with
  | error e => exact passAt tk σ pins _ _ e s' I2 hq'
  | ok fl =>
    cases fl with
    | ret u =>
      obtain ⟨v, H', I3, rv, ev, q3⟩ := I2.after hq'
      subst ev
      exact ⟨rv, ⟨V.ref (s.heap.objs.size + 1), H', I3, rfl, q3⟩⟩
    | next => exact False.elim hq'
    | brk => exact False.elim hq'
    | cont => exact False.elim hq'
theorem pe_makeO (O : OkC X.prog X.w X.K X.mg X.base k C x ps sp) (hr : Room (k + 1) X.A) (hg : Gl X x) (tk : Takes X W) (ha : PA X (e :: es) t) (hdb : (x == ("__debug__" : Str)) = false := by decide)
    (he : starEach (e :: es) X.env = (false, eval e X.env) :: starEach es X.env := by rfl) (hpl : (backTo pos (starEach es X.env)).any (·.1) = false := by rfl) :
    PE X (.Call (.Name x p) (e :: es) [] pos) (tMakeS C sp (WE W) t) := by
  obtain ⟨f, fd, M, b, F⟩ := O.ex
  refine ⟨fun pins s σ H Q I h => ?_⟩
  refine wpAny_Call_Name_kw (ld_glob I hg O.g ?_ hdb)
  refine PySem.W.callWith_K (h₀ := X.base) I.ok.mod.kin M.kp (thn (ha.run pos pins s σ H _ I h) fun us s1 ⟨vs, H1, I1, r, q⟩ => ⟨I1.kIn, ?_⟩) he hpl
  exact run_makeS M F hr b tk I1 r q
end
/-! ### own exceptions without an __init__ of their own -/
/-- x, at C, is an exception of one's own (under ValueError), made with a text -/
structure Xc (K : PySem.W.Frag) (mg : Str → Option Value) (x : Str) (C : Addr) : Prop where
  g : mg x = some (.ref C)
  xi : PySem.W.excIn K C [.type "ValueError", .type "Exception", .type "BaseException", .type "object"] "ValueError.__new__" = true
  kp : PySem.W.keepIn K (.ref C) = true
  sb : PySem.W.subIn K (.ref C) (.type "BaseException") = some true
  ty : PySem.W.typeIn K (.ref C) = some (.type "type")
theorem pmk_ex {X : Cx} {x m : Str} {C : Addr} {j : Nat} {p p2 pos : Pos} (c : Xc X.K X.mg x C) (hg : Gl X x) (hdb : (x == ("__debug__" : Str)) = false := by decide) : PMk X (.Call (.Name x p) [.Constant (.str m) j p2] [] pos) (fun _ H Q => Q (.ref C) none H) :=
  pmk_own PySem.F.excBase_ValueError c.xi c.g c.kp (raises_own c.sb c.ty) hg hdb
end Kj

/-! Kj1: what an expression is worth, with the new part of the heap that it makes; parts of the heap that stand apart. -/
namespace Kj
open PySem PySem.Spec PyProof.Rows L2 Evl
/-! ### parts of a heap -/
/-- all of N is new beside H -/
def Fr (H N : Hp) : Prop := ∀ a, N a ≠ none → H a = none
def emp : Hp := fun _ => none
def sing (p : Addr) (o : HO) : Hp := fun a => if a = p then some o else none
def uni (N M : Hp) : Hp := fun a => match M a with | some o => some o | none => N a
theorem sing_at {p : Addr} {o : HO} : sing p o p = some o := by unfold sing; rw [if_pos rfl]
theorem sing_ne {p a : Addr} {o : HO} (h : a ≠ p) : sing p o a = none := by unfold sing; rw [if_neg h]
theorem emp_ex {H : Hp} : Ex emp H := fun _ _ h => nomatch h
theorem emp_fr {H : Hp} : Fr H emp := fun _ h => absurd rfl h
theorem sing_ex {H : Hp} {p : Addr} {o : HO} (h : H p = some o) : Ex (sing p o) H := fun a u e => by
  by_cases q : a = p
  · subst q
    rw [sing_at] at e
    cases e
    exact h
  · rw [sing_ne q] at e
    cases e
theorem sing_fr {H : Hp} {p : Addr} {o : HO} (h : H p = none) : Fr H (sing p o) := fun a e => by
  by_cases q : a = p
  · subst q
    exact h
  · exact absurd (sing_ne q) e
theorem Fr.back {H H' N : Hp} (e : Ex H H') (f : Fr H' N) : Fr H N := fun a h => fresh_back e (f a h)
theorem Fr.of {H N M : Hp} (f : Fr H N) (e : Ex M N) : Fr H M := fun a h => f a fun z => by
  cases q : M a with
  | none => exact h q
  | some o => rw [e a o q] at z; cases z
theorem ex_none {N H : Hp} {a : Addr} (e : Ex N H) (h : H a = none) : N a = none := fresh_back e h
theorem uni_r {N M : Hp} : Ex M (uni N M) := fun a o h => by unfold uni; rw [h]
theorem uni_l {N M : Hp} (d : ∀ a, M a ≠ none → N a = none) : Ex N (uni N M) := fun a o h => by
  unfold uni
  cases q : M a with
  | none => exact h
  | some u => rw [d a (by rw [q]; exact fun z => nomatch z)] at h; cases h
theorem uni_ex {N M H : Hp} (h1 : Ex N H) (h2 : Ex M H) : Ex (uni N M) H := fun a o h => by
  unfold uni at h
  cases q : M a with
  | none => rw [q] at h; exact h1 a o h
  | some u => rw [q] at h; cases h; exact h2 a _ q
theorem uni_some {N M : Hp} {a : Addr} (h : uni N M a ≠ none) : N a ≠ none ∨ M a ≠ none := by
  unfold uni at h
  cases q : M a with
  | none => rw [q] at h; exact .inl h
  | some u => exact .inr (fun z => nomatch z)
theorem uni_fr {N M H : Hp} (h1 : Fr H N) (h2 : Fr H M) : Fr H (uni N M) := fun a h => (uni_some h).elim (h1 a) (h2 a)
/-! ### data -/
mutual
theorem dp_mono {K : PySem.W.Frag} {H H' : Hp} (e : Ex H H') : ∀ {v : V} {d : PyData}, Dp K H v d → Dp K H' v d
  | _, _, .non => .non
  | _, _, .bl b => .bl b
  | _, _, .int i => .int i
  | _, _, .str x => .str x
  | _, _, .lst h r => .lst (ex_l e h) (dpa_mono e r)
  | _, _, .tup h r => .tup (ex_t e h) (dpa_mono e r)
theorem dpa_mono {K : PySem.W.Frag} {H H' : Hp} (e : Ex H H') : ∀ {vs : List V} {ds : List PyData}, DpAll K H vs ds → DpAll K H' vs ds
  | _, _, .nil => .nil
  | _, _, .cons h r => .cons (dp_mono e h) (dpa_mono e r)
end
/-! ### how a call may end -/
inductive Res where
  | ok (P : Hp → V → Prop)
  | err (x : Str) (fs : List (Str × V))
def RetNew (H : Hp) (Q : VK) (P : Hp → V → Prop) : Prop := ∀ v H' N, Ex H H' → Ex N H' → Fr H N → P N v → Q v H'
def RaiseX (mg : Str → Option Value) (x : Str) (fs : List (Str × V)) (H : Hp) (E : XK) : Prop :=
  ∀ H' C d, Ex H H' → mg x = some (.ref C) → (fs = [] ∧ d = none ∨ ∃ a, d = some a ∧ H' a = some (.xd fs) ∧ H a = none ∧ fs ≠ []) → E (.ref C) d H'
def Out (mg : Str → Option Value) (r : Res) (H : Hp) (Q : VK) (E : XK) : Prop := match r with
  | .ok P => RetNew H Q P
  | .err x fs => RaiseX mg x fs H E
/-- a promise: from the arguments in a heap to the end; whatever else the heap holds -/
structure Rl where
  R : List V → Hp → Res → Prop
  mono : ∀ {vs H H' r}, Ex H H' → R vs H r → R vs H' r
def Rl.sp (S : Rl) (mg : Str → Option Value) : Sp := fun vs H Q E => ∃ r, S.R vs H r ∧ Out mg r H Q E
/-- what is told of a value alone -/
abbrev is (v : V) : Hp → V → Prop := fun _ x => x = v
/-! ### what an expression is worth -/
def EvP (te : TE) (σ : L2.St) (H : Hp) (P : Hp → V → Prop) : Prop := ∀ H1, Ex H H1 → ∀ Q : VK, RetNew H1 Q P → te σ H1 Q
def EvErr (mg : Str → Option Value) (W : WX) (x : Str) (fs : List (Str × V)) (te : TE) (σ : L2.St) (H : Hp) : Prop := ∀ H1, Ex H H1 → RaiseX mg x fs H1 (WE W σ) → ∀ Q : VK, te σ H1 Q
/-- arguments, each with its own new part -/
def All2 (H : Hp) : List (Hp → V → Prop) → List V → Prop := Paired fun P v => ∃ N, Ex N H ∧ P N v
def EvPs (ta : TA) (σ : L2.St) (H : Hp) (Ps : List (Hp → V → Prop)) : Prop := ∀ H1, Ex H H1 → ∀ Q : List V → Hp → Prop, (∀ vs H2, Ex H1 H2 → All2 H2 Ps vs → Q vs H2) → ta σ H1 Q
section
variable {K : PySem.W.Frag} {mg : Str → Option Value} {σ : L2.St} {H H' : Hp} {ta tb te tx : TE} {tr : TA} {t u : TT} {x y z v : V} {r : R2} {P P' : Hp → V → Prop} {S : Rl} {E : L2.St → XK} {W : WX} {vs : List V} {Ps : List (Hp → V → Prop)} {xn : Str} {fs : List (Str × V)}
theorem RetNew.fwd {Q : VK} (e : Ex H H') (k : RetNew H Q P) : RetNew H' Q P := fun v H1 N e1 e2 f p => k v H1 N (e.trans e1) e2 (f.back e) p
theorem RaiseX.fwd {E : XK} (e : Ex H H') (k : RaiseX mg xn fs H E) : RaiseX mg xn fs H' E := fun H1 C d e1 g c => k H1 C d (e.trans e1) g (c.imp id fun ⟨a, h1, h2, h3, h4⟩ => ⟨a, h1, h2, fresh_back e h3, h4⟩)
theorem EvP.mono (e : Ex H H') (h : EvP te σ H P) : EvP te σ H' P := fun H1 a Q q => h H1 (e.trans a) Q q
theorem EvErr.mono (e : Ex H H') (h : EvErr mg W xn fs te σ H) : EvErr mg W xn fs te σ H' := fun H1 a q Q => h H1 (e.trans a) q Q
theorem ep_v (h : Ev te σ H v) : EvP te σ H (is v) := fun H1 e Q q => h H1 e Q fun H2 e2 => q v H2 emp e2 emp_ex emp_fr rfl
theorem ev_p (h : EvP te σ H (is v)) : Ev te σ H v := fun H1 e Q q => h H1 e Q fun x H2 _ e2 _ _ p => by
  have p : x = v := p
  subst p
  exact q H2 e2
theorem ep_imp (h : EvP te σ H P) (i : ∀ N v, P N v → P' N v) : EvP te σ H P' := fun H1 e Q q => h H1 e Q fun v H2 N e2 e3 f p => q v H2 N e2 e3 f (i N v p)
theorem ep_l {xs : List V} (h : EvL te σ H xs) : EvP te σ H (fun N v => ∃ p, v = .ref p ∧ N p = some (.lst xs)) := fun H1 e Q q => h H1 e Q fun p H2 hp e2 h2 => q (.ref p) H2 (sing p (.lst xs)) e2 (sing_ex h2) (sing_fr hp) ⟨p, rfl, sing_at⟩
theorem ep_u {xs : List V} (h : EvU te σ H xs) : EvP te σ H (fun N v => ∃ p, v = .ref p ∧ N p = some (.tup xs)) := fun H1 e Q q => h H1 e Q fun p H2 hp e2 h2 => q (.ref p) H2 (sing p (.tup xs)) e2 (sing_ex h2) (sing_fr hp) ⟨p, rfl, sing_at⟩
theorem eps_nil : EvPs tNil σ H [] := fun H1 _ Q q => q [] H1 (Ex.refl H1) .nil
theorem All2.mono (e : Ex H H') (h : All2 H Ps vs) : All2 H' Ps vs := by
  unfold All2 at h ⊢
  induction h with
  | nil => exact .nil
  | cons h _ ih =>
    obtain ⟨N, h1, h2⟩ := h
    exact .cons ⟨N, h1.trans e, h2⟩ ih
theorem eps_cons (h : EvP te σ H P) (hr : EvPs tr σ H Ps) : EvPs (tCons te tr) σ H (P :: Ps) := fun H1 e Q q =>
  h H1 e _ fun v H2 N e2 e3 _ p => hr H2 (e.trans e2) _ fun vs H3 e4 a => q (v :: vs) H3 (e2.trans e4) (.cons ⟨N, e3.trans e4, p⟩ a)
/-! ### calls -/
theorem ep_call (ha : EvA tr σ H vs) (hR : S.R vs H (.ok P)) : EvP (tCallS (S.sp mg) E tr) σ H P := fun H1 e Q q => ha H1 e _ fun H2 e2 => ⟨.ok P, S.mono (e.trans e2) hR, q.fwd e2⟩
theorem ep_callN (ha : EvPs tr σ H Ps) (hR : ∀ vs H1, Ex H H1 → All2 H1 Ps vs → S.R vs H1 (.ok P)) : EvP (tCallS (S.sp mg) E tr) σ H P := fun H1 e Q q => ha H1 e _ fun vs H2 e2 a => ⟨.ok P, hR vs H2 (e.trans e2) a, q.fwd e2⟩
theorem ev_callO (ha : EvA tr σ H vs) (hR : S.R vs H (.ok (is v))) : Ev (tCallS (S.sp mg) E tr) σ H v := ev_p (ep_call ha hR)
theorem ev_callN (ha : EvPs tr σ H Ps) (hR : ∀ vs H1, Ex H H1 → All2 H1 Ps vs → S.R vs H1 (.ok (is v))) : Ev (tCallS (S.sp mg) E tr) σ H v := ev_p (ep_callN ha hR)
theorem er_call (ha : EvA tr σ H vs) (hR : S.R vs H (.err xn fs)) : EvErr mg W xn fs (tCallS (S.sp mg) (WE W) tr) σ H := fun H1 e q Q => ha H1 e _ fun H2 e2 => ⟨.err xn fs, S.mono (e.trans e2) hR, q.fwd e2⟩
/-- o.m(..) -/
theorem ep_meth {C a dx : Addr} {m : Str} {gs : List (Str × V)} (ho : Ev ta σ H (.ref a)) (h : H a = some (.ins C dx gs)) (hl : gs.lookup m = none) (ha : EvA tr σ H vs) (hR : S.R (.ref a :: vs) H (.ok P)) : EvP (tMethS C m (S.sp mg) E ta tr) σ H P :=
  fun H1 e Q q => ho H1 e _ fun H2 e2 => ⟨a, dx, gs, rfl, e2 _ _ (e _ _ h), hl, ha H2 (e.trans e2) _ fun H3 e3 => ⟨.ok P, S.mono ((e.trans e2).trans e3) hR, q.fwd (e2.trans e3)⟩⟩
/-! ### fields of an instance -/
theorem ev_fld {C a dx : Addr} {f : Str} {gs : List (Str × V)} (ho : Ev ta σ H (.ref a)) (h : H a = some (.ins C dx gs)) (c : Cls K C) (n : NoAttr K C f) (hl : gs.lookup f = some v) : Ev (tFld K ta f) σ H v := fun H1 e Q q =>
  ho H1 e _ fun H2 e2 => ⟨a, C, dx, gs, v, rfl, e2 _ _ (e _ _ h), c, n, hl, q H2 e2⟩
/-! ### operators -/
theorem rv_addI {i j : Int} : RV (rAddU K) (.int i) (.int j) H (.int (i + j)) := fun H1 _ _ q => .inl (.inl ⟨i, j, rfl, rfl, q H1 (Ex.refl H1)⟩)
theorem rv_mulI {i j : Int} (h : CMulW i j) : RV rMulU (.int i) (.int j) H (.int (i * j)) := fun H1 _ _ q => .inl (.inl ⟨i, j, rfl, rfl, h, q H1 (Ex.refl H1)⟩)
theorem rv_mulS {a : Str} {n : Int} (h : MulOk a n) : RV rMulU (.str a) (.int n) H (.str (Txt.mul a n)) := fun H1 _ _ q => .inr ⟨a, n, rfl, rfl, h, q H1 (Ex.refl H1)⟩
theorem rv_eqS (h : scal x y = true) : RV (rEqU K) x y H (.bl (decide (x = y))) := fun H1 _ _ q => .inl ⟨h, q H1 (Ex.refl H1)⟩
theorem rv_neS (h : scal x y = true) : RV (rNeU K) x y H (.bl (!decide (x = y))) := fun H1 _ _ q => .inl ⟨h, q H1 (Ex.refl H1)⟩
theorem rv_eqI {i j : Int} : RV (rEqU K) (.int i) (.int j) H (.bl (decide (i = j))) := fun H1 _ _ q => .inl ⟨rfl, by
  have e : decide (V.int i = V.int j) = decide (i = j) := by
    by_cases h : i = j
    · subst h; simp
    · rw [decide_eq_false h, decide_eq_false (fun z => h (V.int.inj z))]
  rw [e]
  exact q H1 (Ex.refl H1)⟩
theorem rv_neI {i j : Int} : RV (rNeU K) (.int i) (.int j) H (.bl (!decide (i = j))) := fun H1 _ _ q => .inl ⟨rfl, by
  have e : decide (V.int i = V.int j) = decide (i = j) := by
    by_cases h : i = j
    · subst h; simp
    · rw [decide_eq_false h, decide_eq_false (fun z => h (V.int.inj z))]
  rw [e]
  exact q H1 (Ex.refl H1)⟩
theorem rv_eqT {a b : Str} : RV (rEqU K) (.str a) (.str b) H (.bl (decide (a = b))) := fun H1 _ _ q => .inl ⟨rfl, by
  have e : decide (V.str a = V.str b) = decide (a = b) := by
    by_cases h : a = b
    · subst h; simp
    · rw [decide_eq_false h, decide_eq_false (fun z => h (V.str.inj z))]
  rw [e]
  exact q H1 (Ex.refl H1)⟩
theorem rv_neT {a b : Str} : RV (rNeU K) (.str a) (.str b) H (.bl (!decide (a = b))) := fun H1 _ _ q => .inl ⟨rfl, by
  have e : decide (V.str a = V.str b) = decide (a = b) := by
    by_cases h : a = b
    · subst h; simp
    · rw [decide_eq_false h, decide_eq_false (fun z => h (V.str.inj z))]
  rw [e]
  exact q H1 (Ex.refl H1)⟩
theorem rv_eqD {d e : PyData} (h1 : Dp K H x d) (h2 : Dp K H y e) (s1 : SeqAt.shaped d = true) (s2 : SeqAt.shaped e = true) : RV (rEqU K) x y H (.bl (PyData.eqv d e)) := fun H1 a _ q => .inr ⟨d, e, dp_mono a h1, dp_mono a h2, s1, s2, q H1 (Ex.refl H1)⟩
theorem rv_neD {d e : PyData} (h1 : Dp K H x d) (h2 : Dp K H y e) (s1 : SeqAt.shaped d = true) (s2 : SeqAt.shaped e = true) : RV (rNeU K) x y H (.bl (!PyData.eqv d e)) := fun H1 a _ q => .inr ⟨d, e, dp_mono a h1, dp_mono a h2, s1, s2, q H1 (Ex.refl H1)⟩
/-- both sides new, or data: == by what they hold -/
theorem ev_opN {P1 P2 : Hp → V → Prop} (ha : EvP ta σ H P1) (hb : EvP tb σ H P2) (hr : ∀ v1 v2 N1 N2 H1, Ex H H1 → Ex N1 H1 → Ex N2 H1 → P1 N1 v1 → P2 N2 v2 → RV r v1 v2 H1 z) : Ev (tOp r ta tb) σ H z := fun H1 e Q q =>
  ha H1 e _ fun v1 H2 N1 e2 i1 _ p1 => hb H2 (e.trans e2) _ fun v2 H3 N2 e3 i2 _ p2 => hr v1 v2 N1 N2 H3 ((e.trans e2).trans e3) (i1.trans e3) i2 p1 p2 H3 (Ex.refl H3) Q fun H4 e4 => q H4 ((e2.trans e3).trans e4)
theorem rv_ixLs {p : Addr} {xs : List V} {i : Int} (h : SqL K H p xs) (ha : atI xs i = some v) : RV (rIx K) (.ref p) (.int i) H v := fun H1 e _ q => .inl ⟨p, xs, i, v, rfl, rfl, ex_l e h, ha, q H1 (Ex.refl H1)⟩
theorem rv_ixTs {p : Addr} {xs : List V} {i : Int} (h : SqT K H p xs) (ha : atI xs i = some v) : RV (rIx K) (.ref p) (.int i) H v := fun H1 e _ q => .inr (.inl ⟨p, xs, i, v, rfl, rfl, ex_t e h, ha, q H1 (Ex.refl H1)⟩)
theorem rv_ixSs {w : Str} {i : Int} {c : Nat} (h : w.length ≤ 100000) (ha : atI w.cps.toList i = some c) : RV (rIx K) (.str w) (.int i) H (.str ⟨#[c]⟩) := fun H1 _ _ q => .inr (.inr ⟨w, i, c, rfl, rfl, sz_of h, ha, q H1 (Ex.refl H1)⟩)
theorem rv_sign {c : Nat} {w : Str} : RV (rInU K) (.str ⟨#[c]⟩) (.str w) H (.bl (decide (c ∈ w.cps.toList))) := fun H1 _ _ q => .inl (.inr ⟨c, w, rfl, rfl, q H1 (Ex.refl H1)⟩)
theorem rv_isN : RV (fun x y H Q => y = .non ∧ Q (.bl (decide (x = .non))) H) x .non H (.bl (decide (x = .non))) := fun H1 _ _ q => ⟨rfl, q H1 (Ex.refl H1)⟩
theorem rv_isnN : RV (fun x y H Q => y = .non ∧ Q (.bl (!decide (x = .non))) H) x .non H (.bl (!decide (x = .non))) := fun H1 _ _ q => ⟨rfl, q H1 (Ex.refl H1)⟩
/-! ### slices, len -/
theorem el_sl' {tl th : TO} {a : Addr} {xs : List V} {lo hi : Option Int} (h : Ev te σ H (.ref a)) (h1 : EvO tl σ H lo) (h2 : EvO th σ H hi) (hs : SqL K H a xs) : EvL (tSl (rSlU K) te tl th) σ H (cutV xs lo hi) := fun H1 e _ q =>
  h H1 e _ fun H2 e2 => h1 H2 (e.trans e2) _ fun H3 e3 => h2 H3 ((e.trans e2).trans e3) _ fun H4 e4 =>
    .inl (.inl ⟨a, xs, rfl, ex_l (((e.trans e2).trans e3).trans e4) hs, fun p hp => q p _ (fresh_back ((e2.trans e3).trans e4) hp) (((e2.trans e3).trans e4).trans (Ex.new hp)) upd_same⟩)
theorem rc_lenL {p : Addr} {xs : List V} (h : SqL K H p xs) : RC (rLenU K) [.ref p] H (.int (xs.length : Int)) := fun H1 e _ q => .inl ⟨p, xs, rfl, .inl (ex_l e h), q H1 (Ex.refl H1)⟩
theorem rc_lenT {p : Addr} {xs : List V} (h : SqT K H p xs) : RC (rLenU K) [.ref p] H (.int (xs.length : Int)) := fun H1 e _ q => .inl ⟨p, xs, rfl, .inr (ex_t e h), q H1 (Ex.refl H1)⟩
theorem rc_lenS {w : Str} (h : w.length ≤ 100000) : RC (rLenU K) [.str w] H (.int (w.length : Int)) := fun H1 _ _ q => .inr ⟨w, rfl, sz_of h, q H1 (Ex.refl H1)⟩
theorem rc_abs {i : Int} : RC (fun xs H Q => ∃ i, xs = [.int i] ∧ Q (.int (if i < 0 then -i else i)) H) [.int i] H (.int (i.natAbs : Int)) := fun H1 _ _ q => ⟨i, rfl, by
  have e : (if i < 0 then -i else i) = (i.natAbs : Int) := by
    split <;> omega
  rw [e]
  exact q H1 (Ex.refl H1)⟩
end
/-! ### parts that stand apart in a heap -/
def Dj (N M : Hp) : Prop := ∀ a, N a ≠ none → M a = none
theorem Dj.symm {N M : Hp} (d : Dj N M) : Dj M N := fun a h => by
  cases q : N a with
  | none => rfl
  | some o => exact absurd (d a (by rw [q]; exact fun z => nomatch z)) h
def Own : List Hp → Hp → Prop
  | [], _ => True
  | N :: r, H => Ex N H ∧ (∀ M ∈ r, Dj N M) ∧ Own r H
theorem Own.mono {H H' : Hp} (e : Ex H H') : ∀ {Ns : List Hp}, Own Ns H → Own Ns H'
  | [], _ => trivial
  | _ :: _, ⟨a, b, c⟩ => ⟨a.trans e, b, c.mono e⟩
theorem Own.exm {H N : Hp} : ∀ {Ns : List Hp}, Own Ns H → N ∈ Ns → Ex N H
  | _ :: _, ⟨a, b, c⟩, h => by
    rcases List.mem_cons.mp h with h | h
    · subst h; exact a
    · exact c.exm h
theorem Own.ix {H N : Hp} {i : Nat} {Ns : List Hp} (o : Own Ns H) (h : Ns[i]? = some N) : Ex N H := o.exm (List.mem_of_getElem? h)
theorem Own.e0 {H N : Hp} {r : List Hp} (o : Own (N :: r) H) : Ex N H := o.1
theorem Own.e1 {H N M : Hp} {r : List Hp} (o : Own (M :: N :: r) H) : Ex N H := o.2.2.1
theorem Own.e2 {H N M M2 : Hp} {r : List Hp} (o : Own (M2 :: M :: N :: r) H) : Ex N H := o.2.2.2.2.1
theorem Own.e3 {H N M M2 M3 : Hp} {r : List Hp} (o : Own (M3 :: M2 :: M :: N :: r) H) : Ex N H := o.2.2.2.2.2.2.1
theorem Own.e4 {H N M M2 M3 M4 : Hp} {r : List Hp} (o : Own (M4 :: M3 :: M2 :: M :: N :: r) H) : Ex N H := o.2.2.2.2.2.2.2.2.1
theorem Own.dj {H N M : Hp} {i j : Nat} : ∀ {Ns : List Hp}, Own Ns H → i < j → Ns[i]? = some N → Ns[j]? = some M → Dj N M
  | N' :: r, ⟨a, b, c⟩, hij, hi, hj => by
    cases j with
    | zero => exact absurd hij (Nat.not_lt_zero _)
    | succ j =>
      cases i with
      | zero =>
        have e : N' = N := Option.some.inj hi
        subst e
        exact b M (List.mem_of_getElem? hj)
      | succ i => exact c.dj (Nat.lt_of_succ_lt_succ hij) hi hj
theorem Own.add {H H' N : Hp} {Ns : List Hp} (o : Own Ns H) (e : Ex H H') (n : Ex N H') (f : Fr H N) : Own (N :: Ns) H' :=
  ⟨n, fun M hM a h => ex_none (o.exm hM) (f a h), o.mono e⟩
theorem Own.one (H : Hp) : Own [H] H := ⟨Ex.refl H, (fun _ h => nomatch h), trivial⟩
theorem Own.tail {H N : Hp} {r : List Hp} (o : Own (N :: r) H) : Own r H := o.2.2
theorem Own.set {H : Hp} {l : Addr} {u u' : HO} : ∀ {Ns : List Hp} {j : Nat}, Own Ns H → Ns[j]? = some (sing l u) → Own (Ns.set j (sing l u')) (upd H l u')
  | N :: r, 0, ⟨a, b, c⟩, h => by
    have e : N = sing l u := Option.some.inj h
    subst e
    have hl : ∀ M ∈ r, M l = none := fun M hM => b M hM l (by rw [sing_at]; exact fun z => nomatch z)
    refine ⟨sing_ex upd_same, fun M hM x hx => ?_, ?_⟩
    · by_cases q : x = l
      · subst q; exact hl M hM
      · exact absurd (sing_ne q) hx
    · clear a b h
      induction r with
      | nil => trivial
      | cons M r ih =>
        obtain ⟨c1, c2, c3⟩ := c
        refine ⟨fun x o' hx => ?_, c2, ih c3 fun M' hM' => hl M' (List.mem_cons_of_mem _ hM')⟩
        have ne : x ≠ l := fun z => by
          rw [z, hl M List.mem_cons_self] at hx
          cases hx
        rw [upd_ne ne]
        exact c1 x o' hx
  | N :: r, j + 1, ⟨a, b, c⟩, h => by
    have hN : N l = none := by
      have d := b (sing l u) (List.mem_of_getElem? h)
      exact d.symm l (by rw [sing_at]; exact fun z => nomatch z)
    refine ⟨fun x o' hx => ?_, fun M hM => ?_, c.set h⟩
    · have ne : x ≠ l := fun z => by
        rw [z, hN] at hx
        cases hx
      rw [upd_ne ne]
      exact a x o' hx
    · rcases List.mem_or_eq_of_mem_set hM with h1 | h1
      · exact b M h1
      · subst h1
        intro x hx
        by_cases q : x = l
        · subst q; exact absurd hN hx
        · exact sing_ne q
theorem Own.at {H : Hp} {l : Addr} {u : HO} {Ns : List Hp} {j : Nat} (o : Own Ns H) (h : Ns[j]? = some (sing l u)) : H l = some u := o.ix h _ _ sing_at
/-- the part N and the part M told as one -/
theorem Own.merge {H N M : Hp} {r : List Hp} (o : Own (N :: M :: r) H) : Own (uni M N :: r) H :=
  ⟨uni_ex o.2.2.1 o.1, fun M' hM' a h => (uni_some h).elim (o.2.2.2.1 M' hM' a) (o.2.1 M' (List.mem_cons_of_mem _ hM') a), o.2.2.2.2⟩
theorem Own.swap {H N M : Hp} {r : List Hp} (o : Own (N :: M :: r) H) : Own (M :: N :: r) H :=
  ⟨o.2.2.1, fun M' hM' => by
    rcases List.mem_cons.mp hM' with h | h
    · subst h; exact (o.2.1 M List.mem_cons_self).symm
    · exact o.2.2.2.1 M' h, o.1, fun M' hM' => o.2.1 M' (List.mem_cons_of_mem _ hM'), o.2.2.2.2⟩
/-- what is handed back: N is new beside G -/
theorem Own.ret {H N G : Hp} {Ns : List Hp} {i j : Nat} {Q : VK} {P : Hp → V → Prop} {v : V} (o : Own Ns H) (k : RetNew G Q P) (hi : Ns[i]? = some N) (hj : Ns[j]? = some G) (hp : P N v) (hij : i < j := by decide) : Q v H :=
  k v H N (o.ix hj) (o.ix hi) (o.dj hij hi hj) hp
theorem Own.retV {H G : Hp} {Ns : List Hp} {j : Nat} {Q : VK} {P : Hp → V → Prop} {v : V} (o : Own Ns H) (k : RetNew G Q P) (hj : Ns[j]? = some G) (hp : P emp v) : Q v H := k v H emp (o.ix hj) emp_ex emp_fr hp
end Kj
namespace Kj
open PySem PySem.Spec PyProof.Rows L2 Evl
abbrev pTup (xs : List V) : Hp → V → Prop := fun N v => ∃ p, v = .ref p ∧ N p = some (.tup xs)
abbrev pLst (xs : List V) : Hp → V → Prop := fun N v => ∃ p, v = .ref p ∧ N p = some (.lst xs)
section
variable {K : PySem.W.Frag} {mg : Str → Option Value} {σ : L2.St} {H H' : Hp} {ta tb te tx : TE} {tr : TA} {t u : TT} {x y z v : V} {P : Hp → V → Prop} {vs : List V}
theorem ep_tup (h : EvA tr σ H vs) (hl : vs.length ≤ 100000 := by exact Nat.le_of_ble_eq_true rfl) : EvP (tTup tr) σ H (pTup vs) := ep_u (eu_tup h hl)
theorem ep_lst (h : EvA tr σ H vs) (hl : vs.length ≤ 100000 := by exact Nat.le_of_ble_eq_true rfl) : EvP (tLst tr) σ H (pLst vs) := ep_l (el_lst h hl)
/-- the first operand, or the thing asked, is new -/
theorem ev_op1 {r : R2} (ha : EvP ta σ H P) (hb : Ev tb σ H y) (hr : ∀ v N H1, Ex H H1 → Ex N H1 → P N v → RV r v y H1 z) : Ev (tOp r ta tb) σ H z :=
  ev_opN ha (ep_v hb) fun v1 v2 N1 N2 H1 e i1 _ p1 p2 => by
    have p2 : v2 = y := p2
    subst p2
    exact hr v1 N1 H1 e i1 p1
theorem ev_cb1 {r : List V → Hp → VK → Prop} (ha : EvP ta σ H P) (hr : ∀ v N H1, Ex H H1 → Ex N H1 → P N v → RC r [v] H1 z) : Ev (tCB r (tCons ta tNil)) σ H z := fun H1 e Q q =>
  ha H1 e _ fun v H2 N e2 i1 _ p => hr v N H2 (e.trans e2) i1 p H2 (Ex.refl H2) Q fun H3 e3 => q H3 (e2.trans e3)
end
end Kj
namespace Kj
open PySem PySem.Spec PyProof.Rows L2 Evl
theorem cmul_small {i j : Int} (h1 : -18446744073709551616 < i ∧ i < 18446744073709551616) (h2 : -18446744073709551616 < j ∧ j < 18446744073709551616) : CMulW i j := by
  have a : i.natAbs < 2 ^ 64 := by
    have e : (2 : Nat) ^ 64 = 18446744073709551616 := by decide
    rw [e]
    omega
  have b : j.natAbs < 2 ^ 64 := by
    have e : (2 : Nat) ^ 64 = 18446744073709551616 := by decide
    rw [e]
    omega
  exact wide_mul a b (by decide) (by decide) (by decide)
theorem cutV_take {xs : List V} (n : Nat) : cutV xs none (some (n : Int)) = xs.take n := by
  unfold cutV
  rw [HT.sIx_none, HT.sIx_nat]
  by_cases h : n ≤ xs.length
  · rw [Nat.min_eq_left h]
    rfl
  · rw [Nat.min_eq_right (by omega)]
    show (xs.drop 0).take (xs.length - 0) = _
    rw [List.drop_zero, Nat.sub_zero, List.take_length, List.take_of_length_le (by omega)]
theorem cutV_drop {xs : List V} (n : Nat) : cutV xs (some (n : Int)) none = xs.drop n := by
  unfold cutV
  rw [HT.sIx_none, HT.sIx_nat]
  by_cases h : n ≤ xs.length
  · rw [Nat.min_eq_left h, List.take_of_length_le (by rw [List.length_drop]; omega)]
  · rw [Nat.min_eq_right (by omega), List.drop_length, List.drop_of_length_le (by omega), List.take_nil]
end Kj
namespace Kj
open PySem PySem.Spec PyProof.Rows L2 Evl
/-- the law's own promise -/
def spLaw (K : PySem.W.Frag) : Sp := fun vs H Q _ => ∃ (a : Addr) (ns : List Int), vs = [.ref a] ∧ SqL K H a (ns.map V.int) ∧ ns.length ≤ 63 ∧ ∀ H', Q (.bl true) H'
theorem cx_none {P : Program} {w : World} {o : List Env} {H : Hp} {s : Shared} {e : Value} {s' : Shared} (h : L2.CX P w o H s (fun _ _ _ => False) e s') : False := by
  obtain ⟨_, _, _, _, _, _, _, _, _, _, _, _, z⟩ := h
  exact z
/-- the promise of the very def that the name stands for -/
theorem Ok.fn {P : Program} {w : World} {K : PySem.W.Frag} {mg : Str → Option Value} {base : Heap} {k : Nat} {x : Str} {ps : List Str} {sp : Sp} {st : Stmt} {f : Addr} {fd : FuncData} (O : Ok P w K mg base k x ps sp) (g : mg x = some (.ref f)) (F : Fun K x x st f fd) : FnOk P w K mg base (L2.CX P w) k f fd ps sp := by
  obtain ⟨f', fd', g', kp, b, F', oc', od', osl', lk'⟩ := O.ex
  obtain ⟨oc, od, kV, doc, pm, an, cdv, ct, osl, hfd, lk, hcd⟩ := F.ex
  rw [g] at g'
  cases g'
  rw [lk] at lk'
  cases lk'
  exact F'
end Kj

/-! Kj2: statements, over parts of the heap that stand apart. s: the last of a block; q: something behind. -/
namespace Kj
open PySem PySem.Spec PyProof.Rows L2 Evl
section
variable {K : PySem.W.Frag} {mg : Str → Option Value} {σ : L2.St} {H G : Hp} {Ns : List Hp} {ta tb te tx : TE} {tr : TA} {t u : TT} {v : V} {P : Hp → V → Prop} {W : WX} {xn : Str} {fs : List (Str × V)} {D : Ends} {tu tw tz : TS} {g : TG}
theorem s_v {i : Nat} (o : Own Ns H) (h : Ev te σ H v) (k : ∀ H1, Own Ns H1 → D.nx (σ.set i (some v)) H1) : tAsg te (gName i) D σ H := h H (Ex.refl H) _ fun H1 e => k H1 (o.mono e)
theorem q_v {i : Nat} (o : Own Ns H) (h : Ev te σ H v) (k : ∀ H1, Own Ns H1 → tz D (σ.set i (some v)) H1) : tSeq (tAsg te (gName i)) tz D σ H := s_v (D := { D with nx := tz D }) o h k
theorem s_n {i : Nat} (o : Own Ns H) (h : EvP te σ H P) (k : ∀ v H1 N, Own (N :: Ns) H1 → P N v → D.nx (σ.set i (some v)) H1) : tAsg te (gName i) D σ H := h H (Ex.refl H) _ fun v H1 N e e2 f p => k v H1 N (o.add e e2 f) p
theorem q_n {i : Nat} (o : Own Ns H) (h : EvP te σ H P) (k : ∀ v H1 N, Own (N :: Ns) H1 → P N v → tz D (σ.set i (some v)) H1) : tSeq (tAsg te (gName i)) tz D σ H := s_n (D := { D with nx := tz D }) o h k
theorem s_l {i : Nat} {xs : List V} (o : Own Ns H) (h : EvL te σ H xs) (k : ∀ p H1, Own (sing p (.lst xs) :: Ns) H1 → D.nx (σ.set i (some (.ref p))) H1) : tAsg te (gName i) D σ H := h H (Ex.refl H) _ fun p H1 hp e h1 => k p H1 (o.add e (sing_ex h1) (sing_fr hp))
theorem q_l {i : Nat} {xs : List V} (o : Own Ns H) (h : EvL te σ H xs) (k : ∀ p H1, Own (sing p (.lst xs) :: Ns) H1 → tz D (σ.set i (some (.ref p))) H1) : tSeq (tAsg te (gName i)) tz D σ H := s_l (D := { D with nx := tz D }) o h k
theorem s_dv (o : Own Ns H) (h : EvP te σ H P) (k : ∀ H1, Own Ns H1 → D.nx σ H1) : tDrop te D σ H := h H (Ex.refl H) _ fun v H1 N e _ _ _ => k H1 (o.mono e)
theorem q_dv (o : Own Ns H) (h : EvP te σ H P) (k : ∀ H1, Own Ns H1 → tz D σ H1) : tSeq (tDrop te) tz D σ H := s_dv (D := { D with nx := tz D }) o h k
theorem s_der (h : EvErr mg W xn fs te σ H) (k : RaiseX mg xn fs H (WE W σ)) : tDrop te D σ H := h H (Ex.refl H) k _
theorem q_der (h : EvErr mg W xn fs te σ H) (k : RaiseX mg xn fs H (WE W σ)) : tSeq (tDrop te) tz D σ H := s_der (D := { D with nx := tz D }) h k
theorem s_fi {b : Bool} (o : Own Ns H) (h : EvT t σ H b) (h1 : b = true → ∀ H1, Own Ns H1 → tu D σ H1) (h2 : b = false → ∀ H1, Own Ns H1 → tw D σ H1) : tIfS t tu tw D σ H := h H (Ex.refl H) _ fun H1 e => by
  cases b with
  | true =>
    show tu D σ H1
    exact h1 rfl H1 (o.mono e)
  | false =>
    show tw D σ H1
    exact h2 rfl H1 (o.mono e)
theorem q_fi {b : Bool} (o : Own Ns H) (h : EvT t σ H b) (h1 : b = true → ∀ H1, Own Ns H1 → tu { D with nx := tz D } σ H1) (h2 : b = false → ∀ H1, Own Ns H1 → tw { D with nx := tz D } σ H1) : tSeq (tIfS t tu tw) tz D σ H := s_fi (D := { D with nx := tz D }) o h h1 h2
theorem q_wh {b : Bool} (o : Own Ns H) (h : EvT t σ H b) (h1 : b = true → ∀ H1, Own Ns H1 → tu { D with nx := tz D } σ H1) (h2 : b = false → ∀ H1, Own Ns H1 → tz D σ H1) : tSeq (tIfS t tu tNext) tz D σ H := s_fi (D := { D with nx := tz D }) o h h1 h2
theorem s_wh {b : Bool} (o : Own Ns H) (h : EvT t σ H b) (h1 : b = true → ∀ H1, Own Ns H1 → tu D σ H1) (h2 : b = false → ∀ H1, Own Ns H1 → D.nx σ H1) : tIfS t tu tNext D σ H := s_fi o h h1 h2
theorem s_rv (o : Own Ns H) (h : Ev te σ H v) (k : ∀ H1, Own Ns H1 → D.rt v H1) : tRet te D σ H := h H (Ex.refl H) _ fun H1 e => k H1 (o.mono e)
theorem s_rn (o : Own Ns H) (h : EvP te σ H P) (k : ∀ v H1 N, Own (N :: Ns) H1 → P N v → D.rt v H1) : tRet te D σ H := h H (Ex.refl H) _ fun v H1 N e e2 f p => k v H1 N (o.add e e2 f) p
theorem s_app {l : Addr} {xs : List V} {j : Nat} (o : Own Ns H) (hj : Ns[j]? = some (sing l (.lst xs))) (ha : Ev ta σ H (.ref l)) (h : Ev te σ H v) (hz : xs.length < 100000) (k : ∀ H1, Own (Ns.set j (sing l (.lst (xs ++ [v])))) H1 → D.nx σ H1) : tDrop (tBM K "list" rAppend ta (tCons te tNil)) D σ H := Evl.s_app (o.at hj) ha h hz fun H1 e => k _ ((o.mono e).set hj)
theorem q_app {l : Addr} {xs : List V} {j : Nat} (o : Own Ns H) (hj : Ns[j]? = some (sing l (.lst xs))) (ha : Ev ta σ H (.ref l)) (h : Ev te σ H v) (hz : xs.length < 100000) (k : ∀ H1, Own (Ns.set j (sing l (.lst (xs ++ [v])))) H1 → tz D σ H1) : tSeq (tDrop (tBM K "list" rAppend ta (tCons te tNil))) tz D σ H := s_app (D := { D with nx := tz D }) o hj ha h hz k
theorem s_appN {l : Addr} {xs : List V} {j : Nat} (o : Own Ns H) (hj : Ns[j]? = some (sing l (.lst xs))) (ha : Ev ta σ H (.ref l)) (h : EvP te σ H P) (hz : xs.length < 100000) (k : ∀ v H1 N, Own (N :: Ns.set j (sing l (.lst (xs ++ [v])))) H1 → P N v → D.nx σ H1) : tDrop (tBM K "list" rAppend ta (tCons te tNil)) D σ H := ha H (Ex.refl H) _ fun H1 e1 =>
  ⟨Or.inl ⟨rfl, xs, sq_of (e1 l _ (o.at hj))⟩, h H1 e1 _ fun v H2 N e2 e3 f p => ⟨l, xs, v, rfl, rfl, e2 l _ (e1 l _ (o.at hj)), sz_lt hz, k v _ N (((o.mono e1).add e2 e3 f).set (j := j + 1) hj) p⟩⟩
/-- for x in range(n) -/
theorem s_rg {j : Nat} {n : Int} (o : Own Ns H) (h : EvA tr σ H [.int n]) (hn : n ≤ 100000) (Pv : Nat → L2.St → Hp → Prop) (h0 : ∀ H1, Own Ns H1 → Pv 0 σ H1)
    (hs : ∀ (i : Nat) σ' H', (i : Int) < n → Pv i σ' H' → tu { D with nx := Pv (i + 1), ct := Pv (i + 1), bk := D.nx } (σ'.set j (some (.int (i : Int)))) H') (hd : ∀ σ' H', Pv n.toNat σ' H' → D.nx σ' H') (hm : -100000 ≤ n := by omega) : tFor (iRng1 tr) (gName j) tu D σ H :=
  h H (Ex.refl H) _ fun H1 e => ⟨n, rfl, by omega, by omega, for_range (lo := 0) (n := n.toNat) Pv (h0 H1 (o.mono e)) (fun i σ' H' hi p => by
    have e0 : (0 : Int) + (i : Int) = (i : Int) := Int.zero_add _
    show tu { D with nx := Pv (i + 1), ct := Pv (i + 1), bk := D.nx } (σ'.set j (some (.int ((0 : Int) + (i : Int))))) H'
    rw [e0]
    exact hs i σ' H' (by omega) p) hd⟩
/-- for x in a new list -/
theorem s_fn {xs : List V} {tl : TE} {j : Nat} (o : Own Ns H) (h : EvL tl σ H xs) (Pv : Nat → Addr → L2.St → Hp → Prop) (h0 : ∀ p H1, Own (sing p (.lst xs) :: Ns) H1 → Pv 0 p σ H1) (hl : ∀ i p σ' H', i ≤ xs.length → Pv i p σ' H' → H' p = some (.lst xs))
    (hs : ∀ i p x σ' H', xs[i]? = some x → Pv i p σ' H' → tu { D with nx := Pv (i + 1) p, ct := Pv (i + 1) p, bk := D.nx } (σ'.set j (some x)) H') (hd : ∀ p σ' H', Pv xs.length p σ' H' → D.nx σ' H') : tFor (iList K tl) (gName j) tu D σ H :=
  h H (Ex.refl H) _ fun p H1 hp e h1 => ⟨p, rfl, ⟨xs, sq_of h1⟩, for_list (fun i σ' H' => Pv i p σ' H') (h0 p H1 (o.add e (sing_ex h1) (sing_fr hp))) (fun i σ' H' hi q => sq_of (hl i p σ' H' hi q)) (fun i x σ' H' hx q => hs i p x σ' H' hx q) (fun σ' H' q => hd p σ' H' q)⟩
theorem q_fn {xs : List V} {tl : TE} {j : Nat} (o : Own Ns H) (h : EvL tl σ H xs) (Pv : Nat → Addr → L2.St → Hp → Prop) (h0 : ∀ p H1, Own (sing p (.lst xs) :: Ns) H1 → Pv 0 p σ H1) (hl : ∀ i p σ' H', i ≤ xs.length → Pv i p σ' H' → H' p = some (.lst xs))
    (hs : ∀ i p x σ' H', xs[i]? = some x → Pv i p σ' H' → tu { D with nx := Pv (i + 1) p, ct := Pv (i + 1) p, bk := tz D } (σ'.set j (some x)) H') (hd : ∀ p σ' H', Pv xs.length p σ' H' → tz D σ' H') : tSeq (tFor (iList K tl) (gName j) tu) tz D σ H :=
  s_fn (D := { D with nx := tz D }) o h Pv h0 hl hs hd
/-- while, by a word and a measure -/
theorem q_wl (Pv : Nat → L2.St → Hp → Prop) (m0 : Nat) (h0 : Pv m0 σ H)
    (hs : ∀ m σ' H', Pv m σ' H' → ∃ b, EvT t σ' H' b ∧ (b = true → ∀ H1, Ex H' H1 → tu { D with nx := fun σ2 H2 => ∃ m', m' < m ∧ Pv m' σ2 H2, ct := fun σ2 H2 => ∃ m', m' < m ∧ Pv m' σ2 H2, bk := tz D } σ' H1) ∧ (b = false → ∀ H1, Ex H' H1 → tz D σ' H1)) : tSeq (tWhile t tu) tz D σ H :=
  q_while Pv m0 h0 fun m σ' H' p => by
    obtain ⟨b, h1, h2, h3⟩ := hs m σ' H' p
    exact ⟨b, h1, fun hb H1 e => ⟨_, fun _ _ q => q, h2 hb H1 e⟩, h3⟩
end
end Kj
namespace Kj
open PySem PySem.Spec PyProof.Rows L2 Evl
section
variable {K : PySem.W.Frag} {mg : Str → Option Value} {Wout : WX} {D : Ends} {l : List (Value × (Addr → Value → Option Addr → TS))} {ts : Addr → Value → Option Addr → TS} {σ : L2.St} {H : Hp} {xn : Str} {fs : List (Str × V)} {C : Addr} {c : Value}
end
end Kj

/-! Kj3: what is walked: an iterator by what it draws; loops and comprehensions over it. -/
namespace Kj
open PySem PySem.Spec PyProof.Rows L2 Evl
/-- J draws n items, the i-th told by Y, in every heap that holds G -/
structure Drw (J : L2.It) (G : Hp) (n : Nat) (Y : Nat → V → Hp → Prop) : Prop where
  go : ∀ i H', Ex G H' → i < n → J.go i H'
  stop : ∀ H', Ex G H' → J.stop n H'
  yld : ∀ i H' x H'', Ex G H' → i < n → J.yld i H' x H'' → Ex H' H'' ∧ Y i x H''
theorem Drw.mono {J : L2.It} {G G' : Hp} {n : Nat} {Y : Nat → V → Hp → Prop} (e : Ex G G') (d : Drw J G n Y) : Drw J G' n Y :=
  ⟨fun i H' a h => d.go i H' (e.trans a) h, fun H' a => d.stop H' (e.trans a), fun i H' x H'' a h y => d.yld i H' x H'' (e.trans a) h y⟩
/-- the iterable is worth an iterator that draws so; G: the part that it reads -/
def EvI (wi : TI) (σ : L2.St) (H G : Hp) (n : Nat) (Y : Nat → V → Hp → Prop) : Prop := ∀ H1, Ex H H1 → ∀ R : L2.It → Hp → Prop, (∀ J H2, Ex H1 H2 → Drw J G n Y → R J H2) → wi σ H1 R
theorem drw_list {K : PySem.W.Frag} {G : Hp} {a : Addr} {xs : List V} (h : SqL K G a xs) : Drw (Itl K a) G xs.length fun i x _ => xs[i]? = some x where
  go := fun i H' e hi => ⟨xs, xs[i], ex_l e h, by simp [hi]⟩
  stop := fun H' e => ⟨xs, ex_l e h, Nat.le_refl _⟩
  yld := fun i H' x H'' e hi y => by
    obtain ⟨e1, y⟩ := y
    subst e1
    exact ⟨Ex.refl _, y xs (ex_l e h)⟩
theorem drw_rng {G : Hp} {lo : Int} {n : Nat} : Drw (Itr lo n) G n fun i x _ => x = .int (lo + i) where
  go := fun i H' _ hi => hi
  stop := fun H' _ => Nat.le_refl _
  yld := fun i H' x H'' _ hi y => by
    obtain ⟨e1, y⟩ := y
    subst e1
    exact ⟨Ex.refl _, y⟩
theorem drw_str {G : Hp} {w : Str} : Drw (Its w) G w.cps.size fun i x _ => ∃ c, w.cps[i]? = some c ∧ x = .str ⟨#[c]⟩ where
  go := fun i H' _ hi => hi
  stop := fun H' _ => Nat.le_refl _
  yld := fun i H' x H'' _ hi y => by
    obtain ⟨e1, y⟩ := y
    subst e1
    exact ⟨Ex.refl _, y⟩
theorem drw_enum {K : PySem.W.Frag} {G : Hp} {a : Addr} {xs : List V} (h : SqL K G a xs) : Drw (Ite K a) G xs.length fun i x H' => ∃ T y, x = .ref T ∧ H' T = some (.tup [.int (i : Nat), y]) ∧ xs[i]? = some y where
  go := fun i H' e hi => ⟨xs, xs[i], ex_l e h, by simp [hi]⟩
  stop := fun H' e => ⟨xs, ex_l e h, Nat.le_refl _⟩
  yld := fun i H' x H'' e hi y => by
    obtain ⟨T, z, e1, e2, e3, y⟩ := y
    subst e3
    exact ⟨Ex.new e2, T, z, e1, upd_same, y xs (ex_l e h)⟩
theorem drw_zip {K : PySem.W.Frag} {G : Hp} {a b : Addr} {xs ys : List V} (h : SqL K G a xs) (h2 : SqL K G b ys) (hl : xs.length = ys.length) : Drw (Itz K a b) G xs.length fun i x H' => ∃ T y z, x = .ref T ∧ H' T = some (.tup [y, z]) ∧ xs[i]? = some y ∧ ys[i]? = some z where
  go := fun i H' e hi => ⟨xs, ys, xs[i], ys[i], ex_l e h, ex_l e h2, by simp [hi], by simp⟩
  stop := fun H' e => ⟨xs, ys, ex_l e h, ex_l e h2, .inl (Nat.le_refl _)⟩
  yld := fun i H' x H'' e hi y => by
    obtain ⟨T, z, z2, e1, e2, e3, y, y2⟩ := y
    subst e3
    exact ⟨Ex.new e2, T, z, z2, e1, upd_same, y xs (ex_l e h), y2 ys (ex_l e h2)⟩
theorem drw_zipT {K : PySem.W.Frag} {G : Hp} {a b : Addr} {xs ys : List V} (h : SqT K G a xs) (h2 : SqT K G b ys) (hl : xs.length = ys.length) : Drw (RZ.ItzT K a b) G xs.length fun i x H' => ∃ T y z, x = .ref T ∧ H' T = some (.tup [y, z]) ∧ xs[i]? = some y ∧ ys[i]? = some z where
  go := fun i H' e hi => ⟨xs, ys, xs[i], ys[i], ex_t e h, ex_t e h2, by simp [hi], by simp⟩
  stop := fun H' e => ⟨xs, ys, ex_t e h, ex_t e h2, .inl (Nat.le_refl _)⟩
  yld := fun i H' x H'' e hi y => by
    obtain ⟨T, z, z2, e1, e2, e3, y, y2⟩ := y
    subst e3
    exact ⟨Ex.new e2, T, z, z2, e1, upd_same, y xs (ex_t e h), y2 ys (ex_t e h2)⟩
section
variable {K : PySem.W.Frag} {mg : Str → Option Value} {σ : L2.St} {H G : Hp} {Ns : List Hp} {ta tb te tx : TE} {tr : TA} {t tt : TT} {v : V} {P : Hp → V → Prop} {W : WX} {D : Ends} {tu tw tz : TS} {g : TG} {wi : TI} {n : Nat} {Y : Nat → V → Hp → Prop}
theorem ei_list {a : Addr} {xs : List V} (h : Ev te σ H (.ref a)) (hx : SqL K G a xs) (eg : Ex G H) : EvI (iList K te) σ H G xs.length fun i x _ => xs[i]? = some x := fun H1 e R q => h H1 e _ fun H2 e2 => ⟨a, rfl, ⟨xs, ex_l ((eg.trans e).trans e2) hx⟩, q _ H2 e2 (drw_list hx)⟩
theorem ei_rng1 {m : Int} (h : EvA tr σ H [.int m]) (hm : -100000 ≤ m ∧ m ≤ 100000) : EvI (iRng1 tr) σ H G m.toNat fun i x _ => x = .int (i : Nat) := fun H1 e R q => h H1 e _ fun H2 e2 => ⟨m, rfl, by omega, by omega, q _ H2 e2 ⟨drw_rng.go, drw_rng.stop (G := G), fun i H' x H'' a hi y => by
  obtain ⟨z1, z2⟩ := (drw_rng (G := G)).yld i H' x H'' a hi y
  exact ⟨z1, by rw [z2, Int.zero_add]⟩⟩⟩
theorem ei_rng2 {l m : Int} (h : EvA tr σ H [.int l, .int m]) (hm : -100000 ≤ m ∧ m ≤ 100000) (hl : -100000 ≤ l ∧ l ≤ 100000) : EvI (iRng2 tr) σ H G (m - l).toNat fun i x _ => x = .int (l + (i : Nat)) := fun H1 e R q => h H1 e _ fun H2 e2 => ⟨l, m, rfl, ⟨by omega, by omega, by omega, by omega⟩, q _ H2 e2 drw_rng⟩
theorem ei_str {w : Str} (h : Ev te σ H (.str w)) : EvI (iStr te) σ H G w.cps.size fun i x _ => ∃ c, w.cps[i]? = some c ∧ x = .str ⟨#[c]⟩ := fun H1 e R q => h H1 e _ fun H2 e2 => ⟨w, rfl, q _ H2 e2 drw_str⟩
theorem ei_enum {a : Addr} {xs : List V} (h : EvA tr σ H [.ref a]) (hx : SqL K G a xs) (eg : Ex G H) : EvI (iEnum K tr) σ H G xs.length fun i x H' => ∃ T y, x = .ref T ∧ H' T = some (.tup [.int (i : Nat), y]) ∧ xs[i]? = some y := fun H1 e R q => h H1 e _ fun H2 e2 => ⟨a, xs, rfl, ex_l ((eg.trans e).trans e2) hx, q _ H2 e2 (drw_enum hx)⟩
theorem ei_zip {a b : Addr} {xs ys : List V} (h : EvA tr σ H [.ref a, .ref b]) (hx : SqL K G a xs) (hy : SqL K G b ys) (hl : xs.length = ys.length) (eg : Ex G H) : EvI (RZ.iZipA K tr) σ H G xs.length fun i x H' => ∃ T y z, x = .ref T ∧ H' T = some (.tup [y, z]) ∧ xs[i]? = some y ∧ ys[i]? = some z := fun H1 e R q =>
  h H1 e _ fun H2 e2 => ⟨a, b, xs, ys, rfl, .inl ⟨ex_l ((eg.trans e).trans e2) hx, ex_l ((eg.trans e).trans e2) hy, q _ H2 e2 (drw_zip hx hy hl)⟩⟩
theorem ei_zipT {a b : Addr} {xs ys : List V} (h : EvA tr σ H [.ref a, .ref b]) (hx : SqT K G a xs) (hy : SqT K G b ys) (hl : xs.length = ys.length) (eg : Ex G H) : EvI (RZ.iZipA K tr) σ H G xs.length fun i x H' => ∃ T y z, x = .ref T ∧ H' T = some (.tup [y, z]) ∧ xs[i]? = some y ∧ ys[i]? = some z := fun H1 e R q =>
  h H1 e _ fun H2 e2 => ⟨a, b, xs, ys, rfl, .inr ⟨ex_t ((eg.trans e).trans e2) hx, ex_t ((eg.trans e).trans e2) hy, q _ H2 e2 (drw_zipT hx hy hl)⟩⟩
/-! ### loops -/
theorem for_drw {J : L2.It} (d : Drw J G n Y) (Pv : Nat → L2.St → Hp → Prop) (h0 : Pv 0 σ H) (hG : ∀ i σ' H', i ≤ n → Pv i σ' H' → Ex G H')
    (hs : ∀ i x σ' H' H'', i < n → Pv i σ' H' → Ex H' H'' → Y i x H'' → g x σ' H'' fun σ2 H2 => tu { D with nx := Pv (i + 1), ct := Pv (i + 1), bk := D.nx } σ2 H2) (hd : ∀ σ' H', Pv n σ' H' → D.nx σ' H') :
    ∃ W : Nat → Nat → L2.St → Hp → Prop, (∃ m, W 0 m σ H) ∧ ∀ i m σ H, W i m σ H →
      (J.stop i H ∧ D.nx σ H) ∨ (J.go i H ∧ ∃ N : L2.St → Hp → Prop, (∀ σ' H', N σ' H' → ∃ m', m' < m ∧ W (i + 1) m' σ' H') ∧ ∀ x H', J.yld i H x H' → g x σ H' fun σ2 H2 => tu { D with nx := N, ct := N, bk := D.nx } σ2 H2) := by
  refine ⟨fun i m σ H => m = n - i ∧ i ≤ n ∧ Pv i σ H, ⟨n, by simp, Nat.zero_le _, h0⟩, ?_⟩
  rintro i m σ H ⟨rfl, hi, p⟩
  have eG := hG i σ H hi p
  by_cases hlt : i < n
  · refine .inr ⟨d.go i H eG hlt, Pv (i + 1), fun σ' H' p' => ⟨n - (i + 1), by omega, rfl, hlt, p'⟩, fun x H' y => ?_⟩
    obtain ⟨e, y⟩ := d.yld i H x H' eG hlt y
    exact hs i x σ H H' hlt p e y
  · have e : i = n := by omega
    subst e
    exact .inl ⟨d.stop H eG, hd σ H p⟩
theorem s_for (o : Own Ns H) (hi : EvI wi σ H G n Y) (Pv : Nat → L2.St → Hp → Prop) (h0 : ∀ H1, Own Ns H1 → Pv 0 σ H1) (hG : ∀ i σ' H', i ≤ n → Pv i σ' H' → Ex G H')
    (hs : ∀ i x σ' H' H'', i < n → Pv i σ' H' → Ex H' H'' → Y i x H'' → g x σ' H'' fun σ2 H2 => tu { D with nx := Pv (i + 1), ct := Pv (i + 1), bk := D.nx } σ2 H2) (hd : ∀ σ' H', Pv n σ' H' → D.nx σ' H') : tFor wi g tu D σ H :=
  hi H (Ex.refl H) _ fun J H1 e d => for_drw d Pv (h0 H1 (o.mono e)) hG hs hd
theorem q_for (o : Own Ns H) (hi : EvI wi σ H G n Y) (Pv : Nat → L2.St → Hp → Prop) (h0 : ∀ H1, Own Ns H1 → Pv 0 σ H1) (hG : ∀ i σ' H', i ≤ n → Pv i σ' H' → Ex G H')
    (hs : ∀ i x σ' H' H'', i < n → Pv i σ' H' → Ex H' H'' → Y i x H'' → g x σ' H'' fun σ2 H2 => tu { D with nx := Pv (i + 1), ct := Pv (i + 1), bk := tz D } σ2 H2) (hd : ∀ σ' H', Pv n σ' H' → tz D σ' H') : tSeq (tFor wi g tu) tz D σ H :=
  s_for (D := { D with nx := tz D }) o hi Pv h0 hG hs hd
/-! ### comprehensions -/
theorem lc_drw {J : L2.It} {vs : List Nat} {H1 : Hp} {Dl : Addr} {Qd : Hp → Prop} (d : Drw J G n Y) (Pv : Nat → Hp → Prop) (h0 : Pv 0 (upd H1 Dl (.lst []))) (hG : ∀ i H', i ≤ n → Pv i H' → Ex G H')
    (hs : ∀ i x H' H'', i < n → Pv i H' → Ex H' H'' → Y i x H'' → g x (wipe σ vs) H'' fun σ2 H2 => wipe σ2 vs = wipe σ vs ∧ tt σ2 H2 fun b H3 =>
      if b = true then te σ2 H3 fun y H4 => ∃ acc, H4 Dl = some (.lst acc) ∧ acc.length < sizeLine ∧ Pv (i + 1) (upd H4 Dl (.lst (acc ++ [y]))) else Pv (i + 1) H3) (hd : ∀ H', Pv n H' → Qd H') :
    ∃ W : Nat → Nat → Hp → Prop, (∃ m, W 0 m (upd H1 Dl (.lst []))) ∧ ∀ i m H, W i m H →
      (J.stop i H ∧ Qd H) ∨ (J.go i H ∧ ∃ Nx : Hp → Prop, (∀ H', Nx H' → ∃ m', m' < m ∧ W (i + 1) m' H') ∧ ∀ x H', J.yld i H x H' → g x (wipe σ vs) H' fun σ2 H2 => wipe σ2 vs = wipe σ vs ∧ tt σ2 H2 fun b H3 =>
        if b = true then te σ2 H3 fun y H4 => ∃ acc, H4 Dl = some (.lst acc) ∧ acc.length < sizeLine ∧ Nx (upd H4 Dl (.lst (acc ++ [y]))) else Nx H3) := by
  refine ⟨fun i m H => m = n - i ∧ i ≤ n ∧ Pv i H, ⟨n, by simp, Nat.zero_le _, h0⟩, ?_⟩
  rintro i m H ⟨rfl, hi, p⟩
  have eG := hG i H hi p
  by_cases hlt : i < n
  · refine .inr ⟨d.go i H eG hlt, Pv (i + 1), fun H' p' => ⟨n - (i + 1), by omega, rfl, hlt, p'⟩, fun x H' y => ?_⟩
    obtain ⟨e, y⟩ := d.yld i H x H' eG hlt y
    exact hs i x H H' hlt p e y
  · have e : i = n := by omega
    subst e
    exact .inl ⟨d.stop H eG, hd H p⟩
/-- the places that are taken -/
def picks (n : Nat) (f : Nat → Bool) : List Nat := (List.range n).filter f
theorem picks_yes {i : Nat} {f : Nat → Bool} (h : f i = true) : picks (i + 1) f = picks i f ++ [i] := by
  unfold picks
  rw [List.range_succ, List.filter_append, List.filter_cons, if_pos h]
  rfl
theorem picks_no {i : Nat} {f : Nat → Bool} (h : f i = false) : picks (i + 1) f = picks i f := by
  unfold picks
  rw [List.range_succ, List.filter_append, List.filter_cons, if_neg (by rw [h]; decide)]
  exact List.append_nil _
theorem picks_len (n : Nat) (f : Nat → Bool) : (picks n f).length ≤ n := by
  have h := List.length_filter_le f (List.range n)
  rw [List.length_range] at h
  exact h
theorem paired_snoc {α β : Type} {R : α → β → Prop} : ∀ {xs : List α} {ys : List β} {x : α} {y : β}, Paired R xs ys → R x y → Paired R (xs ++ [x]) (ys ++ [y])
  | _, _, _, _, .nil, h => .cons h .nil
  | _, _, _, _, .cons a r, h => .cons a (paired_snoc r h)
theorem paired_imp {α β : Type} {R R' : α → β → Prop} (i : ∀ x y, R x y → R' x y) : ∀ {xs : List α} {ys : List β}, Paired R xs ys → Paired R' xs ys
  | _, _, .nil => .nil
  | _, _, .cons a r => .cons (i _ _ a) (paired_imp i r)
/-- flat values -/
theorem el_lc {vs : List Nat} (S : Nat → L2.St) (f : Nat → Bool) (v : Nat → V) (hi : EvI wi σ H G n Y) (eG : Ex G H) (hn : n ≤ 50000) (hg : ∀ i x H', i < n → Y i x H' → ∀ Q : L2.St → Hp → Prop, Q (S i) H' → g x (wipe σ vs) H' Q) (hw : ∀ i, i < n → wipe (S i) vs = wipe σ vs)
    (ht : ∀ i H1, Ex H H1 → i < n → EvT tt (S i) H1 (f i)) (he : ∀ i H1, Ex H H1 → i < n → f i = true → Ev te (S i) H1 (v i)) : EvL (tLc wi g tt te vs) σ H ((picks n f).map v) := fun H0 e Q q =>
  hi H0 e _ fun J H1 e1 d Dl hD => lc_drw d (fun i H' => Ex H1 H' ∧ H' Dl = some (.lst ((picks i f).map v))) ⟨Ex.new hD, upd_same⟩ (fun i H' _ p => ((eG.trans e).trans e1).trans p.1) (fun i x H' H'' hlt p e2 hy => hg i x H'' hlt hy _ ⟨hw i hlt, by
    refine ht i H'' (((e.trans e1).trans p.1).trans e2) hlt H'' (Ex.refl _) _ fun H3 e3 => ?_
    cases hf : f i with
    | true =>
      show te (S i) H3 _
      refine he i H3 ((((e.trans e1).trans p.1).trans e2).trans e3) hlt hf H3 (Ex.refl _) _ fun H4 e4 => ⟨_, e4 _ _ (e3 _ _ (e2 _ _ p.2)), ?_, Ex.mut (((p.1.trans e2).trans e3).trans e4) hD, ?_⟩
      · rw [List.length_map]
        exact sz_lt (by have := picks_len i f; omega)
      · rw [upd_same, picks_yes hf, List.map_append]
        rfl
    | false =>
      show Ex H1 H3 ∧ H3 Dl = _
      refine ⟨(p.1.trans e2).trans e3, ?_⟩
      rw [picks_no hf]
      exact e3 _ _ (e2 _ _ p.2)⟩) (fun H' p => q Dl H' (fresh_back e1 hD) (e1.trans p.1) p.2)
/-- new values: the list and its items are one new part -/
theorem ep_lc {vs : List Nat} (S : Nat → L2.St) (f : Nat → Bool) (Pe : Nat → Hp → V → Prop) (pm : ∀ i N N' v, Ex N N' → Pe i N v → Pe i N' v) (hi : EvI wi σ H G n Y) (eG : Ex G H) (hn : n ≤ 50000) (hg : ∀ i x H', i < n → Y i x H' → ∀ Q : L2.St → Hp → Prop, Q (S i) H' → g x (wipe σ vs) H' Q) (hw : ∀ i, i < n → wipe (S i) vs = wipe σ vs)
    (ht : ∀ i H1, Ex H H1 → i < n → EvT tt (S i) H1 (f i)) (he : ∀ i H1, Ex H H1 → i < n → f i = true → EvP te (S i) H1 (Pe i)) :
    EvP (tLc wi g tt te vs) σ H (fun N v => ∃ p xs, v = .ref p ∧ N p = some (.lst xs) ∧ Paired (fun i x => Pe i N x) (picks n f) xs) := fun H0 e Q q =>
  hi H0 e _ fun J H1 e1 d Dl hD => lc_drw d (fun i H' => ∃ N xs, Own [sing Dl (.lst xs), N, H1] H' ∧ Paired (fun i x => Pe i N x) (picks i f) xs ∧ xs.length ≤ i)
    ⟨emp, [], ⟨sing_ex upd_same, fun M hM a ha => by
      rcases List.mem_cons.mp hM with z | z
      · subst z; rfl
      · have z : M = H1 := by simpa using z
        subst z
        by_cases qa : a = Dl
        · subst qa; exact hD
        · exact absurd (sing_ne qa) ha, emp_ex, (fun _ _ a ha => absurd rfl ha), Ex.new hD, (fun _ h => nomatch h), trivial⟩, .nil, Nat.le_refl _⟩
    (fun i H' _ ⟨N, xs, o, _⟩ => ((eG.trans e).trans e1).trans o.e2) (fun i x H' H'' hlt ⟨N, xs, o, pr, hl⟩ e2 hy => hg i x H'' hlt hy _ ⟨hw i hlt, by
      have o2 := o.mono e2
      refine ht i H'' ((e.trans e1).trans o2.e2) hlt H'' (Ex.refl _) _ fun H3 e3 => ?_
      have o3 := o2.mono e3
      cases hf : f i with
      | true =>
        show te (S i) H3 _
        refine he i H3 ((e.trans e1).trans o3.e2) hlt hf H3 (Ex.refl _) _ fun y H4 N2 e4 i2 f2 py => ?_
        have o4 : Own [N2, sing Dl (.lst xs), N, H1] H4 := o3.add e4 i2 f2
        refine ⟨xs, o4.at (j := 1) rfl, sz_lt (by omega), uni N N2, xs ++ [y], ?_, ?_, ?_⟩
        · have o5 : Own [N2, sing Dl (.lst (xs ++ [y])), N, H1] (upd H4 Dl (.lst (xs ++ [y]))) := o4.set (j := 1) rfl
          have o6 : Own [sing Dl (.lst (xs ++ [y])), N2, N, H1] (upd H4 Dl (.lst (xs ++ [y]))) := o5.swap
          have o7 : Own [uni N N2, H1] (upd H4 Dl (.lst (xs ++ [y]))) := o6.tail.merge
          refine ⟨o6.1, fun M hM a ha => ?_, o7⟩
          rcases List.mem_cons.mp hM with z | z
          · subst z
            have d1 := o6.dj (i := 0) (j := 1) (by decide) rfl rfl
            have d2 := o6.dj (i := 0) (j := 2) (by decide) rfl rfl
            unfold uni
            rw [d1 a ha]
            exact d2 a ha
          · exact o6.2.1 M (List.mem_cons_of_mem _ (List.mem_cons_of_mem _ z)) a ha
        · rw [picks_yes hf]
          have dN : ∀ a, N2 a ≠ none → N a = none := o4.dj (i := 0) (j := 2) (by decide) rfl rfl
          exact paired_snoc (paired_imp (fun j z h => pm j _ _ _ (uni_l dN) h) pr) (pm i _ _ _ uni_r py)
        · rw [List.length_append, List.length_singleton]
          omega
      | false =>
        show ∃ N xs, _
        refine ⟨N, xs, o3, ?_, by omega⟩
        rw [picks_no hf]
        exact pr⟩) (fun H' ⟨N, xs, o, pr, _⟩ => q (.ref Dl) H' (uni N (sing Dl (.lst xs))) (e1.trans o.e2) (uni_ex o.e1 o.e0) (uni_fr (Fr.back e1 (o.dj (i := 1) (j := 2) (by decide) rfl rfl)) (sing_fr (fresh_back e1 hD))) ⟨Dl, xs, rfl, uni_r _ _ sing_at, paired_imp (fun j z h => pm j _ _ _ (uni_l (o.dj (i := 0) (j := 1) (by decide) rfl rfl)) h) pr⟩)
end
end Kj
namespace Kj
open PySem PySem.Spec PyProof.Rows L2 Evl
/-! ### by the items themselves -/
theorem picks_items {α β : Type} (d : α) (t : α → Bool) (f : α → β) : ∀ xs : List α, (picks xs.length fun i => t (xs.getD i d)).map (fun i => f (xs.getD i d)) = (xs.filter t).map f := by
  intro xs
  have key : ∀ n, n ≤ xs.length → (picks n fun i => t (xs.getD i d)).map (fun i => f (xs.getD i d)) = ((xs.take n).filter t).map f := by
    intro n
    induction n with
    | zero => intro _; rfl
    | succ n ih =>
      intro hn
      have hlt : n < xs.length := hn
      have e1 : xs.take (n + 1) = xs.take n ++ [xs[n]] := List.take_succ_eq_append_getElem hlt
      have e2 : xs.getD n d = xs[n] := by
        rw [List.getD_eq_getElem?_getD, List.getElem?_eq_getElem hlt]
        rfl
      cases ht : t (xs.getD n d) with
      | true =>
        rw [picks_yes (f := fun i => t (xs.getD i d)) ht, List.map_append, ih (by omega), e1, List.filter_append, List.map_append]
        congr 1
        rw [List.filter_cons, if_pos (by rw [← e2]; exact ht), ← e2]
        rfl
      | false =>
        rw [picks_no (f := fun i => t (xs.getD i d)) ht, ih (by omega), e1, List.filter_append, List.map_append]
        rw [List.filter_cons, if_neg (by rw [← e2, ht]; decide)]
        exact (List.append_nil _).symm
  have h := key xs.length (Nat.le_refl _)
  rw [List.take_length] at h
  exact h
section
variable {K : PySem.W.Frag} {mg : Str → Option Value} {σ : L2.St} {H G : Hp} {te : TE} {tr : TA} {tt : TT} {g : TG} {wi : TI}
theorem getD_of {xs : List V} {i : Nat} {x : V} (h : xs[i]? = some x) : xs.getD i .non = x := by
  rw [List.getD_eq_getElem?_getD, h]
  rfl
theorem get_of {xs : List V} {i : Nat} (h : i < xs.length) : xs[i]? = some (xs.getD i .non) := by
  rw [List.getD_eq_getElem?_getD, List.getElem?_eq_getElem h]
  rfl
theorem el_lcX {xs : List V} {vs : List Nat} (S : V → L2.St) (t : V → Bool) (f : V → V) (hi : EvI wi σ H G xs.length fun i x _ => xs[i]? = some x) (eG : Ex G H) (hn : xs.length ≤ 50000) (hg : ∀ x H', x ∈ xs → ∀ Q : L2.St → Hp → Prop, Q (S x) H' → g x (wipe σ vs) H' Q) (hw : ∀ x, wipe (S x) vs = wipe σ vs)
    (ht : ∀ x H1, Ex H H1 → x ∈ xs → EvT tt (S x) H1 (t x)) (he : ∀ x H1, Ex H H1 → x ∈ xs → t x = true → Ev te (S x) H1 (f x)) : EvL (tLc wi g tt te vs) σ H ((xs.filter t).map f) := by
  have m : ∀ {i}, i < xs.length → xs.getD i .non ∈ xs := fun h => List.mem_of_getElem? (get_of h)
  have h := el_lc (fun i => S (xs.getD i .non)) (fun i => t (xs.getD i .non)) (fun i => f (xs.getD i .non)) hi eG hn (fun i x H' hlt hx Q q => by rw [getD_of hx] at q; exact hg x H' (List.mem_of_getElem? hx) Q q) (fun i _ => hw _) (fun i H1 e hlt => ht _ H1 e (m hlt)) (fun i H1 e hlt h => he _ H1 e (m hlt) h)
  rw [picks_items] at h
  exact h
theorem paired_picks {R : V → V → Prop} {t : V → Bool} : ∀ {xs ys : List V}, Paired (fun (i : Nat) y => R (xs.getD i .non) y) (picks xs.length fun i => t (xs.getD i .non)) ys → Paired R (xs.filter t) ys := by
  intro xs ys h
  have e : xs.filter t = (picks xs.length fun i => t (xs.getD i .non)).map fun i => xs.getD i .non := by
    rw [picks_items (f := fun x : V => x)]
    simp
  rw [e]
  generalize (picks xs.length fun i => t (xs.getD i .non)) = is at h
  induction h with
  | nil => exact .nil
  | cons a _ ih => exact .cons a ih
theorem ep_lcX {xs : List V} {vs : List Nat} (S : V → L2.St) (t : V → Bool) (Pe : V → Hp → V → Prop) (pm : ∀ x N N' v, Ex N N' → Pe x N v → Pe x N' v) (hi : EvI wi σ H G xs.length fun i x _ => xs[i]? = some x) (eG : Ex G H) (hn : xs.length ≤ 50000) (hg : ∀ x H', x ∈ xs → ∀ Q : L2.St → Hp → Prop, Q (S x) H' → g x (wipe σ vs) H' Q) (hw : ∀ x, wipe (S x) vs = wipe σ vs)
    (ht : ∀ x H1, Ex H H1 → x ∈ xs → EvT tt (S x) H1 (t x)) (he : ∀ x H1, Ex H H1 → x ∈ xs → t x = true → EvP te (S x) H1 (Pe x)) :
    EvP (tLc wi g tt te vs) σ H (fun N v => ∃ p ys, v = .ref p ∧ N p = some (.lst ys) ∧ Paired (fun x y => Pe x N y) (xs.filter t) ys) := by
  have m : ∀ {i}, i < xs.length → xs.getD i .non ∈ xs := fun h => List.mem_of_getElem? (get_of h)
  refine ep_imp (ep_lc (fun i => S (xs.getD i .non)) (fun i => t (xs.getD i .non)) (fun i => Pe (xs.getD i .non)) (fun i N N' v e h => pm _ N N' v e h) hi eG hn (fun i x H' hlt hx Q q => by rw [getD_of hx] at q; exact hg x H' (List.mem_of_getElem? hx) Q q) (fun i _ => hw _) (fun i H1 e hlt => ht _ H1 e (m hlt)) (fun i H1 e hlt h => he _ H1 e (m hlt) h)) ?_
  rintro N v ⟨p, ys, e, h1, h2⟩
  exact ⟨p, ys, e, h1, paired_picks h2⟩
def signs (w : Str) : List V := w.cps.toList.map fun c => .str ⟨#[c]⟩
theorem signs_len (w : Str) : (signs w).length = w.length := by
  unfold signs
  rw [List.length_map]
  simp [Str.length]
theorem ei_strX {w : Str} (h : Ev te σ H (.str w)) : EvI (iStr te) σ H G (signs w).length fun i x _ => (signs w)[i]? = some x := fun H1 e R q => ei_str (G := G) h H1 e R fun J H2 e2 d => q J H2 e2 ⟨fun i H' a hi => d.go i H' a (by rw [signs_len] at hi; exact hi), fun H' a => by rw [signs_len]; exact d.stop H' a, fun i H' x H'' a hi y => by
  obtain ⟨e3, c, hc, rfl⟩ := d.yld i H' x H'' a (by rw [signs_len] at hi; exact hi) y
  refine ⟨e3, ?_⟩
  unfold signs
  rw [List.getElem?_map, Array.getElem?_toList, hc]
  rfl⟩
def rngV (n : Nat) : List V := (List.range n).map fun i => .int (i : Nat)
theorem rngV_len (n : Nat) : (rngV n).length = n := by simp [rngV]
theorem ei_rngX {m : Int} (h : EvA tr σ H [.int m]) (hm : -100000 ≤ m ∧ m ≤ 100000) : EvI (iRng1 tr) σ H G (rngV m.toNat).length fun i x _ => (rngV m.toNat)[i]? = some x := fun H1 e R q => ei_rng1 (G := G) h hm H1 e R fun J H2 e2 d => q J H2 e2 ⟨fun i H' a hi => d.go i H' a (by rw [rngV_len] at hi; exact hi), fun H' a => by rw [rngV_len]; exact d.stop H' a, fun i H' x H'' a hi y => by
  rw [rngV_len] at hi
  obtain ⟨e3, rfl⟩ := d.yld i H' x H'' a hi y
  refine ⟨e3, ?_⟩
  unfold rngV
  rw [List.getElem?_map, List.getElem?_range hi]
  rfl⟩
def rngV2 (l : Int) (n : Nat) : List V := (List.range n).map fun i => .int (l + (i : Nat))
theorem rngV2_len (l : Int) (n : Nat) : (rngV2 l n).length = n := by simp [rngV2]
theorem ei_rngX2 {l m : Int} (h : EvA tr σ H [.int l, .int m]) (hm : -100000 ≤ m ∧ m ≤ 100000) (hl : -100000 ≤ l ∧ l ≤ 100000) : EvI (iRng2 tr) σ H G (rngV2 l (m - l).toNat).length fun i x _ => (rngV2 l (m - l).toNat)[i]? = some x := fun H1 e R q => ei_rng2 (G := G) h hm hl H1 e R fun J H2 e2 d => q J H2 e2 ⟨fun i H' a hi => d.go i H' a (by rw [rngV2_len] at hi; exact hi), fun H' a => by rw [rngV2_len]; exact d.stop H' a, fun i H' x H'' a hi y => by
  rw [rngV2_len] at hi
  obtain ⟨e3, rfl⟩ := d.yld i H' x H'' a hi y
  refine ⟨e3, ?_⟩
  unfold rngV2
  rw [List.getElem?_map, List.getElem?_range hi]
  rfl⟩
theorem et_yes : EvT tYes σ H true := fun H1 _ _ q => q H1 (Ex.refl H1)
end
end Kj
namespace Kj
open PySem PySem.Spec PyProof.Rows L2 Evl
section
variable {K : PySem.W.Frag} {σ : L2.St} {H G : Hp} {Ns : List Hp} {D : Ends} {tu tz : TS} {wi : TI} {n j : Nat} {Y : Nat → V → Hp → Prop}
/-! ### the loop's target is a name -/
theorem s_forN (o : Own Ns H) (hi : EvI wi σ H G n Y) (Pv : Nat → L2.St → Hp → Prop) (h0 : ∀ H1, Own Ns H1 → Pv 0 σ H1) (hG : ∀ i σ' H', i ≤ n → Pv i σ' H' → Ex G H')
    (hs : ∀ i x σ' H' H'', i < n → Pv i σ' H' → Ex H' H'' → Y i x H'' → tu { D with nx := Pv (i + 1), ct := Pv (i + 1), bk := D.nx } (σ'.set j (some x)) H'') (hd : ∀ σ' H', Pv n σ' H' → D.nx σ' H') : tFor wi (gName j) tu D σ H := s_for o hi Pv h0 hG hs hd
theorem q_forN (o : Own Ns H) (hi : EvI wi σ H G n Y) (Pv : Nat → L2.St → Hp → Prop) (h0 : ∀ H1, Own Ns H1 → Pv 0 σ H1) (hG : ∀ i σ' H', i ≤ n → Pv i σ' H' → Ex G H')
    (hs : ∀ i x σ' H' H'', i < n → Pv i σ' H' → Ex H' H'' → Y i x H'' → tu { D with nx := Pv (i + 1), ct := Pv (i + 1), bk := tz D } (σ'.set j (some x)) H'') (hd : ∀ σ' H', Pv n σ' H' → tz D σ' H') : tSeq (tFor wi (gName j) tu) tz D σ H := q_for o hi Pv h0 hG hs hd
end
end Kj

/-! Kj4: data: items, kinds, depth; isinstance. -/
namespace Kj
open PySem PySem.Spec PyProof.Rows L2 Evl
section
variable {K : PySem.W.Frag} {H H' : Hp}
theorem dpa_len : ∀ {xs : List V} {ds : List PyData}, DpAll K H xs ds → xs.length = ds.length
  | _, _, .nil => rfl
  | _, _, .cons _ r => by rw [List.length_cons, List.length_cons, dpa_len r]
theorem dpa_get : ∀ {xs : List V} {ds : List PyData} {i : Nat} {x : V}, DpAll K H xs ds → xs[i]? = some x → ∃ d, ds[i]? = some d ∧ Dp K H x d
  | _, _, _, _, .nil, e => by simp at e
  | _, _, 0, _, .cons h _, e => by
    simp at e
    subst e
    exact ⟨_, rfl, h⟩
  | _, _, i + 1, _, .cons _ r, e => by
    obtain ⟨d, h1, h2⟩ := dpa_get (i := i) r (by simpa using e)
    exact ⟨d, by simpa using h1, h2⟩
theorem depthAll_get : ∀ {ds : List PyData} {i : Nat} {d : PyData}, ds[i]? = some d → d.depth ≤ PyData.depthAll ds
  | [], _, _, e => by simp at e
  | x :: r, 0, _, e => by
    simp at e
    subst e
    simp only [PyData.depthAll]
    omega
  | x :: r, i + 1, _, e => by
    have h := depthAll_get (ds := r) (i := i) (by simpa using e)
    simp only [PyData.depthAll]
    omega
/-- the kind of a datum -/
def kindS : PyData → String
  | .none => "NoneType"
  | .bool _ => "bool"
  | .int _ => "int"
  | .str _ => "str"
  | .list _ => "list"
  | .tuple _ => "tuple"
  | .dict _ => "dict"
theorem ty_sqL {a : Addr} {xs : List V} (h : SqL K H a xs) : TyX K H (.ref a) (.type "list") := by
  rcases h with (h | ⟨o, h⟩) | ⟨o, its, n, h1, h2, _⟩
  · exact .base (.lst h)
  · exact .base (.frz h)
  · exact .kList h1 h2
theorem ty_sqT {a : Addr} {xs : List V} (h : SqT K H a xs) : TyX K H (.ref a) (.type "tuple") := by
  rcases h with (h | ⟨o, h⟩) | ⟨o, its, n, h1, h2, _⟩
  · exact .base (.tup h)
  · exact .fTuple h
  · exact .kTuple h1 h2
theorem ty_dp {x : V} {d : PyData} (h : Dp K H x d) : TyX K H x (.type (kindS d)) := by
  cases h with
  | non => exact .base .non
  | bl b => exact .base (.bl b)
  | int i => exact .base (.int i)
  | str s => exact .base (.str s)
  | lst h _ => exact ty_sqL h
  | tup h _ => exact ty_sqT h
/-- isinstance(x, T) of a datum -/
theorem ev_isi {σ : L2.St} {te : TE} {x : V} {d : PyData} {n : String} {b : Bool} (h : Ev te σ H x) (hd : Dp K H x d) (hk : kitB (kindS d) n = some b) : Ev (tCB (rIsiU K) (tCons te (tCons (tC (.ty n)) tNil))) σ H (.bl b) := fun H1 e Q q =>
  h H1 e _ fun H2 e2 => .inl ⟨x, .ty n, .type (kindS d), .type n, b, rfl, .ty n, ty_dp (dp_mono (e.trans e2) hd), kit_ty hk, q H2 e2⟩
/-- isinstance(x, (T1, T2)) -/
theorem ev_isi2 {σ : L2.St} {te : TE} {x : V} {d : PyData} {n1 n2 : String} {b1 b2 : Bool} (h : Ev te σ H x) (hd : Dp K H x d) (hk1 : kitB (kindS d) n1 = some b1) (hk2 : kitB (kindS d) n2 = some b2) :
    Ev (tCB (rIsiU K) (tCons te (tCons (tTup (tCons (tC (.ty n1)) (tCons (tC (.ty n2)) tNil))) tNil))) σ H (.bl (b1 || b2)) := fun H1 e Q q =>
  h H1 e _ fun H2 e2 => ⟨by show 2 ≤ sizeLine; decide, fun p hp => .inr ⟨x, p, [.ty n1, .ty n2], .type (kindS d), [.type n1, .type n2], b1 || b2, rfl, upd_same, .cons (.ty n1) (.cons (.ty n2) .nil), ty_dp (dp_mono ((e.trans e2).trans (Ex.new hp)) hd), by
    refine kitAny_cons (kit_ty hk1) (fun h1 => kitAny_cons (kit_ty hk2) (fun h2 => ?_) (fun h2 => ?_)) (fun h1 => ?_)
    · rw [kitAny_nil, h1, h2]; rfl
    · rw [h2, Bool.or_true]
    · rw [h1, Bool.true_or], q _ (e2.trans (Ex.new hp))⟩⟩
end
mutual
/-- no list in it is too long -/
def smD : PyData → Prop
  | .list ds => ds.length ≤ 40000 ∧ smA ds
  | .tuple ds => ds.length ≤ 40000 ∧ smA ds
  | .none | .bool _ | .int _ | .str _ | .dict _ => True
def smA : List PyData → Prop
  | [] => True
  | d :: r => smD d ∧ smA r
end
theorem smA_all : ∀ {ds : List PyData}, smA ds ↔ ∀ d ∈ ds, smD d
  | [] => by simp [smA]
  | d :: r => by simp [smA, smA_all (ds := r)]
theorem smD_list {ds : List PyData} : smD (.list ds) ↔ ds.length ≤ 40000 ∧ ∀ d ∈ ds, smD d := by simp only [smD, smA_all]
theorem smD_tuple {ds : List PyData} : smD (.tuple ds) ↔ ds.length ≤ 40000 ∧ ∀ d ∈ ds, smD d := by simp only [smD, smA_all]
theorem all_true {α : Type} (l : List α) : (l.map fun _ => true).all id = true := by
  rw [List.all_eq_true]
  intro b hb
  obtain ⟨_, _, rfl⟩ := List.mem_map.mp hb
  rfl
theorem rc_all {K : PySem.W.Frag} {H : Hp} {p : Addr} {bs : List Bool} (h : SqL K H p (bs.map V.bl)) : RC (rAll K) [.ref p] H (.bl (bs.all id)) := fun H1 e _ q => ⟨p, bs, rfl, ex_l e h, q H1 (Ex.refl H1)⟩
end Kj
namespace Kj
open PySem PySem.Spec PyProof.Rows L2 Evl
section
variable {K : PySem.W.Frag} {σ : L2.St} {H G : Hp} {te : TE} {tt : TT} {g : TG} {wi : TI}
theorem filter_all {α : Type} (l : List α) : l.filter (fun _ => true) = l := List.filter_eq_self.mpr fun _ _ => rfl
/-- all([e for x in ..]), any([..]) -/
theorem ev_allX {xs : List V} {vs : List Nat} (S : V → L2.St) (b : V → Bool) (hi : EvI wi σ H G xs.length fun i x _ => xs[i]? = some x) (eG : Ex G H) (hn : xs.length ≤ 50000) (hg : ∀ x H', x ∈ xs → ∀ Q : L2.St → Hp → Prop, Q (S x) H' → g x (wipe σ vs) H' Q) (hw : ∀ x, wipe (S x) vs = wipe σ vs)
    (he : ∀ x H1, Ex H H1 → x ∈ xs → Ev te (S x) H1 (.bl (b x))) : Ev (tCB (rAll K) (tCons (tLc wi g tYes te vs) tNil)) σ H (.bl (xs.all b)) :=
  ev_cb1 (ep_l (el_lcX S (fun _ => true) (fun x => .bl (b x)) hi eG hn hg hw (fun _ _ _ _ => et_yes) fun x H1 e hx _ => he x H1 e hx)) fun v N H2 e2 i2 ⟨p, ev, hp⟩ => by
    subst ev
    have e : xs.map (fun x => V.bl (b x)) = (xs.map b).map V.bl := by rw [List.map_map]; rfl
    rw [filter_all, e] at hp
    have z := rc_all (K := K) (sq_of (i2 _ _ hp))
    rw [List.all_map] at z
    exact z
end
end Kj

/-! Kj5: own errors with fields, new instances, chains of comparisons, texts. -/
namespace Kj
open PySem PySem.Spec PyProof.Rows L2 Evl
/-! ### own errors whose __init__ lays fields -/
/-- what an __init__ that lays the fields fsn promises -/
def spXi (C : Addr) (fsn : List Str) : Sp := fun vs H Q _ => ∃ (a : Addr) (us : List V) (G : Hp), vs = .ref a :: us ∧ us.length = fsn.length ∧ H = upd G a (exo a C none) ∧ G a = none ∧
  ∀ d H2, G d = none → d ≠ a → H2 a = some (exo a C (some d)) → H2 d = some (exd d (fsn.zip us).reverse) → (∀ b, b ≠ a → b ≠ d → H2 b = G b) → Q .non H2
structure Xi (P : Program) (w : World) (K : PySem.W.Frag) (mg : Str → Option Value) (base : Heap) (x : Str) (C : Addr) (fsn : List Str) : Prop where
  g : mg x = some (.ref C)
  T : OexC K C
  ex : ∃ fI fd ps, PySem.W.findIn K (.ref C) "__init__" = some (some (.ref fI)) ∧ PySem.W.typeIn K (.ref fI) = some (.type "function") ∧ Binds K fd ps [] ∧ FnOk P w K mg base (L2.CX P w) 1 fI fd ps (spXi C fsn)
theorem pmk_exI {X : Cx} {x : Str} {C : Addr} {fsn : List Str} {k : Nat} {e : Expr} {es : List Expr} {p pos : Pos} {ta : TA} (c : Xi X.prog X.w X.K X.mg X.base x C fsn) (hr : Room k X.A) (hk : 2 ≤ k) (hg : Gl X x) (ha : PA X (e :: es) ta)
    (hdb : (x == ("__debug__" : Str)) = false := by decide) (he : starEach (e :: es) X.env = (false, eval e X.env) :: starEach es X.env := by rfl) (hpl : (backTo pos (starEach es X.env)).any (·.1) = false := by rfl) :
    PMk X (.Call (.Name x p) (e :: es) [] pos) (tMkO C (spXi C fsn) [] ta) := by
  obtain ⟨fI, fd, ps, h1, h2, b, F⟩ := c.ex
  exact pmk_oex c.T h1 h2 F (hr.mono hk) b .nil passL hg c.g ha hdb he hpl
theorem mk_xi {σ : L2.St} {H : Hp} {ta : TA} {vs : List V} {C : Addr} {fsn : List Str} {Q : XK} (ha : EvA ta σ H vs) (hl : vs.length = fsn.length) (hs : vs.length ≤ 1000) (k : ∀ H1 d, Ex H H1 → H1 d = none → Q (.ref C) (some d) (upd H1 d (.xd (fsn.zip vs).reverse))) : tMkO C (spXi C fsn) [] ta σ H Q :=
  ha H (Ex.refl H) _ fun H1 e => ⟨hs, fun a hn => ⟨a, vs, H1, by rw [List.append_nil], hl, rfl, hn, fun d H2 hd hne h1 h2 h3 => ⟨rfl, d, _, h1, h2, hd, by
    have z : upd (del H2 a) d (.xd (fsn.zip vs).reverse) = upd H1 d (.xd (fsn.zip vs).reverse) := by
      funext b
      by_cases q : b = d
      · subst q
        rw [upd_same, upd_same]
      · rw [upd_ne q, upd_ne q]
        by_cases qa : b = a
        · subst qa
          rw [del_same, hn]
        · rw [del_ne qa]
          exact h3 b qa q
    rw [z]
    exact k H1 d e hd⟩⟩⟩
/-- a raise with fields, to what is wished of it -/
theorem raise_xi {σ : L2.St} {H G : Hp} {Ns : List Hp} {j : Nat} {ta : TA} {vs : List V} {C : Addr} {fsn : List Str} {mg : Str → Option Value} {x : Str} {E : XK} (o : Own Ns H) (hj : Ns[j]? = some G) (ha : EvA ta σ H vs) (hl : vs.length = fsn.length) (hs : vs.length ≤ 1000) (hn : fsn ≠ []) (g : mg x = some (.ref C)) (k : RaiseX mg x (fsn.zip vs).reverse G E) :
    tMkO C (spXi C fsn) [] ta σ H E := mk_xi ha hl hs fun H1 d e hd => k _ C (some d) (((o.ix hj).trans e).trans (Ex.new hd)) g (.inr ⟨d, rfl, upd_same, ex_none ((o.ix hj).trans e) hd, by
  cases fsn with
  | nil => exact absurd rfl hn
  | cons f r =>
    cases vs with
    | nil => exact absurd hl (by simp)
    | cons v t => intro z; simp at z⟩)
theorem ps_ostK {X : Cx} (K : PySem.W.Frag) {o e : Expr} {f : Str} {to te : TE} {p' pos : Pos} (ho : PE X o to) (he : PE X e te) (hs : swapsWith e (some (.Attribute o f p')) pos.line X.env = pure false := by rfl) (hK : X.K = K := by rfl) : PS X (.Assign [.Attribute o f p'] e pos) (tOst K f to te) := by subst hK; exact ps_ost ho he hs
/-! ### a new instance -/
/-- S: what the class's call promises of its arguments; the __init__'s own promise -/
def Rl.spI (S : Rl) (mg : Str → Option Value) (C : Addr) : Sp := fun vs H Q E => ∃ (x dx : Addr) (us : List V) (G : Hp) (r : Res), vs = .ref x :: us ∧ H = upd (upd G dx (.own x)) x (.ins C dx []) ∧ G x = none ∧ G dx = none ∧ dx ≠ x ∧ S.R us G r ∧
  match r with
  | .ok P => ∀ H' N, Ex G H' → Ex N H' → Fr G N → P N (.ref x) → Q .non H'
  | .err xn fs => RaiseX mg xn fs G E
section
variable {K : PySem.W.Frag} {mg : Str → Option Value} {σ : L2.St} {H G : Hp} {ta tb te tc : TE} {tr : TA} {t u : TT} {x y z v : V} {P : Hp → V → Prop} {S : Rl} {E : L2.St → XK} {W : WX} {vs : List V} {Ps : List (Hp → V → Prop)} {xn : Str} {fs : List (Str × V)} {C : Addr}
/-- the heap in which an __init__ begins -/
theorem own_init {x dx : Addr} {o : HO} (hx : G x = none) (hdx : G dx = none) (hne : dx ≠ x) : Own [sing x o, G] (upd (upd G dx (.own x)) x o) :=
  ⟨sing_ex upd_same, fun M hM a ha => by
    have z : M = G := by simpa using hM
    subst z
    by_cases q : a = x
    · subst q; exact hx
    · exact absurd (sing_ne q) ha, fun a u e => by
    rw [upd_ne (ne_of_none e hx), upd_ne (ne_of_none e hdx)]
    exact e, (fun _ h => nomatch h), trivial⟩
/-- self.f = e, self a part of its own -/
theorem s_fld {Ns : List Hp} {D : Ends} {a dx : Addr} {gs : List (Str × V)} {f : Str} {j : Nat} (o : Own Ns H) (hj : Ns[j]? = some (sing a (.ins C dx gs))) (ho : Ev ta σ H (.ref a)) (h : EvP te σ H P) (c : Cls K C) (n : NoAttr K C f) (hl : gs.length < 1000) (k : ∀ v H1 N, Own (N :: Ns.set j (sing a (.ins C dx (putF f v gs)))) H1 → P N v → D.nx σ H1) : sFld K ta te f D σ H :=
  h H (Ex.refl H) _ fun v H1 N e e2 fr p => ho H1 e _ fun H2 e3 => ⟨a, C, dx, gs, rfl, e3 _ _ (e _ _ (o.at hj)), c, n, hl, k v _ N ((((o.add e e2 fr).mono e3)).set (j := j + 1) hj) p⟩
/-! ### chains -/
theorem ev_chain {p q : Int → Int → Bool} {a b c : Int} (h1 : Ev ta σ H (.int a)) (h2 : Ev tb σ H (.int b)) (h3 : Ev tc σ H (.int c)) : Ev (tChain (rI0 fun i j => .bl (p i j)) (rI0 fun i j => .bl (q i j)) ta tb tc) σ H (.bl (p a b && q b c)) := fun H1 e Q k =>
  h1 H1 e _ fun H2 e2 => h2 H2 (e.trans e2) _ fun H3 e3 => ⟨a, b, rfl, rfl, p a b, rfl, by
    cases hp : p a b with
    | true =>
      show tc σ H3 _
      exact h3 H3 ((e.trans e2).trans e3) _ fun H4 e4 => ⟨b, c, rfl, rfl, by
        have z := k H4 ((e2.trans e3).trans e4)
        rw [hp, Bool.true_and] at z
        exact z⟩
    | false =>
      show Q (.bl false) H3
      have z := k H3 (e2.trans e3)
      rw [hp, Bool.false_and] at z
      exact z⟩
end
end Kj
namespace Kj
open PySem PySem.Spec PyProof.Rows L2 Evl
/-! ### data of texts and numbers -/
/-- a text that may be handed about: not too long, of plain signs -/
def TxtOk (s : Str) : Prop := s.length ≤ 1000 ∧ ∀ c ∈ s.cps.toList, c < 128
abbrev eLine (l : List Str) : PyData := .list (l.map .str)
abbrev eBook (ls : List (List Str)) : PyData := .list (ls.map eLine)
abbrev eInts (ns : List Int) : PyData := .list (ns.map .int)
section
variable {K : PySem.W.Frag} {H : Hp}
theorem dpa_strs : ∀ {l : List Str} {xs : List V}, DpAll K H xs (l.map .str) ↔ xs = l.map V.str
  | [], xs => ⟨fun h => by cases h; rfl, fun h => by subst h; exact .nil⟩
  | s :: l, xs => ⟨fun h => by
      cases h with
      | cons h1 h2 =>
        cases h1
        rw [dpa_strs.mp h2]
        rfl, fun h => by subst h; exact .cons (.str s) (dpa_strs.mpr rfl)⟩
theorem dpa_ints : ∀ {l : List Int} {xs : List V}, DpAll K H xs (l.map .int) ↔ xs = l.map V.int
  | [], xs => ⟨fun h => by cases h; rfl, fun h => by subst h; exact .nil⟩
  | s :: l, xs => ⟨fun h => by
      cases h with
      | cons h1 h2 =>
        cases h1
        rw [dpa_ints.mp h2]
        rfl, fun h => by subst h; exact .cons (.int s) (dpa_ints.mpr rfl)⟩
theorem dp_line {x : V} {l : List Str} : Dp K H x (eLine l) ↔ ∃ q, x = .ref q ∧ SqL K H q (l.map V.str) :=
  ⟨fun h => by
    cases h with
    | lst h1 h2 => exact ⟨_, rfl, dpa_strs.mp h2 ▸ h1⟩, fun ⟨q, e, h⟩ => by subst e; exact .lst h (dpa_strs.mpr rfl)⟩
theorem dp_ints {x : V} {l : List Int} : Dp K H x (eInts l) ↔ ∃ q, x = .ref q ∧ SqL K H q (l.map V.int) :=
  ⟨fun h => by
    cases h with
    | lst h1 h2 => exact ⟨_, rfl, dpa_ints.mp h2 ▸ h1⟩, fun ⟨q, e, h⟩ => by subst e; exact .lst h (dpa_ints.mpr rfl)⟩
/-- rows by their places -/
def Rows (K : PySem.W.Frag) (H : Hp) (xs : List V) (ls : List (List Str)) : Prop := Paired (fun x l => ∃ q, x = V.ref q ∧ SqL K H q (l.map V.str)) xs ls
theorem dpa_rows : ∀ {ls : List (List Str)} {xs : List V}, DpAll K H xs (ls.map eLine) ↔ Rows K H xs ls
  | [], xs => ⟨fun h => by cases h; exact .nil, fun h => by cases h; exact .nil⟩
  | s :: l, xs => ⟨fun h => by
      cases h with
      | cons h1 h2 => exact .cons (dp_line.mp h1) (dpa_rows.mp h2), fun h => by
      cases h with
      | cons h1 h2 => exact .cons (dp_line.mpr h1) (dpa_rows.mpr h2)⟩
theorem dp_book {x : V} {ls : List (List Str)} : Dp K H x (eBook ls) ↔ ∃ q xs, x = .ref q ∧ SqL K H q xs ∧ Rows K H xs ls :=
  ⟨fun h => by
    cases h with
    | lst h1 h2 => exact ⟨_, _, rfl, h1, dpa_rows.mp h2⟩, fun ⟨q, xs, e, h, r⟩ => by subst e; exact .lst h (dpa_rows.mpr r)⟩
theorem Rows.len {xs : List V} {ls : List (List Str)} (r : Rows K H xs ls) : xs.length = ls.length := Paired.length r
theorem Rows.get : ∀ {xs : List V} {ls : List (List Str)} {i : Nat} {l : List Str}, Rows K H xs ls → ls[i]? = some l → ∃ q, xs[i]? = some (.ref q) ∧ SqL K H q (l.map V.str)
  | _, _, _, _, .nil, e => by simp at e
  | _, _, 0, _, .cons h _, e => by
    simp at e
    subst e
    obtain ⟨q, h1, h2⟩ := h
    exact ⟨q, by simp [h1], h2⟩
  | _, _, i + 1, _, .cons _ r, e => by
    obtain ⟨q, h1, h2⟩ := Rows.get (i := i) r (by simpa using e)
    exact ⟨q, by simpa using h1, h2⟩
theorem Rows.mono {H' : Hp} {xs : List V} {ls : List (List Str)} (e : Ex H H') (r : Rows K H xs ls) : Rows K H' xs ls := paired_imp (fun _ _ ⟨q, h1, h2⟩ => ⟨q, h1, ex_l e h2⟩) r
end
theorem eqvAll_strs : ∀ a b : List Str, PyData.eqvAll (a.map .str) (b.map .str) = decide (a = b)
  | [], [] => by simp [PyData.eqvAll]
  | [], _ :: _ => by simp [PyData.eqvAll]
  | _ :: _, [] => by simp [PyData.eqvAll]
  | x :: a, y :: b => by
    simp only [List.map_cons, PyData.eqvAll, PyData.eqv, eqvAll_strs a b]
    by_cases h : x = y
    · subst h
      by_cases h2 : a = b <;> simp [h2]
    · have e : (x == y) = false := by simpa using h
      simp [h]
theorem eqv_line (a b : List Str) : PyData.eqv (eLine a) (eLine b) = decide (a = b) := by simp only [PyData.eqv, eqvAll_strs]
theorem eqvAll_rows : ∀ a b : List (List Str), PyData.eqvAll (a.map eLine) (b.map eLine) = decide (a = b)
  | [], [] => by simp [PyData.eqvAll]
  | [], _ :: _ => by simp [PyData.eqvAll]
  | _ :: _, [] => by simp [PyData.eqvAll]
  | x :: a, y :: b => by
    simp only [List.map_cons, PyData.eqvAll, eqv_line, eqvAll_rows a b]
    by_cases h : x = y <;> by_cases h2 : a = b <;> simp [h, h2]
theorem eqv_book (a b : List (List Str)) : PyData.eqv (eBook a) (eBook b) = decide (a = b) := by simp only [PyData.eqv, eqvAll_rows]
theorem strOk_of {s : Str} (h : TxtOk s) : PyData.strOk s = true := by
  unfold PyData.strOk
  rw [← Array.all_toList]
  exact List.all_eq_true.mpr fun c hc => decide_eq_true (by have := h.2 c hc; omega)
theorem lay_strs {l : List Str} (h : ∀ s ∈ l, TxtOk s) : PyData.canLayAll0 (l.map .str) = true := by
  induction l with
  | nil => simp [PyData.canLayAll0]
  | cons s l ih =>
    simp only [List.map_cons, PyData.canLayAll0, PyData.canLay0, strOk_of (h s List.mem_cons_self), ih fun t ht => h t (List.mem_cons_of_mem _ ht), Bool.and_self]
theorem depth_strs (l : List Str) : PyData.depthAll (l.map .str) = 0 := by
  induction l with
  | nil => simp [PyData.depthAll]
  | cons s l ih => simp [PyData.depthAll, PyData.depth, ih]
theorem depth_rows (ls : List (List Str)) : PyData.depthAll (ls.map eLine) ≤ 1 := by
  induction ls with
  | nil => simp [PyData.depthAll]
  | cons l ls ih =>
    simp only [List.map_cons, PyData.depthAll, PyData.depth, depth_strs]
    omega
theorem shaped_line {l : List Str} (h : ∀ s ∈ l, TxtOk s) : SeqAt.shaped (eLine l) = true := by
  show ((eLine l).canLay0 && decide ((eLine l).depth ≤ 64)) = true
  simp only [PyData.canLay0, lay_strs h, PyData.depth, depth_strs]
  decide
theorem shaped_book {ls : List (List Str)} (h : ∀ l ∈ ls, ∀ s ∈ l, TxtOk s) : SeqAt.shaped (eBook ls) = true := by
  have h1 : PyData.canLayAll0 (ls.map eLine) = true := by
    induction ls with
    | nil => simp [PyData.canLayAll0]
    | cons l ls ih =>
      simp only [List.map_cons, PyData.canLayAll0, PyData.canLay0, lay_strs (h l List.mem_cons_self), ih fun t ht => h t (List.mem_cons_of_mem _ ht), Bool.and_self]
  have h2 := depth_rows ls
  show ((eBook ls).canLay0 && decide ((eBook ls).depth ≤ 64)) = true
  rw [Bool.and_eq_true]
  exact ⟨by simp only [PyData.canLay0, h1], decide_eq_true (by simp only [PyData.depth]; omega)⟩
theorem smD_line {l : List Str} (h : l.length ≤ 40000) : smD (eLine l) := smD_list.mpr ⟨by rw [List.length_map]; exact h, fun d hd => by
  obtain ⟨s, _, rfl⟩ := List.mem_map.mp hd
  simp [smD]⟩
theorem smD_book {ls : List (List Str)} (h : ls.length ≤ 40000) (h2 : ∀ l ∈ ls, l.length ≤ 40000) : smD (eBook ls) := smD_list.mpr ⟨by rw [List.length_map]; exact h, fun d hd => by
  obtain ⟨l, hl, rfl⟩ := List.mem_map.mp hd
  exact smD_line (h2 l hl)⟩
theorem paired_get {α β : Type} {R : α → β → Prop} : ∀ {xs : List α} {ys : List β} {i : Nat} {x : α}, Paired R xs ys → xs[i]? = some x → ∃ y, ys[i]? = some y ∧ R x y
  | _, _, _, _, .nil, e => by simp at e
  | _, _, 0, _, .cons h _, e => by
    simp at e
    subst e
    exact ⟨_, rfl, h⟩
  | _, _, i + 1, _, .cons _ r, e => by
    obtain ⟨y, h1, h2⟩ := paired_get (i := i) r (by simpa using e)
    exact ⟨y, by simpa using h1, h2⟩
theorem paired_of {α β : Type} {R : α → β → Prop} : ∀ {xs : List α} {ys : List β}, xs.length = ys.length → (∀ (i : Nat) (x : α) (y : β), xs[i]? = some x → ys[i]? = some y → R x y) → Paired R xs ys
  | [], [], _, _ => .nil
  | [], _ :: _, h, _ => by simp at h
  | _ :: _, [], h, _ => by simp at h
  | x :: xs, y :: ys, h, k => .cons (k 0 x y rfl rfl) (paired_of (by simpa using h) fun i a b h1 h2 => k (i + 1) a b (by simpa using h1) (by simpa using h2))
theorem picks_all (n : Nat) : picks n (fun _ => true) = List.range n := List.filter_eq_self.mpr fun _ _ => rfl
theorem el_is {te : TE} {σ : L2.St} {H : Hp} {xs ys : List V} (h : EvL te σ H xs) (e : xs = ys) : EvL te σ H ys := e ▸ h
/-- xs + ys, a new list -/
theorem ep_catN {K : PySem.W.Frag} {σ : L2.St} {H : Hp} {ta tb : TE} {P1 P2 P : Hp → V → Prop} (h1 : EvP ta σ H P1) (h2 : EvP tb σ H P2)
    (hp : ∀ N1 N2 H1 v1 v2, Ex H H1 → Ex N1 H1 → Ex N2 H1 → P1 N1 v1 → P2 N2 v2 → ∃ a b xs ys, v1 = .ref a ∧ v2 = .ref b ∧ H1 a = some (.lst xs) ∧ H1 b = some (.lst ys) ∧ xs.length + ys.length ≤ 100000 ∧ ∀ p, P (sing p (.lst (xs ++ ys))) (.ref p)) : EvP (tOp (rAddU K) ta tb) σ H P := fun H1 e Q q =>
  h1 H1 e _ fun v1 H2 N1 e2 i1 _ p1 => h2 H2 (e.trans e2) _ fun v2 H3 N2 e3 i2 _ p2 => by
    obtain ⟨a, b, xs, ys, rfl, rfl, h3, h4, h5, h6⟩ := hp N1 N2 H3 v1 v2 ((e.trans e2).trans e3) (i1.trans e3) i2 p1 p2
    exact .inr (.inl ⟨a, b, xs, ys, rfl, rfl, h3, h4, sz_of h5, fun p hp0 => q (.ref p) _ (sing p (.lst (xs ++ ys))) ((e2.trans e3).trans (Ex.new hp0)) (sing_ex upd_same) (sing_fr (fresh_back (e2.trans e3) hp0)) (h6 p)⟩)
theorem ep_cat {K : PySem.W.Frag} {σ : L2.St} {H : Hp} {ta tb : TE} {P2 P : Hp → V → Prop} {a : Addr} {xs : List V} (h1 : Ev ta σ H (.ref a)) (ha : H a = some (.lst xs)) (h2 : EvP tb σ H P2)
    (hp : ∀ N v, P2 N v → ∃ b ys, v = .ref b ∧ N b = some (.lst ys) ∧ xs.length + ys.length ≤ 100000 ∧ ∀ p, P (sing p (.lst (xs ++ ys))) (.ref p)) : EvP (tOp (rAddU K) ta tb) σ H P :=
  ep_catN (ep_v h1) h2 fun N1 N2 H1 v1 v2 e i1 i2 p1 p2 => by
    obtain ⟨b, ys, e1, e2, e3, e4⟩ := hp N2 v2 p2
    exact ⟨a, b, xs, ys, p1, e1, e _ _ ha, i2 _ _ e2, e3, e4⟩
section
variable {K : PySem.W.Frag} {σ : L2.St} {H G : Hp} {te : TE} {g : TG} {wi : TI} {n : Nat} {Y : Nat → V → Hp → Prop}
/-- all([..]), any([..]), by places -/
theorem ev_allI {vs : List Nat} (S : Nat → L2.St) (b : Nat → Bool) (hi : EvI wi σ H G n Y) (eG : Ex G H) (hn : n ≤ 50000) (hg : ∀ i x H', i < n → Y i x H' → ∀ Q : L2.St → Hp → Prop, Q (S i) H' → g x (wipe σ vs) H' Q) (hw : ∀ i, i < n → wipe (S i) vs = wipe σ vs)
    (he : ∀ i H1, Ex H H1 → i < n → Ev te (S i) H1 (.bl (b i))) : Ev (tCB (rAll K) (tCons (tLc wi g tYes te vs) tNil)) σ H (.bl ((List.range n).all b)) :=
  ev_cb1 (ep_l (el_lc S (fun _ => true) (fun i => .bl (b i)) hi eG hn hg hw (fun _ _ _ _ => et_yes) fun i H1 e hlt _ => he i H1 e hlt)) fun v N H2 e2 i2 ⟨p, ev, hp⟩ => by
    subst ev
    have e : (List.range n).map (fun i => V.bl (b i)) = ((List.range n).map b).map V.bl := by rw [List.map_map]; rfl
    rw [picks_all, e] at hp
    have z := rc_all (K := K) (sq_of (i2 _ _ hp))
    rw [List.all_map] at z
    exact z
end
/-- the first, second, .. of the parts is moved to the head -/
theorem Own.pull {H N : Hp} : ∀ {Ns : List Hp} {i : Nat}, Own Ns H → Ns[i]? = some N → Own (N :: Ns.eraseIdx i) H
  | M :: r, 0, o, h => by
    have e : M = N := Option.some.inj h
    subst e
    exact o
  | M :: r, i + 1, o, h => by
    have z : Own (N :: r.eraseIdx i) H := Own.pull o.2.2 h
    refine ⟨z.1, fun M' hM' => ?_, o.1, fun M' hM' => ?_, z.2.2⟩
    · rcases List.mem_cons.mp hM' with q | q
      · subst q
        exact (o.2.1 N (List.mem_of_getElem? h)).symm
      · exact z.2.1 M' q
    · exact o.2.1 M' (List.mem_of_mem_eraseIdx hM')
/-- a slice of a new list -/
theorem ep_slN {K : PySem.W.Frag} {σ : L2.St} {H : Hp} {te : TE} {tl th : TO} {xs ys : List V} {lo hi : Option Int} (h : EvP te σ H (pLst xs)) (h1 : EvO tl σ H lo) (h2 : EvO th σ H hi) (e0 : cutV xs lo hi = ys) : EvP (tSl (rSlU K) te tl th) σ H (pLst ys) := fun H1 e Q q =>
  h H1 e _ fun v H2 N e2 i2 _ ⟨a, ev, ha⟩ => h1 H2 (e.trans e2) _ fun H3 e3 => h2 H3 ((e.trans e2).trans e3) _ fun H4 e4 => by
    subst ev
    refine .inl (.inl ⟨a, xs, rfl, sq_of (e4 _ _ (e3 _ _ (i2 _ _ ha))), fun p hp => ?_⟩)
    rw [e0]
    exact q (.ref p) _ (sing p (.lst ys)) (((e2.trans e3).trans e4).trans (Ex.new hp)) (sing_ex upd_same) (sing_fr (fresh_back ((e2.trans e3).trans e4) hp)) ⟨p, rfl, sing_at⟩
theorem own_merge2 {H L N M : Hp} {r : List Hp} (o : Own (L :: N :: M :: r) H) : Own (L :: uni M N :: r) H :=
  ⟨o.1, fun M' hM' a ha => by
    rcases List.mem_cons.mp hM' with z | z
    · subst z
      have d1 := o.2.1 N List.mem_cons_self
      have d2 := o.2.1 M (List.mem_cons_of_mem _ List.mem_cons_self)
      unfold uni
      rw [d1 a ha]
      exact d2 a ha
    · exact o.2.1 M' (List.mem_cons_of_mem _ (List.mem_cons_of_mem _ z)) a ha, o.2.2.merge⟩
/-- a slice of a new list, of which not all is told -/
theorem ep_slP {K : PySem.W.Frag} {σ : L2.St} {H : Hp} {te : TE} {tl th : TO} {lo hi : Option Int} {P P' : Hp → V → Prop} (h : EvP te σ H P) (h1 : EvO tl σ H lo) (h2 : EvO th σ H hi) (hp : ∀ N v, P N v → ∃ a xs, v = .ref a ∧ N a = some (.lst xs) ∧ ∀ p, P' (sing p (.lst (cutV xs lo hi))) (.ref p)) : EvP (tSl (rSlU K) te tl th) σ H P' := fun H1 e Q q =>
  h H1 e _ fun v H2 N e2 i2 _ pv => h1 H2 (e.trans e2) _ fun H3 e3 => h2 H3 ((e.trans e2).trans e3) _ fun H4 e4 => by
    obtain ⟨a, xs, ev, ha, k⟩ := hp N v pv
    subst ev
    refine .inl (.inl ⟨a, xs, rfl, sq_of (e4 _ _ (e3 _ _ (i2 _ _ ha))), fun p hp => ?_⟩)
    exact q (.ref p) _ (sing p (.lst (cutV xs lo hi))) (((e2.trans e3).trans e4).trans (Ex.new hp)) (sing_ex upd_same) (sing_fr (fresh_back ((e2.trans e3).trans e4) hp)) (k p)
theorem own_emp {H L : Hp} {r : List Hp} (o : Own (L :: r) H) : Own (L :: emp :: r) H := ⟨o.1, fun M hM => by
  rcases List.mem_cons.mp hM with z | z
  · subst z; exact fun _ _ => rfl
  · exact o.2.1 M z, emp_ex, (fun _ _ a ha => absurd rfl ha), o.2.2⟩
/-! ### calls that change what they are handed: a part is given away, all else stays -/
def Hv (N H H' : Hp) : Prop := ∀ a o, H a = some o → N a = none → H' a = some o
theorem Hv.own {N H H' : Hp} (h : Hv N H H') : ∀ {Ns : List Hp}, Own Ns H → (∀ M ∈ Ns, Dj N M) → Own Ns H'
  | [], _, _ => trivial
  | M :: r, o, d => ⟨fun a u hu => h a u (o.1 a u hu) (by
      cases q : N a with
      | none => rfl
      | some z =>
        have := d M List.mem_cons_self a (by rw [q]; exact fun z => nomatch z)
        rw [this] at hu
        cases hu), o.2.1, Hv.own h o.2.2 fun M hM => d M (List.mem_cons_of_mem _ hM)⟩
section
variable {σ : L2.St} {H : Hp} {Ns : List Hp} {ta : TA} {te : TE} {tz : TS} {D : Ends} {R : List V → Hp → Prop} {E : L2.St → XK} {vs us : List V} {N : Hp} {P : Hp → V → Prop}
end
theorem Hv.refl {N H : Hp} : Hv N H H := fun _ _ h _ => h
theorem Hv.ex {N H H1 H2 : Hp} (h : Hv N H H1) (e : Ex H1 H2) : Hv N H H2 := fun a o h1 h2 => e _ _ (h a o h1 h2)
theorem Hv.upd {N H H1 : Hp} {q : Addr} {u : HO} (h : Hv N H H1) (hq : N q ≠ none) : Hv N H (upd H1 q u) := fun a o h1 h2 => by
  unfold L2.upd
  split
  · rename_i e
    subst e
    exact absurd h2 hq
  · exact h a o h1 h2
section
variable {K : PySem.W.Frag} {σ : L2.St} {H : Hp} {ta : TE} {D : Ends}
end
theorem all2_two {H : Hp} {P P2 : Hp → V → Prop} {vs : List V} (h : All2 H [P, P2] vs) : ∃ x y, vs = [x, y] ∧ (∃ N, Ex N H ∧ P N x) ∧ ∃ N, Ex N H ∧ P2 N y := by
  cases h with
  | cons h r => cases r with
    | cons h2 r => cases r; exact ⟨_, _, rfl, h, h2⟩
end Kj

/-! Kj6: what is told of a value in the heap that holds it (nothing is changed behind it): no new part is named. -/
namespace Kj
open PySem PySem.Spec PyProof.Rows L2 Evl
def EvH (te : TE) (σ : L2.St) (H : Hp) (C : Hp → V → Prop) : Prop := ∀ H1, Ex H H1 → ∀ Q : VK, (∀ v H2, Ex H1 H2 → C H2 v → Q v H2) → te σ H1 Q
def Up (C : Hp → V → Prop) : Prop := ∀ {H H' v}, Ex H H' → C H v → C H' v
/-- a promise of such a kind -/
structure Rh where
  R : List V → Hp → (Hp → V → Prop) → Prop
  mono : ∀ {vs H H' C}, Ex H H' → R vs H C → R vs H' C
def Rh.sp (S : Rh) : Sp := fun vs H Q _ => ∃ C, S.R vs H C ∧ ∀ v H', Ex H H' → C H' v → Q v H'
def EvHs (ta : TA) (σ : L2.St) (H : Hp) (C : Hp → List V → Prop) : Prop := ∀ H1, Ex H H1 → ∀ Q : List V → Hp → Prop, (∀ vs H2, Ex H1 H2 → C H2 vs → Q vs H2) → ta σ H1 Q
section
variable {K : PySem.W.Frag} {mg : Str → Option Value} {σ : L2.St} {H H' : Hp} {ta tb te tx : TE} {tr : TA} {x y z v : V} {r : R2} {P : Hp → V → Prop} {C C1 C2 : Hp → V → Prop} {S : Rl} {E : L2.St → XK} {vs : List V}
theorem eh_p (h : EvP te σ H P) : EvH te σ H (fun H2 v => ∃ N, Ex N H2 ∧ P N v) := fun H1 e Q q => h H1 e Q fun v H2 N e2 e3 _ p => q v H2 e2 ⟨N, e3, p⟩
theorem eh_v (h : Ev te σ H v) : EvH te σ H (fun _ x => x = v) := fun H1 e Q q => h H1 e Q fun H2 e2 => q v H2 e2 rfl
theorem eh_imp (h : EvH te σ H C1) (i : ∀ H2 v, Ex H H2 → C1 H2 v → C2 H2 v) : EvH te σ H C2 := fun H1 e Q q => h H1 e Q fun v H2 e2 c => q v H2 e2 (i H2 v (e.trans e2) c)
theorem EvH.mono (e : Ex H H') (h : EvH te σ H C) : EvH te σ H' C := fun H1 a Q q => h H1 (e.trans a) Q q
theorem ehs_nil : EvHs tNil σ H (fun _ vs => vs = []) := fun H1 _ Q q => q [] H1 (Ex.refl H1) rfl
theorem ehs_cons {Cr : Hp → List V → Prop} (h : EvH te σ H C) (u : Up C) (hr : EvHs tr σ H Cr) : EvHs (tCons te tr) σ H (fun H2 vs => ∃ v us, vs = v :: us ∧ C H2 v ∧ Cr H2 us) := fun H1 e Q q =>
  h H1 e _ fun v H2 e2 c => hr H2 (e.trans e2) _ fun us H3 e3 cr => q (v :: us) H3 (e2.trans e3) ⟨v, us, rfl, u e3 c, cr⟩
theorem eh_call {S : Rh} {Ca : Hp → List V → Prop} (ha : EvHs tr σ H Ca) (hR : ∀ vs H1, Ex H H1 → Ca H1 vs → S.R vs H1 C) : EvH (tCallS S.sp E tr) σ H C := fun H1 e Q q => ha H1 e _ fun vs H2 e2 c => ⟨C, hR vs H2 (e.trans e2) c, fun v H3 e3 k => q v H3 (e2.trans e3) k⟩
/-- [..]: a new list of such things -/
def cL (C : Hp → List V → Prop) : Hp → V → Prop := fun H v => ∃ p xs, v = .ref p ∧ H p = some (.lst xs) ∧ C H xs
theorem cL_up {C : Hp → List V → Prop} (u : ∀ {H H' : Hp} {xs : List V}, Ex H H' → C H xs → C H' xs) : Up (cL C) := fun e ⟨p, xs, h1, h2, h3⟩ => ⟨p, xs, h1, e _ _ h2, u e h3⟩
theorem eh_lst {Ca : Hp → List V → Prop} (ha : EvHs tr σ H Ca) (u : ∀ {H H' : Hp} {xs : List V}, Ex H H' → Ca H xs → Ca H' xs) (hl : ∀ H xs, Ca H xs → xs.length ≤ 100000) : EvH (tLst tr) σ H (cL Ca) := fun H1 e Q q =>
  ha H1 e _ fun vs H2 e2 c => ⟨sz_of (hl H2 vs c), fun p hp => q (.ref p) _ (e2.trans (Ex.new hp)) ⟨p, vs, rfl, upd_same, u (Ex.new hp) c⟩⟩
theorem eh_cat {Ca Cb Cc : Hp → List V → Prop} (ha : EvH ta σ H (cL Ca)) (hb : EvH tb σ H (cL Cb)) (ua : ∀ {H H' : Hp} {xs : List V}, Ex H H' → Ca H xs → Ca H' xs) (uc : ∀ {H H' : Hp} {xs : List V}, Ex H H' → Cc H xs → Cc H' xs)
    (hl : ∀ H1 xs ys, Ex H H1 → Ca H1 xs → Cb H1 ys → xs.length + ys.length ≤ 100000 ∧ Cc H1 (xs ++ ys)) : EvH (tOp (rAddU K) ta tb) σ H (cL Cc) := fun H1 e Q q =>
  ha H1 e _ fun v1 H2 e2 ⟨a, xs, ea, sa, ca⟩ => hb H2 (e.trans e2) _ fun v2 H3 e3 ⟨b, ys, eb, sb, cb⟩ => by
    subst ea eb
    obtain ⟨h1, h2⟩ := hl H3 xs ys ((e.trans e2).trans e3) (ua e3 ca) cb
    exact .inr (.inl ⟨a, b, xs, ys, rfl, rfl, e3 _ _ sa, sb, sz_of h1, fun p hp => q (.ref p) _ ((e2.trans e3).trans (Ex.new hp)) ⟨p, _, rfl, upd_same, uc (Ex.new hp) h2⟩⟩)
end
section
variable {K : PySem.W.Frag} {σ : L2.St} {H : Hp} {te : TE} {tz : TS} {D : Ends} {C : Hp → V → Prop}
theorem s_h {i : Nat} (h : EvH te σ H C) (k : ∀ v H1, Ex H H1 → C H1 v → D.nx (σ.set i (some v)) H1) : tAsg te (gName i) D σ H := h H (Ex.refl H) _ fun v H1 e c => k v H1 e c
theorem q_h {i : Nat} (h : EvH te σ H C) (k : ∀ v H1, Ex H H1 → C H1 v → tz D (σ.set i (some v)) H1) : tSeq (tAsg te (gName i)) tz D σ H := s_h (D := { D with nx := tz D }) h k
theorem s_rh (h : EvH te σ H C) (k : ∀ v H1, Ex H H1 → C H1 v → D.rt v H1) : tRet te D σ H := h H (Ex.refl H) _ fun v H1 e c => k v H1 e c
end
end Kj

/-! Kj7: several except clauses, some of which name the exception. -/
namespace Kj
open PySem PySem.Spec PyProof.Rows L2 Evl
abbrev Suite := Addr → Value → Option Addr → TS
/-- the ends of a suite behind which slot i is unset -/
def unE (D : Ends) (i : Nat) : Ends := { nx := fun τ G => D.nx (τ.set i none) G, rt := D.rt, bk := fun τ G => D.bk (τ.set i none) G, ct := fun τ G => D.ct (τ.set i none) G }
def wMix (K : PySem.W.Frag) (Wo : WX) (D : Ends) : List (Value × Option Nat × Suite) → WX
  | [] => Wo
  | (c, none, ts) :: r => fun cl dd τ G => ∃ b, PySem.W.exmOne K cl c = some b ∧ (b = true → ∀ a, G a = none → ts a cl dd D τ G) ∧ (b = false → wMix K Wo D r cl dd τ G)
  | (c, some i, ts) :: r => fun cl dd τ G => ∃ b, PySem.W.exmOne K cl c = some b ∧ (b = true → ∀ a, G a = none → ts a cl dd (unE D i) (τ.set i (some (.ref a))) G) ∧ (b = false → wMix K Wo D r cl dd τ G)
inductive HdA (X : Cx) : List ExceptHandler → List (Value × Option Nat × Suite) → Prop
  | nil : HdA X [] []
  | cons {x : Str} {c : Value} {ts : Suite} {s1 : Stmt} {su : List Stmt} {p1 p2 : Pos} {hr : List ExceptHandler} {lr : List (Value × Option Nat × Suite)} (hc : Names X x c)
      (hsu : ∀ (a : Addr) (oe : Obj) (cls : Value) (d : Option Addr) (pn : List (Addr × Obj)), Zc cls d oe → (∃ fv, oe.data = .fields fv) → PSs (X.suite a ((a, oe) :: pn)) (s1 :: su) (ts a cls d)) (r : HdA X hr lr) :
      HdA X (.ExceptHandler (some (.Name x p1)) none (s1 :: su) p2 :: hr) ((c, none, ts) :: lr)
  | named {x n : Str} {i : Nat} {c : Value} {ts : Suite} {s1 : Stmt} {su : List Stmt} {p1 p2 : Pos} {hr : List ExceptHandler} {lr : List (Value × Option Nat × Suite)} (hN : X.N.Nodup) (hi : X.N[i]? = some n) (hln : X.env.kindOf n = some .local) (hc : Names X x c)
      (hsu : ∀ (a : Addr) (oe : Obj) (cls : Value) (d : Option Addr) (pn : List (Addr × Obj)), Zc cls d oe → (∃ fv, oe.data = .fields fv) → PSs (X.suite a ((a, oe) :: pn)) (s1 :: su) (ts a cls d)) (r : HdA X hr lr) :
      HdA X (.ExceptHandler (some (.Name x p1)) (some n) (s1 :: su) p2 :: hr) ((c, some i, ts) :: lr)
section
variable {X : Cx} {bd : List Stmt} {h1 : ExceptHandler} {hr : List ExceptHandler} {lr : List (Value × Option Nat × Suite)} {pos : Pos} {tb : WX → TS} {Wo : WX}
theorem ps_try_mix (hst : X.stack = X.env :: X.outer) (hfl : X.env.frame = some X.env.locals) (tk : Takes X Wo)
    (hbd : ∀ (W : WX) (qn : List (Addr × Obj)) (xe : Value → Shared → Prop), Takes (X.tr qn xe) W → PassesOwn (model X.prog X.w) X.A X.env xe → PSs (X.tr qn xe) bd (tb W))
    (hhd : HdA X (h1 :: hr) lr) : PS X (.Try bd (h1 :: hr) [] [] pos) (fun D τ G => tb (wMix X.K Wo D lr) D τ G) := by
  refine ⟨fun ps0 s0 τ0 G0 D I0 z0 => ?_⟩
  have okX := I0.ok
  have hfrs : X.A.frames = some (X.env :: X.outer) := by rw [okX.frames, hst]
  refine wpAny_Try_except ?_
  refine wpAny_mono ((hbd (wMix X.K Wo D lr) (X.pn ++ ps0) (fun ev t1 => wpAny (model X.prog X.w) X.A (noteFrame ev X.env) (fun _ t2 => wpAny (model X.prog X.w) X.A (setFlight ev none) (fun _ t3 => wpAny (model X.prog X.w) X.A (handleBy ev X.env (h1 :: hr)) (SP X ps0 D) X.xe t3) X.xe t2) X.xe t1) (fun u0 t0 xx => ?_) PassesOwn.looking).run [] s0 τ0 G0 D (I0.toTry _) z0) (fun fl t1 sp1 => ?_) (fun _ _ he => he)
  · obtain ⟨a, B0, sJ, psJ, τ1, G1, cl, dd, rfl, J0, nb, up, sky, na, os, ag, wm⟩ := xx
    have J1 : Inv X ps0 τ1 G1 sJ := J0.ofTry okX
    have skyX : Sky B0 (X.env :: X.outer) a (Zc cl dd) X.env.locals t0.heap := by rw [← hst]; exact sky
    show wpAny (model X.prog X.w) X.A (noteFrame (.ref a) X.env) _ _ _
    refine Sky.land Zc.steady hfrs hfl skyX fun g3 fg3 ug3 => ?_
    have J3 : Inv X ps0 τ1 G1 { t0 with heap := g3 } := J1.landed nb fg3.1 (up.trans ug3) os ag
    obtain ⟨ob3, fv3, at3, zc3, dt3⟩ := fg3.there
    have outF : a ∉ frs (X.env :: X.outer) := fun hm => by
      obtain ⟨_, ob', at', hnf⟩ := fg3.2.2.1.mem hm
      rw [at3] at at'
      cases at'
      exact hnf _ dt3
    have outL : a ≠ X.env.locals := fun z => outF (List.mem_filterMap.mpr ⟨X.env, List.mem_cons_self, by rw [hfl, z]⟩)
    have outS : a ∉ X.fs := fun hm => by
      obtain ⟨en, hen, q⟩ := List.mem_filterMap.mp hm
      exact outF (List.mem_filterMap.mpr ⟨en, List.mem_cons_of_mem _ hen, q⟩)
    have S3 := J3.suite at3 dt3 na outL outS
    have tst : ∀ {x : Str} {c : Value} {np : Pos} {Q E : Value → Shared → Prop}, Names X x c → Q c { t0 with heap := g3 } → wpAny (model X.prog X.w) (X.A.mark (some (.ref a))) (eval (.Name x np) X.env) Q E { t0 with heap := g3 } := fun {x c np Q E} hc q => by
      obtain ⟨hgl, hdb, hm | ⟨hm, hv, hnn⟩⟩ := hc
      · exact ld_glob (X := X.suite a ((a, ob3) :: (X.pn ++ ps0))) S3 hgl hm q hdb
      · exact ld_blt (X := X.suite a ((a, ob3) :: (X.pn ++ ps0))) S3 hgl hm hv q hnn hdb
    have LT : PySem.W.Looks (model X.prog X.w) g3 (typeOf (.ref a)) cl := fun _ _ _ _ kk q => wpAny_typeOf_ref (kk _ _ at3) (by rw [zc3.1]; exact q)
    have go : ∀ {hx : List ExceptHandler} {lx : List (Value × Option Nat × Suite)}, HdA X hx lx → wMix X.K Wo D lx cl dd τ1 G1 → wpAny (model X.prog X.w) X.A (handleBy (.ref a) X.env hx) (SP X ps0 D) X.xe { t0 with heap := g3 } := by
      intro hx lx hk
      induction hk with
      | nil =>
        intro wm
        refine wpAny_handleBy_nil ?_
        obtain ⟨_, _, _, _, _, T0, _, _, atT, _, dtT, f1, _⟩ := id fg3
        unfold PySem.passOn
        refine wpAny_bind (wpAny_field atT dtT f1 ?_)
        rw [if_neg (show ¬ ((Value.ref T0 == Value.none) = true) from by simp)]
        have fin : wpAny (model X.prog X.w) X.A (setFlight (.ref a) X.env.frame) (fun _ t4 => wpAny (model X.prog X.w) X.A (throw (.ref a) : Sem Flow) (SP X ps0 D) X.xe t4) X.xe { t0 with heap := g3 } := by
          rw [hfl]
          refine HandSPX.setFlight_upZ fg3 fun g4 hg4 ug4 => wpAny_throw (tk _ _ ?_)
          exact ⟨a, B0, sJ, ps0, τ1, G1, cl, dd, rfl, J1, nb, (up.trans ug3).trans ug4, .inr (.inr (by rw [hst]; exact hg4)), na, os, ag, wm⟩
        first
          | exact wpAny_bind (wpAny_pure (wpAny_bind fin))
          | exact wpAny_bind fin
      | cons hc hsu r ih =>
        intro wm
        obtain ⟨b, hb1, yes, no⟩ := wm
        refine wpAny_handleBy_cons (codeAny_handlers_test ?_) (by intro q; cases q)
        refine tst hc ((PySem.W.exm_one (M := model X.prog X.w) (J3.kIn) LT hb1).here ?_)
        cases b with
        | true =>
          refine codeAny_handlers_suite ?_
          refine HandSPX.lands_againZ fg3 fun g4 fg4 ug4 => ?_
          have J4 : Inv X ps0 τ1 G1 { t0 with heap := g4 } := J1.landed nb fg4.1 ((up.trans ug3).trans ug4) os ag
          obtain ⟨ob4, fv4, at4, zc4, dt4⟩ := fg4.there
          refine wpAny_mono ((hsu a ob4 cl dd (X.pn ++ ps0) zc4 ⟨_, dt4⟩).run [] _ _ G1 _ (J4.suite at4 dt4 na outL outS) (yes rfl a na)) (fun fl t6 sp6 => ?_) (fun _ _ z => False.elim z)
          cases fl with
          | next => obtain ⟨_, _, S6, q6⟩ := sp6; exact ⟨_, _, S6.unsuite okX, q6⟩
          | brk => obtain ⟨_, _, S6, q6⟩ := sp6; exact ⟨_, _, S6.unsuite okX, q6⟩
          | cont => obtain ⟨_, _, S6, q6⟩ := sp6; exact ⟨_, _, S6.unsuite okX, q6⟩
          | ret _ => obtain ⟨_, _, _, S6, r6, q6⟩ := sp6; exact ⟨_, _, _, S6.unsuite okX, r6, q6⟩
        | false => exact ih (no rfl)
      | named hN hi hln hc hsu r ih =>
        rename_i n0 i0 _ _ _ _ _ pp0 _ _
        intro wm
        obtain ⟨b, hb1, yes, no⟩ := wm
        refine wpAny_handleBy_cons (codeAny_handlers_test ?_) (by intro q; cases q)
        refine tst hc ((PySem.W.exm_one (M := model X.prog X.w) (J3.kIn) LT hb1).here ?_)
        cases b with
        | true =>
          refine codeAny_handlers_suite_as ?_
          refine HandSPX.lands_againZ fg3 fun g4 fg4 ug4 => ?_
          have J4 : Inv X ps0 τ1 G1 { t0 with heap := g4 } := J1.landed nb fg4.1 ((up.trans ug3).trans ug4) os ag
          obtain ⟨ob4, fv4, at4, zc4, dt4⟩ := fg4.there
          refine store_ok (X := X.suite a ((a, ob4) :: (X.pn ++ ps0))) (v := .ref a) (J4.suite at4 dt4 na outL outS) hN hi (.inl hln) rfl (fun t5 S5 => ?_) (.inr hln)
          refine wpAny_mono ((hsu a ob4 cl dd (X.pn ++ ps0) zc4 ⟨_, dt4⟩).run [] t5 _ G1 _ S5 (yes rfl a na)) (fun fl t6 sp6 => ?_) (fun _ _ z => False.elim z)
          have fin : ∀ {τ6 : L2.St} {G6 : Hp} {Q : Shared → Prop}, Inv (X.suite a ((a, ob4) :: (X.pn ++ ps0))) [] τ6 G6 t6 → (∀ t7, Inv X ps0 (τ6.set i0 none) G6 t7 → Q t7) →
              wpAny (model X.prog X.w) X.A (do bindName X.env n0 .none; unbindBehindTheSuite X.env n0 pp0) (fun _ t7 => Q t7) X.xe t6 := fun S6 hq => gone_ok (S6.unsuite okX) hN hi hln hq
          cases fl with
          | next => obtain ⟨_, _, S6, q6⟩ := sp6; exact fin S6 fun _ J7 => ⟨_, _, J7, q6⟩
          | brk => obtain ⟨_, _, S6, q6⟩ := sp6; exact fin S6 fun _ J7 => ⟨_, _, J7, q6⟩
          | cont => obtain ⟨_, _, S6, q6⟩ := sp6; exact fin S6 fun _ J7 => ⟨_, _, J7, q6⟩
          | ret _ => obtain ⟨_, _, _, S6, r6, q6⟩ := sp6; exact fin S6 fun _ J7 => ⟨_, _, _, J7, r6, q6⟩
        | false => exact ih (no rfl)
    exact go hhd wm
  · cases fl with
    | next => obtain ⟨_, _, Jz, qz⟩ := sp1; exact wpAny_execs_nil ⟨_, _, Jz.ofTry okX, qz⟩
    | brk => obtain ⟨_, _, Jz, qz⟩ := sp1; exact ⟨_, _, Jz.ofTry okX, qz⟩
    | cont => obtain ⟨_, _, Jz, qz⟩ := sp1; exact ⟨_, _, Jz.ofTry okX, qz⟩
    | ret _ => obtain ⟨_, _, _, Jz, rz, qz⟩ := sp1; exact ⟨_, _, _, Jz.ofTry okX, rz, qz⟩
end
section
variable {K : PySem.W.Frag} {mg : Str → Option Value} {xn : Str} {fs : List (Str × V)} {H : Hp} {C : Addr} {c : Value} {D : Ends} {ts : Suite} {σ : L2.St} {Wo : WX} {l : List (Value × Option Nat × Suite)}
def XdAt (fs : List (Str × V)) (H H' : Hp) (d : Option Addr) : Prop := fs = [] ∧ d = none ∨ ∃ a, d = some a ∧ H' a = some (.xd fs) ∧ H a = none ∧ fs ≠ []
theorem mix_hit (hC : mg xn = some (.ref C)) (h : PySem.W.exmOne K (.ref C) c = some true) (k : ∀ H' d a, Ex H H' → H' a = none → XdAt fs H H' d → ts a (.ref C) d D σ H') : RaiseX mg xn fs H (WE (wMix K Wo D ((c, none, ts) :: l)) σ) := fun H' C' d e g cc => by
  rw [hC] at g
  cases g
  exact ⟨true, h, fun _ a ha => k H' d a e ha cc, fun z => nomatch z⟩
theorem mix_hitN {i : Nat} (hC : mg xn = some (.ref C)) (h : PySem.W.exmOne K (.ref C) c = some true) (k : ∀ H' d a, Ex H H' → H' a = none → XdAt fs H H' d → ts a (.ref C) d (unE D i) (σ.set i (some (.ref a))) H') : RaiseX mg xn fs H (WE (wMix K Wo D ((c, some i, ts) :: l)) σ) := fun H' C' d e g cc => by
  rw [hC] at g
  cases g
  exact ⟨true, h, fun _ a ha => k H' d a e ha cc, fun z => nomatch z⟩
theorem mix_miss {o : Option Nat} (hC : mg xn = some (.ref C)) (h : PySem.W.exmOne K (.ref C) c = some false) (k : RaiseX mg xn fs H (WE (wMix K Wo D l) σ)) : RaiseX mg xn fs H (WE (wMix K Wo D ((c, o, ts) :: l)) σ) := fun H' C' d e g cc => by
  have z := k H' C' d e g cc
  rw [hC] at g
  cases g
  cases o with
  | none => exact ⟨false, h, (fun z => nomatch z), fun _ => z⟩
  | some i => exact ⟨false, h, (fun z => nomatch z), fun _ => z⟩
/-- e.f of the exception at hand -/
theorem ev_xf {te : TE} {a dd : Addr} {f : Str} {v : V} (he : Ev te σ H (.ref a)) (hd : H dd = some (.xd fs)) (hl : fs.lookup f = some v) : Ev (tXf a (.ref C) (some dd) C f te) σ H v := fun H1 e Q q => he H1 e _ fun H2 e2 => ⟨rfl, rfl, dd, fs, v, rfl, e2 _ _ (e _ _ hd), hl, q H2 e2⟩
end
theorem pe_xfK {X : Cx} (K : PySem.W.Frag) {a C : Addr} {oe : Obj} {cls : Value} {d : Option Addr} {pn : List (Addr × Obj)} {e : Expr} {te : TE} {pos : Pos} {n : Str} (T : XfC K C) (hno : PySem.W.findIn K (.ref C) n = some none)
    (hz : Zc cls d oe) (hf : ∃ vs, oe.data = .fields vs) (he : PE (X.suite a ((a, oe) :: pn)) e te) (hK : X.K = K := by rfl) (hb : attributeBase e n X.env (eval e X.env) = eval e X.env := by rfl) : PE (X.suite a ((a, oe) :: pn)) (.Attribute e n pos) (tXf a cls d C n te) := by
  subst hK
  exact pe_xf T hno hz hf he hb
end Kj

/-! Kj8: dicts; comprehensions over something new; slices from behind. -/
namespace Kj
open PySem PySem.Spec PyProof.Rows L2 Evl
section
variable {K : PySem.W.Frag} {σ : L2.St} {H G : Hp} {td ty tx te tv : TE} {d : Addr} {kvs : List (Key × V)} {k : Key} {z v : V} {P : Hp → V → Prop} {t : TE} {n : Nat} {Y : Nat → V → Hp → Prop} {Ns : List Hp} {D : Ends} {wi : TI} {g : TG} {tt : TT} {vs : List Nat}
end
/-! ### the shape of data: may be laid, is not too deep, not too long -/
structure Ly (n : Nat) (d : PyData) : Prop where
  lay : d.canLay0 = true
  dep : d.depth ≤ n
  sm : smD d
theorem ly_int (n : Nat) (i : Int) : Ly n (.int i) := ⟨by simp [PyData.canLay0], by simp [PyData.depth], by simp [smD]⟩
theorem layAll {ds : List PyData} (h : ∀ d ∈ ds, d.canLay0 = true) : PyData.canLayAll0 ds = true := by
  induction ds with
  | nil => simp [PyData.canLayAll0]
  | cons d r ih => simp only [PyData.canLayAll0, h d List.mem_cons_self, ih fun t ht => h t (List.mem_cons_of_mem _ ht), Bool.and_self]
theorem depAll {n : Nat} {ds : List PyData} (h : ∀ d ∈ ds, d.depth ≤ n) : PyData.depthAll ds ≤ n := by
  induction ds with
  | nil => simp [PyData.depthAll]
  | cons d r ih =>
    have h1 := h d List.mem_cons_self
    have h2 := ih fun t ht => h t (List.mem_cons_of_mem _ ht)
    simp only [PyData.depthAll]
    omega
theorem ly_list {n : Nat} {ds : List PyData} (hl : ds.length ≤ 40000) (h : ∀ d ∈ ds, Ly n d) : Ly (n + 1) (.list ds) := ⟨by simp only [PyData.canLay0, layAll fun d hd => (h d hd).lay], by have := depAll fun d hd => (h d hd).dep; simp only [PyData.depth]; omega, smD_list.mpr ⟨hl, fun d hd => (h d hd).sm⟩⟩
theorem Ly.up {n m : Nat} {d : PyData} (h : Ly n d) (hm : n ≤ m) : Ly m d := ⟨h.lay, Nat.le_trans h.dep hm, h.sm⟩
theorem ly_ints {l : List Int} (hl : l.length ≤ 40000) : Ly 1 (eInts l) := ly_list (by rw [List.length_map]; exact hl) fun d hd => by
  obtain ⟨x, hx, rfl⟩ := List.mem_map.mp hd
  exact ly_int 0 x
end Kj

/-! Kj9: max(xs, default=d) of ints. -/
namespace Kj
open PySem PySem.Spec PyProof.Rows L2 Evl
end Kj

/-! Kj10: list(zip(a, b)). -/
namespace Kj
open PySem PySem.Spec PyProof.Rows L2 Evl
/-- the places of a zip at work -/
structure ZA where
  (z TI TO i1 i2 l1 l2 : Addr)
def ZA.Low (c : ZA) (S : Addr) : Prop := c.z < S ∧ c.TI < S ∧ c.TO < S ∧ c.i1 < S ∧ c.i2 < S ∧ c.l1 < S ∧ c.l2 < S
/-- the pairs that are handed out, as tuples behind lo -/
structure ZG (xs ys : Array Value) (lo : Addr) (h : Heap) (as : List Addr) : Prop where
  up : as.Pairwise (· < ·)
  behind : ∀ a ∈ as, lo < a
  tup : ∀ (j : Nat) (a : Addr), as[j]? = some a → ∃ x y, xs[j]? = some x ∧ ys[j]? = some y ∧ IsPair h a x y
section
variable {prog : Program} {w : World} {A : Around} {E : Value → Shared → Prop} {s : Shared} {c : ZA} {S : Addr} {xs ys : Array Value} {i : Nat}
end
section
variable {prog : Program} {w : World} {A : Around} {s : Shared} {c : ZA} {S : Addr} {xs ys : Array Value} {R : Result → Shared → Prop}
end
section
variable {prog : Program} {w : World} {A : Around} {E : Value → Shared → Prop} {s : Shared} {c : ZA} {S : Addr} {xs ys : Array Value}
end
section
variable {K : PySem.W.Frag} {σ : L2.St} {H : Hp} {ta tb te ti : TE} {tr : TA} {a b : Addr} {xs ys : List V} {Ns : List Hp} {D : Ends} {tz : TS}
end
end Kj

/-! Kj12: values told by kinds: what a value stands for in a heap; expressions, loops and comprehensions over such kinds. -/
namespace Kj
open PySem PySem.Spec PyProof.Rows L2 Evl
/-! ### kinds -/
structure Tp (α : Type) where
  R : Hp → V → α → Prop
  up : ∀ {H H' v x}, Ex H H' → R H v x → R H' v x
theorem up {α : Type} {T : Tp α} {H H' : Hp} {v : V} {x : α} (e : Ex H H') (h : T.R H v x) : T.R H' v x := T.up e h
theorem paired_up {α : Type} {T : Tp α} {H H' : Hp} {xs : List V} {l : List α} (e : Ex H H') (h : Paired (T.R H) xs l) : Paired (T.R H') xs l := paired_imp (fun _ _ z => T.up e z) h
def tI : Tp Int := ⟨fun _ v x => v = .int x, fun _ h => h⟩
def tB : Tp Bool := ⟨fun _ v x => v = .bl x, fun _ h => h⟩
def tS : Tp Str := ⟨fun _ v x => v = .str x ∧ PyData.strOk x = true, fun _ h => h⟩
/-- a short text of plain signs -/
def tX : Tp Str := ⟨fun _ v x => v = .str x ∧ TxtOk x, fun _ h => h⟩
def tN : Tp Unit := ⟨fun _ v _ => v = .non, fun _ h => h⟩
def tO {α : Type} (T : Tp α) : Tp (Option α) := ⟨fun H v x => match x with | none => v = .non | some y => T.R H v y ∧ v ≠ .non, fun {H H' v x} e h => by
  cases x with
  | none => exact h
  | some y => exact ⟨T.up e h.1, h.2⟩⟩
/-- a list, perhaps one that must not be changed | one of the heap's own -/
def tL (K : PySem.W.Frag) {α : Type} (T : Tp α) : Tp (List α) := ⟨fun H v l => ∃ p xs, v = .ref p ∧ SqL K H p xs ∧ Paired (T.R H) xs l ∧ l.length ≤ 40000, fun e ⟨p, xs, h1, h2, h3, h4⟩ => ⟨p, xs, h1, ex_l e h2, paired_up e h3, h4⟩⟩
def tW {α : Type} (T : Tp α) : Tp (List α) := ⟨fun H v l => ∃ p xs, v = .ref p ∧ H p = some (.lst xs) ∧ Paired (T.R H) xs l ∧ l.length ≤ 40000, fun e ⟨p, xs, h1, h2, h3, h4⟩ => ⟨p, xs, h1, e _ _ h2, paired_up e h3, h4⟩⟩
def tP (K : PySem.W.Frag) {α β : Type} (T : Tp α) (S : Tp β) : Tp (α × β) := ⟨fun H v x => ∃ p a b, v = .ref p ∧ SqT K H p [a, b] ∧ T.R H a x.1 ∧ S.R H b x.2, fun e ⟨p, a, b, h1, h2, h3, h4⟩ => ⟨p, a, b, h1, ex_t e h2, T.up e h3, S.up e h4⟩⟩
structure T3 (α β γ : Type) where
  a : α
  b : β
  c : γ
deriving DecidableEq, Inhabited
structure T4 (α β γ δ : Type) where
  a : α
  b : β
  c : γ
  d : δ
deriving DecidableEq, Inhabited
def tT3 (K : PySem.W.Frag) {α β γ : Type} (T : Tp α) (S : Tp β) (U : Tp γ) : Tp (T3 α β γ) := ⟨fun H v x => ∃ p a b c, v = .ref p ∧ SqT K H p [a, b, c] ∧ T.R H a x.a ∧ S.R H b x.b ∧ U.R H c x.c, fun e ⟨p, a, b, c, h1, h2, h3, h4, h5⟩ => ⟨p, a, b, c, h1, ex_t e h2, T.up e h3, S.up e h4, U.up e h5⟩⟩
def tT4 (K : PySem.W.Frag) {α β γ δ : Type} (T : Tp α) (S : Tp β) (U : Tp γ) (W : Tp δ) : Tp (T4 α β γ δ) := ⟨fun H v x => ∃ p a b c d, v = .ref p ∧ SqT K H p [a, b, c, d] ∧ T.R H a x.a ∧ S.R H b x.b ∧ U.R H c x.c ∧ W.R H d x.d, fun e ⟨p, a, b, c, d, h1, h2, h3, h4, h5, h6⟩ => ⟨p, a, b, c, d, h1, ex_t e h2, T.up e h3, S.up e h4, U.up e h5, W.up e h6⟩⟩
/-- a kind that does not look at the heap -/
class Flt {α : Type} (T : Tp α) : Prop where
  any : ∀ {H H' v x}, T.R H v x → T.R H' v x

instance : Flt tI := ⟨fun h => h⟩
instance : Flt tB := ⟨fun h => h⟩
instance : Flt tS := ⟨fun h => h⟩
instance : Flt tX := ⟨fun h => h⟩
instance : Flt tN := ⟨fun h => h⟩
instance {α : Type} {T : Tp α} [F : Flt T] : Flt (tO T) := ⟨fun {H H' v x} h => by
  cases x with
  | none => exact h
  | some y => exact ⟨F.any h.1, h.2⟩⟩
theorem paired_any {α : Type} {T : Tp α} [F : Flt T] {H H' : Hp} {xs : List V} {l : List α} (h : Paired (T.R H) xs l) : Paired (T.R H') xs l := paired_imp (fun _ _ z => F.any z) h
/-- one kind is another one, too -/
class Sub {α : Type} (T S : Tp α) : Prop where
  to : ∀ {H v x}, T.R H v x → S.R H v x
instance (priority := low) {α : Type} {T : Tp α} : Sub T T := ⟨fun h => h⟩
instance {K : PySem.W.Frag} {α : Type} {T S : Tp α} [Z : Sub T S] : Sub (tW T) (tL K S) := ⟨fun ⟨p, xs, h1, h2, h3, h4⟩ => ⟨p, xs, h1, sq_of h2, paired_imp (fun _ _ z => Z.to z) h3, h4⟩⟩
instance {K : PySem.W.Frag} {α : Type} {T S : Tp α} [Z : Sub T S] : Sub (tL K T) (tL K S) := ⟨fun ⟨p, xs, h1, h2, h3, h4⟩ => ⟨p, xs, h1, h2, paired_imp (fun _ _ z => Z.to z) h3, h4⟩⟩
instance {α : Type} {T S : Tp α} [Z : Sub T S] : Sub (tW T) (tW S) := ⟨fun ⟨p, xs, h1, h2, h3, h4⟩ => ⟨p, xs, h1, h2, paired_imp (fun _ _ z => Z.to z) h3, h4⟩⟩
instance {K : PySem.W.Frag} {α β : Type} {T T' : Tp α} {S S' : Tp β} [Z : Sub T T'] [Y : Sub S S'] : Sub (tP K T S) (tP K T' S') := ⟨fun ⟨p, a, b, h1, h2, h3, h4⟩ => ⟨p, a, b, h1, h2, Z.to h3, Y.to h4⟩⟩
instance {α : Type} {T S : Tp α} [Z : Sub T S] : Sub (tO T) (tO S) := ⟨fun {H v x} h => by
  cases x with
  | none => exact h
  | some y => exact ⟨Z.to h.1, h.2⟩⟩
instance : Sub tX tS := ⟨fun h => ⟨h.1, strOk_of h.2⟩⟩
theorem to {α : Type} {T S : Tp α} [Z : Sub T S] {H : Hp} {v : V} {x : α} (h : T.R H v x) : S.R H v x := Z.to h
/-- never None -/
class NN {α : Type} (T : Tp α) : Prop where
  nn : ∀ {H v x}, T.R H v x → v ≠ .non
instance : NN tI := ⟨fun h z => by cases h; cases z⟩
instance : NN tB := ⟨fun h z => by cases h; cases z⟩
instance : NN tS := ⟨fun h z => by cases h.1; cases z⟩
instance : NN tX := ⟨fun h z => by cases h.1; cases z⟩
instance {K : PySem.W.Frag} {α : Type} {T : Tp α} : NN (tL K T) := ⟨fun ⟨_, _, h, _⟩ z => by cases h; cases z⟩
instance {α : Type} {T : Tp α} : NN (tW T) := ⟨fun ⟨_, _, h, _⟩ z => by cases h; cases z⟩
instance {K : PySem.W.Frag} {α β : Type} {T : Tp α} {S : Tp β} : NN (tP K T S) := ⟨fun ⟨_, _, _, h, _⟩ z => by cases h; cases z⟩
instance {K : PySem.W.Frag} {α β γ : Type} {T : Tp α} {S : Tp β} {U : Tp γ} : NN (tT3 K T S U) := ⟨fun ⟨_, _, _, _, h, _⟩ z => by cases h; cases z⟩
instance {K : PySem.W.Frag} {α β γ δ : Type} {T : Tp α} {S : Tp β} {U : Tp γ} {W : Tp δ} : NN (tT4 K T S U W) := ⟨fun ⟨_, _, _, _, _, h, _⟩ z => by cases h; cases z⟩
/-- plain data -/
class Pla (K : PySem.W.Frag) {α : Type} (T : Tp α) where
  enc : α → PyData
  dp : ∀ {H v x}, T.R H v x → Dp K H v (enc x)
  lay : ∀ {H v x}, T.R H v x → (enc x).canLay0 = true
  sm : ∀ {H v x}, T.R H v x → smD (enc x)
  dep : Nat
  depth : ∀ x, (enc x).depth ≤ dep
  inj : ∀ {H v x w y}, T.R H v x → T.R H w y → (PyData.eqv (enc x) (enc y) = true ↔ x = y)
section
variable {K : PySem.W.Frag}
instance : Pla K tI := ⟨.int, fun h => by cases h; exact .int _, fun _ => by simp [PyData.canLay0], fun _ => by simp [smD], 0, fun x => by simp [PyData.depth], fun _ _ => by simp [PyData.eqv]⟩
instance : Pla K tB := ⟨.bool, fun h => by cases h; exact .bl _, fun _ => by simp [PyData.canLay0], fun _ => by simp [smD], 0, fun x => by simp [PyData.depth], fun _ _ => by simp [PyData.eqv]⟩
instance : Pla K tS := ⟨.str, fun h => by cases h.1; exact .str _, fun h => by simp [PyData.canLay0, h.2], fun _ => by simp [smD], 0, fun x => by simp [PyData.depth], fun _ _ => by simp [PyData.eqv]⟩
instance : Pla K tX := ⟨.str, fun h => by cases h.1; exact .str _, fun h => by simp [PyData.canLay0, strOk_of h.2], fun _ => by simp [smD], 0, fun x => by simp [PyData.depth], fun _ _ => by simp [PyData.eqv]⟩
instance : Pla K tN := ⟨fun _ => .none, fun h => by cases h; exact .non, fun _ => by simp [PyData.canLay0], fun _ => by simp [smD], 0, fun x => by simp [PyData.depth], fun _ _ => by simp [PyData.eqv]⟩
theorem dpa_of {α : Type} {T : Tp α} [Q : Pla K T] {H : Hp} : ∀ {xs : List V} {l : List α}, Paired (T.R H) xs l → DpAll K H xs (l.map Q.enc)
  | _, _, .nil => .nil
  | _, _, .cons h r => .cons (Q.dp h) (dpa_of r)
theorem laya_of {α : Type} {T : Tp α} [Q : Pla K T] {H : Hp} : ∀ {xs : List V} {l : List α}, Paired (T.R H) xs l → PyData.canLayAll0 (l.map Q.enc) = true
  | _, _, .nil => by simp [PyData.canLayAll0]
  | _, _, .cons h r => by simp [PyData.canLayAll0, Q.lay h, laya_of r]
theorem sma_of {α : Type} {T : Tp α} [Q : Pla K T] {H : Hp} : ∀ {xs : List V} {l : List α}, Paired (T.R H) xs l → ∀ d ∈ l.map Q.enc, smD d
  | _, _, .nil => fun _ h => nomatch h
  | _, _, .cons h r => fun d hd => by
    rcases List.mem_cons.mp hd with z | z
    · subst z; exact Q.sm h
    · exact sma_of r d z
theorem eqva_of {α : Type} {T : Tp α} [Q : Pla K T] {H G : Hp} : ∀ {xs ys : List V} {l m : List α}, Paired (T.R H) xs l → Paired (T.R H) ys m → (PyData.eqvAll (l.map Q.enc) (m.map Q.enc) = true ↔ l = m)
  | _, _, _, _, .nil, .nil => by simp [PyData.eqvAll]
  | _, _, _, _, .nil, .cons _ _ => by simp [PyData.eqvAll]
  | _, _, _, _, .cons _ _, .nil => by simp [PyData.eqvAll]
  | _, _, _, _, .cons h r, .cons h2 r2 => by
    simp only [List.map_cons, PyData.eqvAll, Bool.and_eq_true, eqva_of (G := G) r r2, Q.inj h h2, List.cons.injEq]
theorem eqv_lst (a b : List PyData) : PyData.eqv (.list a) (.list b) = PyData.eqvAll a b := by simp [PyData.eqv]
theorem eqv_tup (a b : List PyData) : PyData.eqv (.tuple a) (.tuple b) = PyData.eqvAll a b := by simp [PyData.eqv]
instance {α : Type} {T : Tp α} [Q : Pla K T] : Pla K (tL K T) := ⟨fun l => .list (l.map Q.enc), fun ⟨p, xs, h1, h2, h3, _⟩ => by subst h1; exact .lst h2 (dpa_of h3), fun ⟨p, xs, h1, h2, h3, _⟩ => by simp only [PyData.canLay0, laya_of h3], fun ⟨p, xs, h1, h2, h3, h4⟩ => smD_list.mpr ⟨by rw [List.length_map]; exact h4, sma_of h3⟩, Q.dep + 1, fun l => by
  have := depAll (n := Q.dep) (ds := l.map Q.enc) fun d hd => by
    obtain ⟨x, _, rfl⟩ := List.mem_map.mp hd
    exact Q.depth x
  simp only [PyData.depth]
  omega, fun {H v x w y} ⟨p, xs, _, _, h3, _⟩ ⟨q, ys, _, _, g3, _⟩ => by rw [eqv_lst, eqva_of (G := H) h3 g3]⟩
instance {α : Type} {T : Tp α} [Q : Pla K T] : Pla K (tW T) := ⟨fun l => .list (l.map Q.enc), fun ⟨p, xs, h1, h2, h3, _⟩ => by subst h1; exact .lst (sq_of h2) (dpa_of h3), fun ⟨p, xs, h1, h2, h3, _⟩ => by simp only [PyData.canLay0, laya_of h3], fun ⟨p, xs, h1, h2, h3, h4⟩ => smD_list.mpr ⟨by rw [List.length_map]; exact h4, sma_of h3⟩, Q.dep + 1, fun l => by
  have := depAll (n := Q.dep) (ds := l.map Q.enc) fun d hd => by
    obtain ⟨x, _, rfl⟩ := List.mem_map.mp hd
    exact Q.depth x
  simp only [PyData.depth]
  omega, fun {H v x w y} ⟨p, xs, _, _, h3, _⟩ ⟨q, ys, _, _, g3, _⟩ => by rw [eqv_lst, eqva_of (G := H) h3 g3]⟩
instance {α β : Type} {T : Tp α} {S : Tp β} [Q : Pla K T] [Y : Pla K S] : Pla K (tP K T S) := ⟨fun x => .tuple [Q.enc x.1, Y.enc x.2], fun ⟨p, a, b, h1, h2, h3, h4⟩ => by subst h1; exact .tup h2 (.cons (Q.dp h3) (.cons (Y.dp h4) .nil)), fun ⟨p, a, b, h1, h2, h3, h4⟩ => by simp [PyData.canLay0, PyData.canLayAll0, Q.lay h3, Y.lay h4], fun ⟨p, a, b, h1, h2, h3, h4⟩ => by simp [smD, smA, Q.sm h3, Y.sm h4], max Q.dep Y.dep + 1, fun x => by
  have h1 := Q.depth x.1
  have h2 := Y.depth x.2
  simp only [PyData.depth, PyData.depthAll]
  omega, fun {H v x w y} ⟨p, a, b, _, _, h3, h4⟩ ⟨q, c, d, _, _, g3, g4⟩ => by
  obtain ⟨x1, x2⟩ := x
  obtain ⟨y1, y2⟩ := y
  simp only [eqv_tup, PyData.eqvAll, Bool.and_eq_true, Q.inj h3 g3, Y.inj h4 g4, Prod.mk.injEq, and_true]⟩
instance {α β γ : Type} {T : Tp α} {S : Tp β} {U : Tp γ} [Q : Pla K T] [Y : Pla K S] [Z : Pla K U] : Pla K (tT3 K T S U) := ⟨fun x => .tuple [Q.enc x.a, Y.enc x.b, Z.enc x.c], fun ⟨p, a, b, c, h1, h2, h3, h4, h5⟩ => by subst h1; exact .tup h2 (.cons (Q.dp h3) (.cons (Y.dp h4) (.cons (Z.dp h5) .nil))), fun ⟨p, a, b, c, h1, h2, h3, h4, h5⟩ => by simp [PyData.canLay0, PyData.canLayAll0, Q.lay h3, Y.lay h4, Z.lay h5], fun ⟨p, a, b, c, h1, h2, h3, h4, h5⟩ => by simp [smD, smA, Q.sm h3, Y.sm h4, Z.sm h5], max Q.dep (max Y.dep Z.dep) + 1, fun x => by
  have h1 := Q.depth x.a
  have h2 := Y.depth x.b
  have h3 := Z.depth x.c
  simp only [PyData.depth, PyData.depthAll]
  omega, fun {H v x w y} ⟨p, a, b, c, _, _, h3, h4, h5⟩ ⟨q, a', b', c', _, _, g3, g4, g5⟩ => by
  obtain ⟨x1, x2, x3⟩ := x
  obtain ⟨y1, y2, y3⟩ := y
  simp only [eqv_tup, PyData.eqvAll, Bool.and_eq_true, Q.inj h3 g3, Y.inj h4 g4, Z.inj h5 g5, T3.mk.injEq, and_true]⟩
instance {α β γ δ : Type} {T : Tp α} {S : Tp β} {U : Tp γ} {W : Tp δ} [Q : Pla K T] [Y : Pla K S] [Z : Pla K U] [O : Pla K W] : Pla K (tT4 K T S U W) := ⟨fun x => .tuple [Q.enc x.a, Y.enc x.b, Z.enc x.c, O.enc x.d], fun ⟨p, a, b, c, d, h1, h2, h3, h4, h5, h6⟩ => by subst h1; exact .tup h2 (.cons (Q.dp h3) (.cons (Y.dp h4) (.cons (Z.dp h5) (.cons (O.dp h6) .nil)))), fun ⟨p, a, b, c, d, h1, h2, h3, h4, h5, h6⟩ => by simp [PyData.canLay0, PyData.canLayAll0, Q.lay h3, Y.lay h4, Z.lay h5, O.lay h6], fun ⟨p, a, b, c, d, h1, h2, h3, h4, h5, h6⟩ => by simp [smD, smA, Q.sm h3, Y.sm h4, Z.sm h5, O.sm h6], max Q.dep (max Y.dep (max Z.dep O.dep)) + 1, fun x => by
  have h1 := Q.depth x.a
  have h2 := Y.depth x.b
  have h3 := Z.depth x.c
  have h4 := O.depth x.d
  simp only [PyData.depth, PyData.depthAll]
  omega, fun {H v x w y} ⟨p, a, b, c, d, _, _, h3, h4, h5, h6⟩ ⟨q, a', b', c', d', _, _, g3, g4, g5, g6⟩ => by
  obtain ⟨x1, x2, x3, x4⟩ := x
  obtain ⟨y1, y2, y3, y4⟩ := y
  simp only [eqv_tup, PyData.eqvAll, Bool.and_eq_true, Q.inj h3 g3, Y.inj h4 g4, Z.inj h5 g5, O.inj h6 g6, T4.mk.injEq, and_true]⟩
theorem eqv_none {d : PyData} (h : PyData.eqv .none d = true) : d = .none := by cases d <;> simp [PyData.eqv] at h ⊢
theorem eqv_none2 {d : PyData} (h : PyData.eqv d .none = true) : d = .none := by cases d <;> simp [PyData.eqv] at h ⊢
theorem dp_is_non {H : Hp} {v : V} (h : Dp K H v .none) : v = .non := by cases h; rfl
instance {α : Type} {T : Tp α} [Q : Pla K T] : Pla K (tO T) := ⟨fun x => match x with | none => .none | some y => Q.enc y, fun {H v x} h => by
  cases x with
  | none => cases h; exact .non
  | some y => exact Q.dp h.1, fun {H v x} h => by
  cases x with
  | none => simp [PyData.canLay0]
  | some y => exact Q.lay h.1, fun {H v x} h => by
  cases x with
  | none => simp [smD]
  | some y => exact Q.sm h.1, Q.dep, fun x => by
  cases x with
  | none => simp [PyData.depth]
  | some y => exact Q.depth y, fun {H v x w y} h g => by
  cases x with
  | none =>
    cases y with
    | none => simp [PyData.eqv]
    | some y =>
      refine ⟨fun z => ?_, fun z => nomatch z⟩
      have e : Q.enc y = .none := eqv_none z
      have := Q.dp g.1
      rw [e] at this
      exact absurd (dp_is_non this) g.2
  | some x =>
    cases y with
    | none =>
      refine ⟨fun z => ?_, fun z => nomatch z⟩
      have e : Q.enc x = .none := eqv_none2 z
      have := Q.dp h.1
      rw [e] at this
      exact absurd (dp_is_non this) h.2
    | some y => rw [Option.some.injEq]; exact Q.inj h.1 g.1⟩
end
/-! ### what an expression is worth, told in B and the new part -/
def EvB (te : TE) (σ : L2.St) (H B : Hp) (P : Hp → V → Prop) : Prop := ∀ H1, Ex H H1 → ∀ Q : VK, (∀ v H2 N, Ex H1 H2 → Ex N H2 → Fr H1 N → P (uni B N) v → Q v H2) → te σ H1 Q
/-- an argument: its kind and what it stands for -/
structure Arg where
  {α : Type}
  T : Tp α
  x : α
def ArgsR (G : Hp) : List V → List Arg → Prop
  | [], [] => True
  | v :: vs, a :: as => a.T.R G v a.x ∧ ArgsR G vs as
  | _, _ => False
theorem ArgsR.up {G G' : Hp} (e : Ex G G') : ∀ {vs : List V} {as : List Arg}, ArgsR G vs as → ArgsR G' vs as
  | [], [], h => h
  | _ :: _, _ :: _, h => ⟨Tp.up _ e h.1, ArgsR.up e h.2⟩
  | [], _ :: _, h => h.elim
  | _ :: _, [], h => h.elim
theorem ArgsR.len {G : Hp} : ∀ {vs : List V} {as : List Arg}, ArgsR G vs as → vs.length = as.length
  | [], [], _ => rfl
  | _ :: _, _ :: _, h => by rw [List.length_cons, List.length_cons, ArgsR.len h.2]
  | [], _ :: _, h => h.elim
  | _ :: _, [], h => h.elim
theorem args0 {G : Hp} {vs : List V} (h : ArgsR G vs []) : vs = [] := by
  cases vs with
  | nil => rfl
  | cons _ _ => exact h.elim
theorem argsC {G : Hp} {vs : List V} {a : Arg} {as : List Arg} (h : ArgsR G vs (a :: as)) : ∃ v us, vs = v :: us ∧ a.T.R G v a.x ∧ ArgsR G us as := by
  cases vs with
  | nil => exact h.elim
  | cons v us => exact ⟨v, us, rfl, h.1, h.2⟩
theorem args1 {G : Hp} {vs : List V} {a : Arg} (h : ArgsR G vs [a]) : ∃ v, vs = [v] ∧ a.T.R G v a.x := by
  obtain ⟨v, us, rfl, h1, h2⟩ := argsC h
  cases args0 h2
  exact ⟨v, rfl, h1⟩
theorem args2 {G : Hp} {vs : List V} {a b : Arg} (h : ArgsR G vs [a, b]) : ∃ v w, vs = [v, w] ∧ a.T.R G v a.x ∧ b.T.R G w b.x := by
  obtain ⟨v, us, rfl, h1, h2⟩ := argsC h
  obtain ⟨w, rfl, h3⟩ := args1 h2
  exact ⟨v, w, rfl, h1, h3⟩
theorem args3 {G : Hp} {vs : List V} {a b c : Arg} (h : ArgsR G vs [a, b, c]) : ∃ v w u, vs = [v, w, u] ∧ a.T.R G v a.x ∧ b.T.R G w b.x ∧ c.T.R G u c.x := by
  obtain ⟨v, us, rfl, h1, h2⟩ := argsC h
  obtain ⟨w, u, rfl, h3⟩ := args2 h2
  exact ⟨v, w, u, rfl, h1, h3⟩
theorem args4 {G : Hp} {vs : List V} {a b c d : Arg} (h : ArgsR G vs [a, b, c, d]) : ∃ v w u z, vs = [v, w, u, z] ∧ a.T.R G v a.x ∧ b.T.R G w b.x ∧ c.T.R G u c.x ∧ d.T.R G z d.x := by
  obtain ⟨v, us, rfl, h1, h2⟩ := argsC h
  obtain ⟨w, u, z, rfl, h3⟩ := args3 h2
  exact ⟨v, w, u, z, rfl, h1, h3⟩
def EvBs (ta : TA) (σ : L2.St) (H B : Hp) (as : List Arg) : Prop := ∀ H1, Ex H H1 → ∀ Q : List V → Hp → Prop, (∀ vs H2 N, Ex H1 H2 → Ex N H2 → Fr H1 N → ArgsR (uni B N) vs as → Q vs H2) → ta σ H1 Q
/-- a value of a kind -/
abbrev Ed {α : Type} (T : Tp α) (te : TE) (σ : L2.St) (H B : Hp) (x : α) : Prop := EvB te σ H B fun G v => T.R G v x
theorem uni_emp (B : Hp) : uni B emp = B := rfl
theorem uni_ass (A B C : Hp) : uni (uni A B) C = uni A (uni B C) := by
  funext a
  unfold uni
  cases C a <;> cases B a <;> rfl
theorem uni_exl {B N H : Hp} (e : Ex B H) (f : Fr H N) : Ex B (uni B N) := uni_l fun a ha => ex_none e (f a ha)
theorem uni_up2 {B N N' H : Hp} (e : Ex N N') (e' : Ex B H) (f : Fr H N') : Ex (uni B N) (uni B N') := fun a o h => by
  unfold uni at h ⊢
  cases q : N a with
  | some u => rw [q] at h; cases h; rw [e _ _ q]
  | none =>
    rw [q] at h
    have : N' a = none := by
      cases z : N' a with
      | none => rfl
      | some u => rw [ex_none e' (f a (by rw [z]; exact fun z => nomatch z))] at h; cases h
    rw [this]
    exact h
section
variable {K : PySem.W.Frag} {mg : Str → Option Value} {σ : L2.St} {H B B' : Hp} {ta tb te tx ti : TE} {tr : TA} {t u : TT} {v w : V} {P P' : Hp → V → Prop} {Ps : Hp → List V → Prop} {E : L2.St → XK} {W : WX} {α β γ δ : Type} {T : Tp α} {S : Tp β} {x : α} {y : β} {l m : List α}
theorem eb_ev (h : Ev te σ H v) (f : P B v) : EvB te σ H B P := fun H1 e Q q => h H1 e Q fun H2 e2 => q v H2 emp e2 emp_ex emp_fr f
theorem eb_var {i : Nat} (h : σ[i]? = some (some v)) (f : P B v) : EvB (tVar i) σ H B P := eb_ev (ev_var h) f
theorem ev_b (h : EvB te σ H B fun _ x => x = v) : Ev te σ H v := fun H1 e Q q => h H1 e Q fun x H2 _ e2 _ _ p => by
  have p : x = v := p
  subst p
  exact q H2 e2
theorem eb_imp (h : EvB te σ H B P) (i : ∀ G v, P G v → P' G v) : EvB te σ H B P' := fun H1 e Q q => h H1 e Q fun v H2 N e2 e3 f p => q v H2 N e2 e3 f (i _ v p)
theorem EvB.mono {H' : Hp} (e : Ex H H') (h : EvB te σ H B P) : EvB te σ H' B P := fun H1 a Q q => h H1 (e.trans a) Q q
theorem ed_flt [F : Flt T] (h : Ed T te σ H B x) : Ed T te σ H B' x := fun H1 a Q q => h H1 a Q fun v H2 N e2 e3 f p => q v H2 N e2 e3 f (F.any p)
theorem ed_to {S : Tp α} [Z : Sub T S] (h : Ed T te σ H B x) : Ed S te σ H B x := eb_imp h fun _ _ p => Z.to p
/-- what a call tells of a new thing -/
theorem ed_p (h : EvP te σ H P) (eB : Ex B H) (i : ∀ N v, P N v → T.R N v x) : Ed T te σ H B x := fun H1 a Q q => h H1 a Q fun v H2 N e2 e3 f p => q v H2 N e2 e3 f (T.up uni_r (i N v p))
theorem ed_x {s : Str} (h : Ev te σ H (.str s)) (hs : TxtOk s) : Ed tX te σ H B s := eb_ev h ⟨rfl, hs⟩
theorem ed_i {i : Int} (h : Ev te σ H (.int i)) : Ed tI te σ H B i := eb_ev h rfl
theorem ed_s {s : Str} (h : Ev te σ H (.str s)) (hs : PyData.strOk s = true) : Ed tS te σ H B s := eb_ev h ⟨rfl, hs⟩
theorem ev_i {i : Int} (h : Ed tI te σ H B i) : Ev te σ H (.int i) := ev_b h
theorem ev_s {s : Str} (h : Ed tS te σ H B s) : Ev te σ H (.str s) := ev_b (eb_imp h fun _ _ p => p.1)
/-! ### arguments -/
theorem ebs_nil : EvBs tNil σ H B [] := fun H1 _ Q q => q [] H1 emp (Ex.refl H1) emp_ex emp_fr trivial
theorem two_parts {H1 H2 H3 N N' : Hp} (eB : Ex B H1) (e2 : Ex H1 H2) (e3 : Ex N H2) (f : Fr H1 N) (f' : Fr H2 N') (e4 : Ex H2 H3) (e5 : Ex N' H3) : Fr H1 (uni N N') ∧ Ex (uni N N') H3 ∧ Ex (uni B N) (uni B (uni N N')) ∧ Ex (uni B N') (uni B (uni N N')) := by
  have fN : Fr H1 (uni N N') := uni_fr f (f'.back e2)
  refine ⟨fN, uni_ex (e3.trans e4) e5, ?_, uni_up2 uni_r eB fN⟩
  rw [← uni_ass]
  exact uni_l fun a ha => ex_none (uni_ex (eB.trans e2) e3) (f' a ha)
theorem ebs_cons {as : List Arg} (eB : Ex B H) (h : Ed T te σ H B x) (hr : EvBs tr σ H B as) : EvBs (tCons te tr) σ H B (⟨T, x⟩ :: as) := fun H1 e Q q =>
  h H1 e _ fun v H2 N e2 e3 f p => hr H2 (e.trans e2) _ fun us H3 N' e4 e5 f' p' => by
    obtain ⟨g1, g2, g3, g4⟩ := two_parts (eB.trans e) e2 e3 f f' e4 e5
    exact q (v :: us) H3 (uni N N') (e2.trans e4) g2 g1 ⟨T.up g3 p, p'.up g4⟩
/-! ### displays -/
theorem tup_new {H1 H2 N : Hp} {vs : List V} {p : Addr} (eB : Ex B H1) (e2 : Ex H1 H2) (e3 : Ex N H2) (f : Fr H1 N) (hp : H2 p = none) (o : HO) : Ex H1 (upd H2 p o) ∧ Ex (uni N (sing p o)) (upd H2 p o) ∧ Fr H1 (uni N (sing p o)) ∧ Ex (uni B N) (uni B (uni N (sing p o))) ∧ uni B (uni N (sing p o)) p = some o := by
  have f' : Fr H2 (sing p o) := sing_fr hp
  obtain ⟨g1, g2, g3, g4⟩ := two_parts (H3 := upd H2 p o) (N' := sing p o) eB e2 e3 f f' (Ex.new hp) (sing_ex upd_same)
  exact ⟨e2.trans (Ex.new hp), g2, g1, g3, g4 _ _ (uni_r _ _ sing_at)⟩
theorem eb_tup {as : List Arg} {P : Hp → V → Prop} (eB : Ex B H) (h : EvBs tr σ H B as) (hl : as.length ≤ 1000) (i : ∀ G p vs, G p = some (.tup vs) → ArgsR G vs as → P G (.ref p)) : EvB (tTup tr) σ H B P := fun H1 e Q q =>
  h H1 e _ fun vs H2 N e2 e3 f p => ⟨sz_of (by rw [p.len]; omega), fun r hr => by
    obtain ⟨g1, g2, g3, g4, g5⟩ := tup_new (vs := vs) (eB.trans e) e2 e3 f hr (.tup vs)
    exact q (.ref r) _ _ g1 g2 g3 (i _ r vs g5 (p.up g4))⟩
theorem eb_lst {as : List Arg} {P : Hp → V → Prop} (eB : Ex B H) (h : EvBs tr σ H B as) (hl : as.length ≤ 1000) (i : ∀ G p vs, G p = some (.lst vs) → ArgsR G vs as → P G (.ref p)) : EvB (tLst tr) σ H B P := fun H1 e Q q =>
  h H1 e _ fun vs H2 N e2 e3 f p => ⟨sz_of (by rw [p.len]; omega), fun r hr => by
    obtain ⟨g1, g2, g3, g4, g5⟩ := tup_new (vs := vs) (eB.trans e) e2 e3 f hr (.lst vs)
    exact q (.ref r) _ _ g1 g2 g3 (i _ r vs g5 (p.up g4))⟩
theorem ed_tup3 {U : Tp γ} {z : γ} (eB : Ex B H) (h : EvBs tr σ H B [⟨T, x⟩, ⟨S, y⟩, ⟨U, z⟩]) : Ed (tT3 K T S U) (tTup tr) σ H B ⟨x, y, z⟩ := eb_tup eB h (Nat.le_of_ble_eq_true rfl) fun G p vs hp ha => by
  obtain ⟨v, w, u, rfl, h1, h2, h3⟩ := args3 ha
  exact ⟨p, v, w, u, rfl, st_of hp, h1, h2, h3⟩
theorem argsL {G : Hp} {T : Tp α} : ∀ {l : List α} {vs : List V}, ArgsR G vs (l.map fun x => ⟨T, x⟩) → Paired (T.R G) vs l
  | [], vs, h => by cases args0 h; exact .nil
  | x :: l, vs, h => by
    obtain ⟨v, us, rfl, h1, h2⟩ := argsC h
    exact .cons h1 (argsL h2)
theorem ed_lst (eB : Ex B H) (h : EvBs tr σ H B (l.map fun x => ⟨T, x⟩)) (hl : l.length ≤ 1000) : Ed (tW T) (tLst tr) σ H B l := eb_lst eB h (by rw [List.length_map]; exact hl) fun G p vs hp ha => ⟨p, vs, rfl, hp, argsL ha, by omega⟩
/-! ### reading -/
theorem paired_at {R : V → α → Prop} : ∀ {xs : List V} {l : List α} {i : Nat} {y : α}, Paired R xs l → l[i]? = some y → ∃ v, xs[i]? = some v ∧ R v y
  | _, _, _, _, .nil, e => by simp at e
  | _, _, 0, _, .cons h _, e => by
    simp at e
    subst e
    exact ⟨_, rfl, h⟩
  | _, _, i + 1, _, .cons _ r, e => by
    obtain ⟨y, h1, h2⟩ := paired_at (i := i) r (by simpa using e)
    exact ⟨y, by simpa using h1, h2⟩
theorem paired_atI {R : V → α → Prop} {xs : List V} {i : Int} {y : α} (h : Paired R xs l) (e : atI l i = some y) : ∃ v, atI xs i = some v ∧ R v y := by
  unfold atI at e ⊢
  rw [Paired.length h]
  cases q : ixN l.length i with
  | none => rw [q] at e; cases e
  | some j => rw [q] at e; exact paired_at h e
theorem ed_ix {i : Int} (h : Ed (tL K T) te σ H B l) (hi : Ev ti σ H (.int i)) (hy : atI l i = some x) (eB : Ex B H) : Ed T (tOp (rIx K) te ti) σ H B x := fun H1 e Q q =>
  h H1 e _ fun v H2 N e2 e3 f ⟨p, xs, ev, h1, h2, hl0⟩ => hi H2 (e.trans e2) _ fun H3 e4 => by
    obtain ⟨w, h3, h4⟩ := paired_atI h2 hy
    subst ev
    have eU : Ex (uni B N) H3 := (uni_ex ((eB.trans e).trans e2) e3).trans e4
    exact .inl ⟨p, xs, i, w, rfl, rfl, ex_l eU h1, h3, q w H3 N (e2.trans e4) (e3.trans e4) f h4⟩
theorem eb_ixT {i : Int} {P : Hp → V → Prop} (h : EvB te σ H B fun G v => ∃ p xs w, v = .ref p ∧ SqT K G p xs ∧ atI xs i = some w ∧ P G w) (eB : Ex B H) : EvB (tOp (rIx K) te (tC (.int i))) σ H B P := fun H1 e Q q =>
  h H1 e _ fun v H2 N e2 e3 f ⟨p, xs, w, ev, h1, h2, h3⟩ => by
    subst ev
    exact .inr (.inl ⟨p, xs, i, w, rfl, rfl, ex_t (uni_ex ((eB.trans e).trans e2) e3) h1, h2, q w H2 N e2 e3 f h3⟩)
theorem ed_3a {U : Tp γ} {z : T3 α β γ} (h : Ed (tT3 K T S U) te σ H B z) (eB : Ex B H) : Ed T (tOp (rIx K) te (tC (.int 0))) σ H B z.a := eb_ixT (eb_imp h fun G v ⟨p, a, b, c, h1, h2, h3, h4, h5⟩ => ⟨p, [a, b, c], a, h1, h2, rfl, h3⟩) eB
theorem atI_get [Inhabited α] {i : Int} (h : -(l.length : Int) ≤ i ∧ i < l.length) : atI l i = some ((atI l i).getD default) := by
  unfold atI ixN
  by_cases h0 : 0 ≤ i
  · rw [if_pos h0, if_pos h.2]
    have : i.toNat < l.length := by omega
    simp [this]
  · rw [if_neg h0, if_pos h.1]
    have : (i + l.length).toNat < l.length := by omega
    simp [this]
/-- xs[i] -/
def getI {α : Type} [Inhabited α] (l : List α) (i : Int) : α := (atI l i).getD default
theorem ed_ixG [Inhabited α] {i : Int} (h : Ed (tL K T) te σ H B l) (hi : Ev ti σ H (.int i)) (hy : -(l.length : Int) ≤ i ∧ i < l.length) (eB : Ex B H) : Ed T (tOp (rIx K) te ti) σ H B (getI l i) := ed_ix h hi (atI_get hy) eB
theorem ev_lenB (h : Ed (tL K T) te σ H B l) (eB : Ex B H) : Ev (tCB (rLenU K) (tCons te tNil)) σ H (.int (l.length : Nat)) := fun H1 e Q q =>
  h H1 e _ fun v H2 N e2 e3 f ⟨p, xs, ev, h1, h2, hl0⟩ => by
    subst ev
    rw [← Paired.length h2] at q
    exact .inl ⟨p, xs, rfl, .inl (ex_l (uni_ex ((eB.trans e).trans e2) e3) h1), q H2 e2⟩
/-! ### slices, sums, copies -/
def cutI {α : Type} (l : List α) (lo hi : Option Int) : List α := (l.drop (HT.sIx l.length 0 lo)).take (HT.sIx l.length l.length hi - HT.sIx l.length 0 lo)
theorem paired_drop' {R : V → α → Prop} : ∀ {xs : List V} {l : List α} (n : Nat), Paired R xs l → Paired R (xs.drop n) (l.drop n)
  | _, _, 0, h => h
  | _, _, n + 1, .nil => .nil
  | _, _, n + 1, .cons _ r => paired_drop' n r
theorem paired_take' {R : V → α → Prop} : ∀ {xs : List V} {l : List α} (n : Nat), Paired R xs l → Paired R (xs.take n) (l.take n)
  | _, _, 0, _ => .nil
  | _, _, n + 1, .nil => .nil
  | _, _, n + 1, .cons h r => .cons h (paired_take' n r)
theorem paired_cut {R : V → α → Prop} {xs : List V} {lo hi : Option Int} (h : Paired R xs l) : Paired R (cutV xs lo hi) (cutI l lo hi) := by
  unfold cutV cutI
  rw [Paired.length h]
  exact paired_take' _ (paired_drop' _ h)
theorem cut_le (l : List α) (lo hi : Option Int) : (cutI l lo hi).length ≤ l.length := by
  unfold cutI
  rw [List.length_take, List.length_drop]
  omega
theorem paired_app' {R : V → α → Prop} : ∀ {xs ys : List V} {l m : List α}, Paired R xs l → Paired R ys m → Paired R (xs ++ ys) (l ++ m)
  | _, _, _, _, .nil, h => h
  | _, _, _, _, .cons a r, h => .cons a (paired_app' r h)
theorem ed_cat (h : Ed (tW T) ta σ H B l) (h' : Ed (tW T) tb σ H B m) (eB : Ex B H) (hl : l.length + m.length ≤ 40000) : Ed (tW T) (tOp (rAddU K) ta tb) σ H B (l ++ m) := fun H1 e Q q =>
  h H1 e _ fun v H2 N e2 e3 f ⟨p, xs, ev, g1, g2, hl0⟩ => h' H2 (e.trans e2) _ fun w H3 N' e4 e5 f' ⟨p', ys, ew, g1', g2', hl0'⟩ => by
    subst ev ew
    obtain ⟨k1, k2, k3, k4⟩ := two_parts (eB.trans e) e2 e3 f f' e4 e5
    have u1 : Ex (uni B N) H3 := (uni_ex ((eB.trans e).trans e2) e3).trans e4
    have u2 : Ex (uni B N') H3 := uni_ex (((eB.trans e).trans e2).trans e4) e5
    refine .inr (.inl ⟨p, p', xs, ys, rfl, rfl, u1 _ _ g1, u2 _ _ g1', sz_of (by rw [Paired.length g2, Paired.length g2']; omega), fun r hr => ?_⟩)
    obtain ⟨g3, g4, g5, g6, g7⟩ := tup_new (vs := []) (eB.trans e) (e2.trans e4) k2 k1 hr (.lst (xs ++ ys))
    exact q (.ref r) _ _ g3 g4 g5 ⟨r, _, rfl, g7, paired_up g6 (paired_app' (paired_up k3 g2) (paired_up k4 g2')), by rw [List.length_append]; exact hl⟩
/-- where the items are flat, the copy lies in what is new alone -/
theorem ed_listF [F : Flt T] (h : Ed (tL K T) te σ H B l) (eB : Ex B H) : Ed (tW T) (tCB (rListS K) (tCons te tNil)) σ H B' l := fun H1 e Q q =>
  h H1 e _ fun v H2 N e2 e3 f ⟨p, xs, ev, g1, g2, hl0⟩ => by
    subst ev
    exact ⟨p, xs, rfl, .inl (ex_l (uni_ex ((eB.trans e).trans e2) e3) g1), fun r hr => q (.ref r) _ (sing r (.lst xs)) (e2.trans (Ex.new hr)) (sing_ex upd_same) (sing_fr (fresh_back e2 hr)) ⟨r, xs, rfl, uni_r _ _ sing_at, paired_any g2, hl0⟩⟩
theorem ed_slF [F : Flt T] {tl th : TO} {lo hi : Option Int} (h : Ed (tL K T) te σ H B l) (h1 : EvO tl σ H lo) (h2 : EvO th σ H hi) (eB : Ex B H) : Ed (tW T) (tSl (rSlU K) te tl th) σ H B' (cutI l lo hi) := fun H1 e Q q =>
  h H1 e _ fun v H2 N e2 e3 f ⟨p, xs, ev, g1, g2, hl0⟩ => h1 H2 (e.trans e2) _ fun H3 e4 => h2 H3 ((e.trans e2).trans e4) _ fun H4 e5 => by
    subst ev
    exact .inl (.inl ⟨p, xs, rfl, ex_l ((uni_ex ((eB.trans e).trans e2) e3).trans (e4.trans e5)) g1, fun r hr => q (.ref r) _ (sing r (.lst (cutV xs lo hi))) ((e2.trans (e4.trans e5)).trans (Ex.new hr)) (sing_ex upd_same) (sing_fr (fresh_back (e2.trans (e4.trans e5)) hr)) ⟨r, _, rfl, uni_r _ _ sing_at, paired_any (paired_cut g2), Nat.le_trans (cut_le _ _ _) hl0⟩⟩)
/-! ### comparisons -/
theorem shp_of [Z : Pla K T] {G : Hp} (h : T.R G v x) (hd : Z.dep ≤ 64) : SeqAt.shaped (Z.enc x) = true := by
  show ((Z.enc x).canLay0 && decide ((Z.enc x).depth ≤ 64)) = true
  rw [Z.lay h, decide_eq_true (Nat.le_trans (Z.depth x) hd)]
  rfl
theorem eqv_dec [Z : Pla K T] [DecidableEq α] {G : Hp} {x' : α} (h : T.R G v x) (h' : T.R G w x') : PyData.eqv (Z.enc x) (Z.enc x') = decide (x = x') := by
  by_cases e : x = x'
  · rw [decide_eq_true e]; exact (Z.inj h h').mpr e
  · rw [decide_eq_false e]
    cases q : PyData.eqv (Z.enc x) (Z.enc x') with
    | false => rfl
    | true => exact absurd ((Z.inj h h').mp q) e
theorem ev_eqB [Z : Pla K T] [DecidableEq α] {x' : α} (h : Ed T ta σ H B x) (h' : Ed T tb σ H B x') (eB : Ex B H) (hd : Z.dep ≤ 64 := by exact Nat.le_of_ble_eq_true rfl) : Ev (tOp (rEqU K) ta tb) σ H (.bl (decide (x = x'))) := fun H1 e Q q =>
  h H1 e _ fun v H2 N e2 e3 f g => h' H2 (e.trans e2) _ fun w H3 N' e4 e5 f' g' => by
    obtain ⟨k1, k2, k3, k4⟩ := two_parts (eB.trans e) e2 e3 f f' e4 e5
    have eU : Ex (uni B (uni N N')) H3 := uni_ex (((eB.trans e).trans e2).trans e4) k2
    have g := T.up k3 g
    have g' := T.up k4 g'
    rw [← eqv_dec (Z := Z) g g'] at q
    exact .inr ⟨_, _, dp_mono eU (Z.dp g), dp_mono eU (Z.dp g'), shp_of g hd, shp_of g' hd, q H3 (e2.trans e4)⟩
theorem ev_neB [Z : Pla K T] [DecidableEq α] {x' : α} (h : Ed T ta σ H B x) (h' : Ed T tb σ H B x') (eB : Ex B H) (hd : Z.dep ≤ 64 := by exact Nat.le_of_ble_eq_true rfl) : Ev (tOp (rNeU K) ta tb) σ H (.bl (!decide (x = x'))) := fun H1 e Q q =>
  h H1 e _ fun v H2 N e2 e3 f g => h' H2 (e.trans e2) _ fun w H3 N' e4 e5 f' g' => by
    obtain ⟨k1, k2, k3, k4⟩ := two_parts (eB.trans e) e2 e3 f f' e4 e5
    have eU : Ex (uni B (uni N N')) H3 := uni_ex (((eB.trans e).trans e2).trans e4) k2
    have g := T.up k3 g
    have g' := T.up k4 g'
    rw [← eqv_dec (Z := Z) g g'] at q
    exact .inr ⟨_, _, dp_mono eU (Z.dp g), dp_mono eU (Z.dp g'), shp_of g hd, shp_of g' hd, q H3 (e2.trans e4)⟩
theorem any_dec [Z : Pla K T] [DecidableEq α] {G : Hp} {xs : List V} (h : T.R G v x) (g : Paired (T.R G) xs l) : ((l.map Z.enc).any fun z => PyData.eqv z (Z.enc x)) = decide (x ∈ l) := by
  induction g with
  | nil => simp
  | cons a r ih =>
    rename_i v1 y1 vs1 m1
    rw [List.map_cons, List.any_cons, eqv_dec (Z := Z) a h, ih]
    by_cases e : y1 = x
    · subst e; simp
    · have e' : ¬ x = y1 := fun z => e z.symm
      simp [e, e']
theorem ev_inB [Z : Pla K T] [DecidableEq α] (h : Ed T ta σ H B x) (h' : Ed (tL K T) tb σ H B l) (eB : Ex B H) (hd : Z.dep ≤ 63 := by exact Nat.le_of_ble_eq_true rfl) : Ev (tOp (rInU K) ta tb) σ H (.bl (decide (x ∈ l))) := fun H1 e Q q =>
  h H1 e _ fun v H2 N e2 e3 f g => h' H2 (e.trans e2) _ fun w H3 N' e4 e5 f' g' => by
    obtain ⟨k1, k2, k3, k4⟩ := two_parts (eB.trans e) e2 e3 f f' e4 e5
    have eU : Ex (uni B (uni N N')) H3 := uni_ex (((eB.trans e).trans e2).trans e4) k2
    have g := T.up k3 g
    have g' := (tL K T).up k4 g'
    have hs := shp_of (K := K) (T := tL K T) g' (by show Z.dep + 1 ≤ 64; omega)
    have hp := dp_mono eU (Pla.dp (K := K) (T := tL K T) g')
    obtain ⟨p, xs, ev, g1, g2, hl0⟩ := g'
    rw [← any_dec (Z := Z) g g2] at q
    exact .inr ⟨_, _, dp_mono eU (Z.dp g), hp, shp_of g (by omega), hs, q H3 (e2.trans e4)⟩
/-! ### calls -/
theorem args_ex {as : List Arg} {N H2 : Hp} {vs : List V} (eB : Ex B H2) (e3 : Ex N H2) (p : ArgsR (uni B N) vs as) : ArgsR H2 vs as := p.up (uni_ex eB e3)
theorem ep_callB {S : Rl} {as : List Arg} (eB : Ex B H) (ha : EvBs tr σ H B as) (hR : ∀ vs G, ArgsR G vs as → S.R vs G (.ok P)) : EvP (tCallS (S.sp mg) E tr) σ H P := fun H1 e Q q => ha H1 e _ fun vs H2 N e2 e3 f p => ⟨.ok P, hR vs H2 (args_ex ((eB.trans e).trans e2) e3 p), q.fwd e2⟩
theorem er_callB {S : Rl} {as : List Arg} {xn : Str} {fs : List (Str × V)} (eB : Ex B H) (ha : EvBs tr σ H B as) (hR : ∀ vs G, ArgsR G vs as → S.R vs G (.err xn fs)) : EvErr mg W xn fs (tCallS (S.sp mg) (WE W) tr) σ H := fun H1 e q Q => ha H1 e _ fun vs H2 N e2 e3 f p => ⟨.err xn fs, hR vs H2 (args_ex ((eB.trans e).trans e2) e3 p), q.fwd e2⟩
theorem ep_makeB {S : Rl} {as : List Arg} {C : Addr} (eB : Ex B H) (ha : EvBs tr σ H B as) (hR : ∀ vs G, ArgsR G vs as → S.R vs G (.ok P)) : EvP (tMakeS C (S.spI mg C) E tr) σ H P := fun H1 e Q q => ha H1 e _ fun vs H2 N e2 e3 f p x dx hx hdx hne =>
  ⟨x, dx, vs, H2, .ok P, rfl, rfl, hx, hdx, hne, hR vs H2 (args_ex ((eB.trans e).trans e2) e3 p), fun H' N e3 e4 f p => ⟨rfl, q (.ref x) H' N (e2.trans e3) e4 (f.back e2) p⟩⟩
theorem er_makeB {S : Rl} {as : List Arg} {C : Addr} {xn : Str} {fs : List (Str × V)} (eB : Ex B H) (ha : EvBs tr σ H B as) (hR : ∀ vs G, ArgsR G vs as → S.R vs G (.err xn fs)) : EvErr mg W xn fs (tMakeS C (S.spI mg C) (WE W) tr) σ H := fun H1 e q Q => ha H1 e _ fun vs H2 N e2 e3 f p x dx hx hdx hne =>
  ⟨x, dx, vs, H2, .err xn fs, rfl, rfl, hx, hdx, hne, hR vs H2 (args_ex ((eB.trans e).trans e2) e3 p), q.fwd e2⟩
end
/-! ### a new list whose spine lies apart -/
def Edn {α : Type} (T : Tp α) (te : TE) (σ : L2.St) (H B : Hp) (l : List α) : Prop := ∀ H1, Ex H H1 → ∀ Q : VK, (∀ p xs H2 N, Ex H1 H2 → Ex N H2 → Fr H1 N → H1 p = none → N p = none → H2 p = some (.lst xs) → Paired (T.R (uni B N)) xs l → l.length ≤ 40000 → Q (.ref p) H2) → te σ H1 Q
section
variable {K : PySem.W.Frag} {σ : L2.St} {H B B' : Hp} {ta tb te : TE} {tr : TA} {α : Type} {T : Tp α} {l m : List α}
theorem ed_of_n (eB : Ex B H) (h : Edn T te σ H B l) : Ed (tW T) te σ H B l := fun H1 e Q q => h H1 e Q fun p xs H2 N e2 e3 f h1 h2 h3 h4 h5 => by
  have f' : Fr H1 (sing p (.lst xs)) := sing_fr h1
  have fU : Fr H1 (uni N (sing p (.lst xs))) := uni_fr f f'
  have d : ∀ a, (sing p (.lst xs)) a ≠ none → N a = none := fun a ha => by
    by_cases z : a = p
    · subst z; exact h2
    · exact absurd (sing_ne z) ha
  exact q (.ref p) H2 (uni N (sing p (.lst xs))) e2 (uni_ex e3 (sing_ex h3)) fU ⟨p, xs, rfl, uni_r _ _ (uni_r _ _ sing_at), paired_up (uni_up2 (uni_l d) (eB.trans e) fU) h4, h5⟩
theorem en_flt [F : Flt T] (h : Edn T te σ H B l) : Edn T te σ H B' l := fun H1 e Q q => h H1 e Q fun p xs H2 N e2 e3 f h1 h2 h3 h4 h5 => q p xs H2 N e2 e3 f h1 h2 h3 (paired_any h4) h5
theorem en_lst (eB : Ex B H) (h : EvBs tr σ H B (l.map fun x => ⟨T, x⟩)) (hl : l.length ≤ 1000) : Edn T (tLst tr) σ H B l := fun H1 e Q q =>
  h H1 e _ fun vs H2 N e2 e3 f p => ⟨sz_of (by rw [p.len, List.length_map]; omega), fun r hr => q r vs _ N (e2.trans (Ex.new hr)) (e3.trans (Ex.new hr)) f (fresh_back e2 hr) (ex_none e3 hr) upd_same (argsL p) (by omega)⟩
end
/-! ### what is walked -/
/-- wi draws the items l into the target g; Z B y σ σ': the slots σ' behind drawing y -/
def Dr {ι : Type} (wi : TI) (g : TG) (σ : L2.St) (H B : Hp) (l : List ι) (Z : Hp → ι → L2.St → L2.St → Prop) : Prop := ∀ H1, Ex H H1 → ∀ R : L2.It → Hp → Prop, (∀ J H2 N, Ex H1 H2 → Ex N H2 → Fr H1 N → l.length ≤ 40000 →
  (∀ i H', Ex (uni B N) H' → i < l.length → J.go i H') → (∀ H', Ex (uni B N) H' → J.stop l.length H') →
  (∀ i y H' x H'', Ex (uni B N) H' → l[i]? = some y → J.yld i H' x H'' → Ex H' H'' ∧ ∀ σ' (Q : L2.St → Hp → Prop), (∀ σ2, Z (uni B N) y σ' σ2 → Q σ2 H'') → g x σ' H'' Q) → R J H2) → wi σ H1 R
section
variable {K : PySem.W.Frag} {mg : Str → Option Value} {σ : L2.St} {H B M G : Hp} {ta tb te tx ti tl : TE} {tr : TA} {t u : TT} {v w : V} {P P' : Hp → V → Prop} {Ns : List Hp} {D : Ends} {tu tz : TS} {wi : TI} {g : TG} {α β ι : Type} {T : Tp α} {S : Tp β} {l : List α} {Z : Hp → ι → L2.St → L2.St → Prop}
theorem get_lt {x : α} {i : Nat} (h : l[i]? = some x) : i < l.length := (List.getElem?_eq_some_iff.mp h).1
theorem dr_list {Z : Hp → α → L2.St → L2.St → Prop} (h : Ed (tL K T) tl σ H B l) (eB : Ex B H) (hz : ∀ G x y H', Ex G H' → T.R G x y → ∀ σ' (Q : L2.St → Hp → Prop), (∀ σ2, Z G y σ' σ2 → Q σ2 H') → g x σ' H' Q) : Dr (iList K tl) g σ H B l Z := fun H1 e R q =>
  h H1 e _ fun v H2 N e2 e3 f ⟨p, xs, ev, h1, h2, hl0⟩ => by
    have eU : Ex (uni B N) H2 := uni_ex ((eB.trans e).trans e2) e3
    have d := drw_list (K := K) h1
    rw [Paired.length h2] at d
    exact ⟨p, ev, ⟨xs, ex_l eU h1⟩, q _ H2 N e2 e3 f hl0 d.go d.stop fun i y H' x H'' eH hi hy => by
      obtain ⟨g1, g2⟩ := d.yld i H' x H'' eH (get_lt hi) hy
      obtain ⟨w, g3, g4⟩ := paired_at h2 hi
      rw [g3] at g2
      cases g2
      exact ⟨g1, hz _ _ _ _ (eH.trans g1) g4⟩⟩
def enumI {α : Type} (l : List α) : List (Int × α) := l.zipIdx.map fun p => ((p.2 : Int), p.1)
def rngI (n : Int) : List Int := (List.range n.toNat).map fun (i : Nat) => (i : Int)
def rngI2 (a b : Int) : List Int := (List.range (b - a).toNat).map fun (i : Nat) => a + (i : Int)
/-! ### loops -/
theorem for_dr {J : L2.It} {l : List ι} (hgo : ∀ i H', Ex B H' → i < l.length → J.go i H') (hstop : ∀ H', Ex B H' → J.stop l.length H') (hyld : ∀ i y H' x H'', Ex B H' → l[i]? = some y → J.yld i H' x H'' → Ex H' H'' ∧ ∀ σ' (Q : L2.St → Hp → Prop), (∀ σ2, Z B y σ' σ2 → Q σ2 H'') → g x σ' H'' Q)
    (Pv : Nat → L2.St → Hp → Prop) (h0 : Pv 0 σ H) (hG : ∀ i σ' H', Pv i σ' H' → Ex B H') (hs : ∀ i y σ' H' H'' σ2, l[i]? = some y → Pv i σ' H' → Ex H' H'' → Z B y σ' σ2 → tu { D with nx := Pv (i + 1), ct := Pv (i + 1), bk := D.nx } σ2 H'') (hd : ∀ σ' H', Pv l.length σ' H' → D.nx σ' H') :
    ∃ W : Nat → Nat → L2.St → Hp → Prop, (∃ m, W 0 m σ H) ∧ ∀ i m σ H, W i m σ H →
      (J.stop i H ∧ D.nx σ H) ∨ (J.go i H ∧ ∃ N : L2.St → Hp → Prop, (∀ σ' H', N σ' H' → ∃ m', m' < m ∧ W (i + 1) m' σ' H') ∧ ∀ x H', J.yld i H x H' → g x σ H' fun σ2 H2 => tu { D with nx := N, ct := N, bk := D.nx } σ2 H2) := by
  refine ⟨fun i m σ H => m = l.length - i ∧ i ≤ l.length ∧ Pv i σ H, ⟨l.length, by simp, Nat.zero_le _, h0⟩, ?_⟩
  rintro i m σ H ⟨rfl, hi, p⟩
  have eG := hG i σ H p
  by_cases hlt : i < l.length
  · refine .inr ⟨hgo i H eG hlt, Pv (i + 1), fun σ' H' p' => ⟨l.length - (i + 1), by omega, rfl, hlt, p'⟩, fun x H' y => ?_⟩
    obtain ⟨e, y⟩ := hyld i l[i] H x H' eG (List.getElem?_eq_getElem hlt) y
    exact y σ _ fun σ2 hz => hs i l[i] σ H H' σ2 (List.getElem?_eq_getElem hlt) p e hz
  · have e : i = l.length := by omega
    subst e
    exact .inl ⟨hstop H eG, hd σ H p⟩
/-- .. over something new or flat; M: what is new -/
theorem s_fo {l : List ι} (o : Own (M :: G :: Ns) H) (hr : Dr wi g σ H M l Z) (Pv : Hp → Nat → L2.St → Hp → Prop) (h0 : ∀ M1 H1, Ex M M1 → Own (M1 :: G :: Ns) H1 → Pv M1 0 σ H1) (hG : ∀ M1 i σ' H', Ex M M1 → Pv M1 i σ' H' → Ex M1 H')
    (hs : ∀ M1 i y σ' H' H'' σ2, Ex M M1 → l[i]? = some y → Pv M1 i σ' H' → Ex H' H'' → Z M1 y σ' σ2 → tu { D with nx := Pv M1 (i + 1), ct := Pv M1 (i + 1), bk := D.nx } σ2 H'') (hd : ∀ M1 σ' H', Ex M M1 → Pv M1 l.length σ' H' → D.nx σ' H') : tFor wi g tu D σ H :=
  hr H (Ex.refl H) _ fun J H1 N e e2 f _ g1 g2 g3 => by
    have o1 : Own (uni M N :: G :: Ns) H1 := (o.add e e2 f).merge
    have eM : Ex M (uni M N) := uni_exl o.e0 f
    exact for_dr g1 g2 g3 (Pv (uni M N)) (h0 _ H1 eM o1) (fun i σ' H' p => hG _ i σ' H' eM p) (fun i y σ' H' H'' σ2 => hs _ i y σ' H' H'' σ2 eM) (fun σ' H' p => hd _ σ' H' eM p)
theorem q_fo {l : List ι} (o : Own (M :: G :: Ns) H) (hr : Dr wi g σ H M l Z) (Pv : Hp → Nat → L2.St → Hp → Prop) (h0 : ∀ M1 H1, Ex M M1 → Own (M1 :: G :: Ns) H1 → Pv M1 0 σ H1) (hG : ∀ M1 i σ' H', Ex M M1 → Pv M1 i σ' H' → Ex M1 H')
    (hs : ∀ M1 i y σ' H' H'' σ2, Ex M M1 → l[i]? = some y → Pv M1 i σ' H' → Ex H' H'' → Z M1 y σ' σ2 → tu { D with nx := Pv M1 (i + 1), ct := Pv M1 (i + 1), bk := tz D } σ2 H'') (hd : ∀ M1 σ' H', Ex M M1 → Pv M1 l.length σ' H' → tz D σ' H') : tSeq (tFor wi g tu) tz D σ H := s_fo (D := { D with nx := tz D }) o hr Pv h0 hG hs hd
/-! ### comprehensions -/
theorem en_lc {l : List ι} {vs : List Nat} (hr : Dr wi g σ H B l Z) (eB : Ex B H) (f : ι → Bool) (m : ι → β) (hw : ∀ G y σ2, Z G y (wipe σ vs) σ2 → wipe σ2 vs = wipe σ vs)
    (ht : ∀ G y σ2 H1, Ex B G → Ex G H1 → Ex H H1 → y ∈ l → Z G y (wipe σ vs) σ2 → EvT t σ2 H1 (f y)) (he : ∀ G y σ2 H1, Ex B G → Ex G H1 → Ex H H1 → y ∈ l → f y = true → Z G y (wipe σ vs) σ2 → Ed S te σ2 H1 G (m y)) (zu : ∀ G G' y σ2, Ex G G' → Z G y (wipe σ vs) σ2 → Z G' y (wipe σ vs) σ2) :
    Edn S (tLc wi g t te vs) σ H B ((l.filter f).map m) := fun H1 e Q q =>
  hr H1 e _ fun J H2 N e2 e3 fN hn g1 g2 g3 Dl hD => by
    have eB2 : Ex B H2 := (eB.trans e).trans e2
    have eU : Ex (uni B N) H2 := uni_ex eB2 e3
    refine ⟨fun i k H' => k = l.length - i ∧ i ≤ l.length ∧ ∃ (N' : Hp) (xs : List V), Own [sing Dl (.lst xs), N', H2] H' ∧ Paired (S.R (uni (uni B N) N')) xs (((l.take i).filter f).map m), ⟨l.length, by simp, Nat.zero_le _, emp, [], ⟨sing_ex upd_same, fun M hM a ha => ?_, emp_ex, (fun _ _ a ha => absurd rfl ha), Ex.new hD, (fun _ h => nomatch h), trivial⟩, .nil⟩, ?_⟩
    · rcases List.mem_cons.mp hM with z | z
      · subst z; rfl
      · have z : M = H2 := by simpa using z
        subst z
        by_cases qa : a = Dl
        · subst qa; exact hD
        · exact absurd (sing_ne qa) ha
    rintro i k H' ⟨rfl, hi, N', xs, o, pr⟩
    have eB' : Ex (uni B N) H' := eU.trans o.e2
    have hlen : (((l.take i).filter f).map m).length ≤ 50000 := by
      rw [List.length_map]
      have := List.length_filter_le f (l.take i)
      rw [List.length_take] at this
      omega
    by_cases hlt : i < l.length
    · have hli : l[i]? = some l[i] := List.getElem?_eq_getElem hlt
      have hmem : l[i] ∈ l := List.getElem_mem hlt
      have htk : l.take (i + 1) = l.take i ++ [l[i]] := (List.take_append_getElem hlt).symm
      refine .inr ⟨g1 i H' eB' hlt, _, fun H3 p => p, fun x H3 hy => ?_⟩
      obtain ⟨e4, hy⟩ := g3 i l[i] H' x H3 eB' hli hy
      refine hy _ _ fun σ2 hz => ⟨hw _ _ _ hz, ?_⟩
      have o3 := o.mono e4
      have dj : Fr H2 N' := o3.dj (i := 1) (j := 2) (by decide) rfl rfl
      have eG : Ex (uni (uni B N) N') H3 := uni_ex (eU.trans o3.e2) o3.e1
      have eBG : Ex (uni B N) (uni (uni B N) N') := uni_exl eU dj
      have eBB : Ex B (uni (uni B N) N') := (uni_exl (eB.trans e) fN).trans eBG
      have hz' := zu _ _ _ _ eBG hz
      refine ht _ _ σ2 H3 eBB eG ((e.trans e2).trans o3.e2) hmem hz' H3 (Ex.refl _) _ fun H4 e5 => ?_
      cases hf : f l[i] with
      | false =>
        show ∃ _, _
        refine ⟨l.length - (i + 1), by omega, rfl, hlt, N', xs, o3.mono e5, ?_⟩
        rw [htk, List.filter_append, List.filter_cons, if_neg (by rw [hf]; decide)]
        simpa using pr
      | true =>
        show te σ2 H4 _
        refine he _ _ σ2 H4 eBB (eG.trans e5) (((e.trans e2).trans o3.e2).trans e5) hmem hf hz' H4 (Ex.refl _) _ fun y H5 N2 e6 e7 f2 p => ?_
        have o5 : Own [N2, sing Dl (.lst xs), N', H2] H5 := (o3.mono e5).add e6 e7 f2
        refine ⟨xs, o5.at (j := 1) rfl, by rw [Paired.length pr]; exact sz_lt (by omega), l.length - (i + 1), by omega, rfl, hlt, uni N' N2, xs ++ [y], ?_, ?_⟩
        · have o6 : Own [N2, sing Dl (.lst (xs ++ [y])), N', H2] (upd H5 Dl (.lst (xs ++ [y]))) := o5.set (j := 1) rfl
          exact own_merge2 o6.swap
        · rw [htk, List.filter_append, List.filter_cons, if_pos hf, List.map_append]
          have e8 : Ex (uni (uni B N) N') (uni (uni B N) (uni N' N2)) := by
            rw [← uni_ass]
            exact uni_exl (eG.trans e5) f2
          refine paired_app' (paired_up e8 pr) (.cons ?_ .nil)
          rw [← uni_ass]
          exact p
    · have ei : i = l.length := by omega
      subst ei
      rw [List.take_length] at pr
      refine .inl ⟨g2 H' eB', ?_⟩
      have dj : Fr H2 N' := o.dj (i := 1) (j := 2) (by decide) rfl rfl
      have hN : N' Dl = none := (o.dj (i := 0) (j := 1) (by decide) rfl rfl) Dl (by rw [sing_at]; exact fun z => nomatch z)
      refine q Dl xs H' (uni N N') (e2.trans o.e2) (uni_ex (e3.trans o.e2) o.e1) (uni_fr fN (dj.back e2)) (fresh_back e2 hD) ?_ (o.at (j := 0) rfl) ?_ (by rw [List.length_map]; exact Nat.le_trans (List.length_filter_le _ _) hn)
      · unfold uni
        rw [hN]
        exact ex_none e3 hD
      · rw [← uni_ass]
        exact pr
theorem en_lcA {l : List ι} {vs : List Nat} (hr : Dr wi g σ H B l Z) (eB : Ex B H) (m : ι → β) (hw : ∀ G y σ2, Z G y (wipe σ vs) σ2 → wipe σ2 vs = wipe σ vs) (he : ∀ G y σ2 H1, Ex B G → Ex G H1 → Ex H H1 → y ∈ l → Z G y (wipe σ vs) σ2 → Ed S te σ2 H1 G (m y)) (zu : ∀ G G' y σ2, Ex G G' → Z G y (wipe σ vs) σ2 → Z G' y (wipe σ vs) σ2) :
    Edn S (tLc wi g tYes te vs) σ H B (l.map m) := by
  have h := en_lc (t := tYes) hr eB (fun _ => true) m hw (fun _ _ _ _ _ _ _ _ _ => et_yes) (fun G y σ2 H1 a b c d _ e => he G y σ2 H1 a b c d e) zu
  rw [filter_all] at h
  exact h
theorem ed_lcA {l : List ι} {vs : List Nat} (hr : Dr wi g σ H B l Z) (eB : Ex B H) (m : ι → β) (hw : ∀ G y σ2, Z G y (wipe σ vs) σ2 → wipe σ2 vs = wipe σ vs) (he : ∀ G y σ2 H1, Ex B G → Ex G H1 → Ex H H1 → y ∈ l → Z G y (wipe σ vs) σ2 → Ed S te σ2 H1 G (m y)) (zu : ∀ G G' y σ2, Ex G G' → Z G y (wipe σ vs) σ2 → Z G' y (wipe σ vs) σ2) :
    Ed (tW S) (tLc wi g tYes te vs) σ H B (l.map m) := ed_of_n eB (en_lcA hr eB m hw he zu)
theorem rngI_get {n y : Int} {i : Nat} : (rngI n)[i]? = some y ↔ y = (i : Int) ∧ (i : Int) < n := by
  unfold rngI
  rw [List.getElem?_map]
  by_cases h : i < n.toNat
  · rw [List.getElem?_range h]
    constructor
    · intro e
      cases e
      exact ⟨rfl, by omega⟩
    · rintro ⟨rfl, _⟩
      rfl
  · rw [List.getElem?_eq_none (by simpa using h)]
    constructor
    · intro e
      cases e
    · rintro ⟨_, _⟩
      omega
theorem rngI2_get {a b y : Int} {i : Nat} : (rngI2 a b)[i]? = some y ↔ y = a + (i : Int) ∧ a + (i : Int) < b := by
  unfold rngI2
  rw [List.getElem?_map]
  by_cases h : i < (b - a).toNat
  · rw [List.getElem?_range h]
    constructor
    · intro e
      cases e
      exact ⟨rfl, by omega⟩
    · rintro ⟨rfl, _⟩
      rfl
  · rw [List.getElem?_eq_none (by simpa using h)]
    constructor
    · intro e
      cases e
    · rintro ⟨_, _⟩
      omega
theorem enumI_get {y : Int × α} {i : Nat} : (enumI l)[i]? = some y ↔ l[i]? = some y.2 ∧ y.1 = (i : Int) := by
  unfold enumI
  rw [List.getElem?_map, List.getElem?_zipIdx]
  cases h : l[i]? with
  | none => simp
  | some z =>
    obtain ⟨y1, y2⟩ := y
    simp
    constructor
    · rintro ⟨h1, h2⟩
      exact ⟨h2, h1.symm⟩
    · rintro ⟨h1, h2⟩
      exact ⟨h2.symm, h1⟩
theorem rngI_len {n : Int} : (rngI n).length = n.toNat := by simp [rngI]
theorem rngI2_len {a b : Int} : (rngI2 a b).length = (b - a).toNat := by simp [rngI2]
theorem enumI_len : (enumI l).length = l.length := by simp [enumI]
theorem rngI_mem {n y : Int} : y ∈ rngI n ↔ 0 ≤ y ∧ y < n := by
  rw [List.mem_iff_getElem?]
  constructor
  · rintro ⟨i, h⟩
    obtain ⟨h1, h2⟩ := rngI_get.mp h
    omega
  · rintro ⟨h1, h2⟩
    exact ⟨y.toNat, rngI_get.mpr ⟨by omega, by omega⟩⟩
theorem rngI2_mem {a b y : Int} : y ∈ rngI2 a b ↔ a ≤ y ∧ y < b := by
  rw [List.mem_iff_getElem?]
  constructor
  · rintro ⟨i, h⟩
    obtain ⟨h1, h2⟩ := rngI2_get.mp h
    omega
  · rintro ⟨h1, h2⟩
    exact ⟨(y - a).toNat, rngI2_get.mpr ⟨by omega, by omega⟩⟩
end
end Kj

/-! Kj13: statements over kinds. M: what is new since the def began, G: what was there. -/
namespace Kj
open PySem PySem.Spec PyProof.Rows L2 Evl
section
variable {M M1 G H H1 : Hp} {Ns : List Hp}
theorem Own.uu (o : Own (M1 :: G :: Ns) H1) (e : Ex M M1) : Ex (uni G M) (uni G M1) := fun a u h => by
  unfold uni at h ⊢
  cases q : M a with
  | some z =>
    rw [q] at h
    cases h
    rw [e _ _ q]
  | none =>
    rw [q] at h
    cases q1 : M1 a with
    | none => exact h
    | some z =>
      have := o.2.1 G List.mem_cons_self a (by rw [q1]; exact fun z => nomatch z)
      rw [this] at h
      cases h
theorem Own.ug (o : Own (M :: G :: Ns) H) : Ex G (uni G M) := uni_l fun a ha => o.2.1 G List.mem_cons_self a ha
theorem Own.uh (o : Own (M :: G :: Ns) H) : Ex (uni G M) H := uni_ex o.e1 o.e0
theorem Own.init (H : Hp) : Own [emp, H] H := ⟨emp_ex, (fun _ _ a ha => absurd rfl ha), Own.one H⟩
theorem Own.rot {N : Hp} (o : Own (N :: M :: G :: Ns) H) : Own (M :: G :: N :: Ns) H := by
  have o2 : Own (M :: N :: G :: Ns) H := o.swap
  exact ⟨o2.1, fun M' hM' => by
    rcases List.mem_cons.mp hM' with z | z
    · subst z; exact o2.2.1 M' (List.mem_cons_of_mem _ List.mem_cons_self)
    · rcases List.mem_cons.mp z with z | z
      · subst z; exact o2.2.1 M' List.mem_cons_self
      · exact o2.2.1 M' (List.mem_cons_of_mem _ (List.mem_cons_of_mem _ z)), o2.2.2.swap⟩
theorem Own.exO (o : Own (M :: G :: Ns) H) {N : Hp} {j : Nat} (h : Ns[j]? = some N) : Ex N H := o.ix (i := j + 2) h
theorem Own.setO {l : Addr} {u u' : HO} {j : Nat} (o : Own (M :: G :: Ns) H) (h : Ns[j]? = some (sing l u)) : Own (M :: G :: Ns.set j (sing l u')) (upd H l u') := Own.set (j := j + 2) o h
/-- what was one's own becomes common -/
theorem Own.join {N : Hp} {j : Nat} (o : Own (M :: G :: Ns) H) (h : Ns[j]? = some N) : Own (uni M N :: G :: Ns.eraseIdx j) H := by
  have o2 : Own (N :: M :: G :: Ns.eraseIdx j) H := Own.pull (i := j + 2) o h
  exact o2.merge
theorem Own.joinE {N : Hp} {j : Nat} (o : Own (M :: G :: Ns) H) (h : Ns[j]? = some N) : Ex M (uni M N) := by
  have o2 : Own (N :: M :: G :: Ns.eraseIdx j) H := Own.pull (i := j + 2) o h
  exact uni_l fun a ha => o2.2.1 M List.mem_cons_self a ha
end
section
variable {K : PySem.W.Frag} {mg : Str → Option Value} {σ : L2.St} {H M G : Hp} {ta tb te : TE} {tr : TA} {t : TT} {v : V} {P : Hp → V → Prop} {Ns : List Hp} {D : Ends} {tu tz : TS} {α β : Type} {T : Tp α} {S : Tp β} {l m : List α} {x : α} {xs : List V} {i j : Nat} {p : Addr}
/-! ### x = e -/
theorem s_b (o : Own (M :: G :: Ns) H) (h : EvB te σ H M P) (k : ∀ v M1 H1, Ex M M1 → Own (M1 :: G :: Ns) H1 → P M1 v → D.nx (σ.set i (some v)) H1) : tAsg te (gName i) D σ H := h H (Ex.refl H) _ fun v H1 N e e2 f p => k v (uni M N) H1 (uni_exl o.e0 f) (o.add e e2 f).merge p
theorem q_b (o : Own (M :: G :: Ns) H) (h : EvB te σ H M P) (k : ∀ v M1 H1, Ex M M1 → Own (M1 :: G :: Ns) H1 → P M1 v → tz D (σ.set i (some v)) H1) : tSeq (tAsg te (gName i)) tz D σ H := s_b (D := { D with nx := tz D }) o h k
theorem s_apu (o : Own (M :: G :: Ns) H) (hj : Ns[j]? = some (sing p (.lst xs))) (hx : Paired (T.R (uni G M)) xs l) (ha : Ev ta σ H (.ref p)) (h : Ed T te σ H (uni G M) x) (hl : l.length < 40000) (k : ∀ v M1 H1, Ex M M1 → Own (M1 :: G :: Ns.set j (sing p (.lst (xs ++ [v])))) H1 → Paired (T.R (uni G M1)) (xs ++ [v]) (l ++ [x]) → D.nx σ H1) : tDrop (tBM K "list" rAppend ta (tCons te tNil)) D σ H := ha H (Ex.refl H) _ fun H1 e1 =>
  ⟨Or.inl ⟨rfl, xs, sq_of (e1 p _ (o.exO hj _ _ sing_at))⟩, h H1 e1 _ fun v H2 N e2 e3 f q => by
    have o2 : Own (uni M N :: G :: Ns) H2 := ((o.mono e1).add e2 e3 f).merge
    have eM : Ex M (uni M N) := uni_exl (o.e0.trans e1) f
    rw [uni_ass] at q
    exact ⟨p, xs, v, rfl, rfl, o2.exO hj _ _ sing_at, sz_lt (by rw [Paired.length hx]; omega), k v _ _ eM (o2.setO hj) (paired_app' (paired_up (o2.uu eM) hx) (.cons q .nil))⟩⟩
theorem q_apu (o : Own (M :: G :: Ns) H) (hj : Ns[j]? = some (sing p (.lst xs))) (hx : Paired (T.R (uni G M)) xs l) (ha : Ev ta σ H (.ref p)) (h : Ed T te σ H (uni G M) x) (hl : l.length < 40000) (k : ∀ v M1 H1, Ex M M1 → Own (M1 :: G :: Ns.set j (sing p (.lst (xs ++ [v])))) H1 → Paired (T.R (uni G M1)) (xs ++ [v]) (l ++ [x]) → tz D σ H1) : tSeq (tDrop (tBM K "list" rAppend ta (tCons te tNil))) tz D σ H := s_apu (D := { D with nx := tz D }) o hj hx ha h hl k
theorem len_ofL {v : V} (h : (tL K T).R H v l) : l.length ≤ 40000 := by
  obtain ⟨_, _, _, _, _, h⟩ := h
  exact h
theorem len_ofW {v : V} (h : (tW T).R H v l) : l.length ≤ 40000 := by
  obtain ⟨_, _, _, _, _, h⟩ := h
  exact h
theorem paired_mapI {H : Hp} : ∀ l : List Int, Paired (tI.R H) (l.map V.int) l
  | [] => .nil
  | _ :: r => .cons rfl (paired_mapI r)
/-! ### return -/
theorem s_rb (o : Own (M :: G :: Ns) H) (h : EvB te σ H M P) (k : RetNew G D.rt P) : tRet te D σ H := h H (Ex.refl H) _ fun v H1 N e e2 f q => by
  have o1 : Own (uni M N :: G :: Ns) H1 := (o.add e e2 f).merge
  exact k v H1 _ o1.e1 o1.e0 (fun a ha => o1.2.1 G List.mem_cons_self a ha) q
theorem s_rv' (o : Own (M :: G :: Ns) H) (h : Ev te σ H v) (k : RetNew G D.rt P) (hp : P M v) : tRet te D σ H := h H (Ex.refl H) _ fun H1 e => k v H1 M ((o.mono e).e1) ((o.mono e).e0) (fun a ha => o.2.1 G List.mem_cons_self a ha) hp
theorem s_rn' (o : Own (M :: G :: Ns) H) (k : RetNew G D.rt P) (hp : P M .non) : D.rt .non H := k .non H M o.e1 o.e0 (fun a ha => o.2.1 G List.mem_cons_self a ha) hp
theorem ed_of {B : Hp} (h : T.R B v x) (hv : σ[i]? = some (some v)) : Ed T (tVar i) σ H B x := eb_var hv h
end
/-! ### ends -/
def resE (e : Option Str) (P : Hp → V → Prop) : Res := match e with
  | none => .ok P
  | some x => .err x []
section
variable {mg : Str → Option Value} {e : Option Str} {P : Hp → V → Prop} {H H1 : Hp} {Q : VK} {E : XK} {x : Str}
theorem resE_ok (h : e = none) (k : Out mg (resE e P) H Q E) : RetNew H Q P := by subst h; exact k
theorem resE_err (h : e = some x) (k : Out mg (resE e P) H Q E) : RaiseX mg x [] H E := by subst h; exact k
theorem res_ok (h : e = none) : resE e P = .ok P := by subst h; rfl
theorem res_err (h : e = some x) : resE e P = .err x [] := by subst h; rfl
theorem RaiseX.go {C : Addr} (k : RaiseX mg x [] H E) (e : Ex H H1) (g : mg x = some (.ref C)) : E (.ref C) none H1 := k H1 C none e g (.inl ⟨rfl, rfl⟩)
end
end Kj

/-! Kj14: promises of things that hold what was handed in; walks over a part; index, extend. -/
namespace Kj
open PySem PySem.Spec PyProof.Rows L2 Evl
/-- the promise, told in a part B of the heap and what is new -/
def Rl.spB (S : Rl) (mg : Str → Option Value) : Sp := fun vs H Q E => ∃ B r, Ex B H ∧ S.R vs B r ∧ match r with
  | .ok P => ∀ v H' N, Ex H H' → Ex N H' → Fr H N → P (uni B N) v → Q v H'
  | .err x fs => RaiseX mg x fs H E
section
variable {K : PySem.W.Frag} {mg : Str → Option Value} {σ : L2.St} {H B : Hp} {ta te : TE} {tr : TA} {P : Hp → V → Prop} {E : L2.St → XK} {W : WX} {α γ : Type} {T : Tp α} {O : Tp γ} {S : Rl} {as : List Arg} {x : α} {z : γ} {C : Addr} {mn xn : Str} {fs : List (Str × V)}
theorem ed_callS (eB : Ex B H) (ha : EvBs tr σ H B as) (hR : ∀ vs G, ArgsR G vs as → S.R vs G (.ok fun G v => T.R G v x)) : Ed T (tCallS (S.spB mg) E tr) σ H B x := fun H1 e Q q => ha H1 e _ fun vs H2 N e2 e3 f p => by
  have eU : Ex (uni B N) H2 := uni_ex ((eB.trans e).trans e2) e3
  refine ⟨_, _, eU, hR vs _ p, fun v H3 N' e4 e5 f' p' => ?_⟩
  obtain ⟨g1, g2, g3, g4⟩ := two_parts (eB.trans e) e2 e3 f f' e4 e5
  rw [uni_ass] at p'
  exact q v H3 (uni N N') (e2.trans e4) g2 g1 p'
end
/-- what of H is not in B -/
def rest (B H : Hp) : Hp := fun a => match B a with | some _ => none | none => H a
section
variable {B H H1 M G : Hp} {Ns : List Hp}
theorem own_rest (e : Ex B H) : Own [emp, B, rest B H] H := by
  refine ⟨emp_ex, (fun _ _ a ha => absurd rfl ha), e, fun M hM a ha => ?_, fun a o h => ?_, (fun _ h => nomatch h), trivial⟩
  · have z : M = rest B H := by simpa using hM
    subst z
    unfold rest
    cases q : B a with
    | none => exact absurd q ha
    | some o => rfl
  · unfold rest at h
    cases q : B a with
    | none => rw [q] at h; exact h
    | some u => rw [q] at h; cases h
theorem rest_ex {j : Nat} (e : Ex B H) (o : Own (M :: B :: Ns) H1) (h : Ns[j]? = some (rest B H)) : Ex H H1 := fun a u ha => by
  cases q : B a with
  | none => exact o.exO h a u (by unfold rest; rw [q]; exact ha)
  | some z =>
    have := e a z q
    rw [ha] at this
    cases this
    exact o.e1 a _ q
theorem rest_fr {j : Nat} (o : Own (M :: B :: Ns) H1) (h : Ns[j]? = some (rest B H)) : Fr H M := fun a ha => by
  have h1 := o.2.1 B List.mem_cons_self a ha
  have h2 := o.2.1 (rest B H) (List.mem_cons_of_mem _ (List.mem_of_getElem? h)) a ha
  unfold rest at h2
  rw [h1] at h2
  exact h2
end
/-! ### return, raise: told in B and what is new -/
def RetOld (B H : Hp) (Q : VK) (P : Hp → V → Prop) : Prop := ∀ v H' N, Ex H H' → Ex N H' → Fr H N → P (uni B N) v → Q v H'
def OutB (mg : Str → Option Value) (r : Res) (B H : Hp) (Q : VK) (E : XK) : Prop := match r with
  | .ok P => RetOld B H Q P
  | .err x fs => RaiseX mg x fs H E
theorem spB_out {S : Rl} {mg : Str → Option Value} {vs : List V} {H : Hp} {Q : VK} {E : XK} (h : S.spB mg vs H Q E) : ∃ B r, Ex B H ∧ S.R vs B r ∧ OutB mg r B H Q E := by
  obtain ⟨B, r, h1, h2, h3⟩ := h
  refine ⟨B, r, h1, h2, ?_⟩
  cases r with
  | ok P => exact h3
  | err x fs => exact h3
section
variable {K : PySem.W.Frag} {mg : Str → Option Value} {σ : L2.St} {H H0 M B N : Hp} {ta tb te : TE} {v : V} {P : Hp → V → Prop} {Ns : List Hp} {D : Ends} {tu tz : TS} {α ι : Type} {T : Tp α} {l m : List α} {x : α} {xs : List V} {i j : Nat} {p : Addr} {e : Option Str} {Q : VK} {E : XK} {xn : Str} {wi : TI} {g : TG}
theorem resB_ok (h : e = none) (k : OutB mg (resE e P) B H Q E) : RetOld B H Q P := by subst h; exact k
theorem s_rbS (e0 : Ex B H0) (o : Own (M :: B :: Ns) H) (hj : Ns[j]? = some (rest B H0)) (h : EvB te σ H (uni B M) P) (k : RetOld B H0 D.rt P) : tRet te D σ H := h H (Ex.refl H) _ fun v H1 N e e2 f q => by
  have o1 : Own (uni M N :: B :: Ns) H1 := (o.add e e2 f).merge
  rw [uni_ass] at q
  exact k v H1 _ (rest_ex e0 o1 hj) o1.e0 (rest_fr o1 hj) q
end
end Kj

/-! Kj15: xs[lo::step], step more than 0. -/
namespace Kj
open PySem PySem.Spec PyProof.Rows L2 Evl
end Kj

/-! Kj16: max(xs, default=d), min(xs, default=None), tuples of any length. -/
namespace Kj
open PySem PySem.Spec PyProof.Rows L2 Evl
end Kj

/-! Kj17: sorted(ints). -/
namespace Kj
open PySem PySem.Spec PyProof.Rows L2 Evl
end Kj

/-! Kj18: tuples of any length, min(ints, default=None), max of two. -/
namespace Kj
open PySem PySem.Spec PyProof.Rows L2 Evl
/-- a tuple of any length, all of a kind -/
def tU (K : PySem.W.Frag) {α : Type} (T : Tp α) : Tp (List α) := ⟨fun H v l => ∃ p xs, v = .ref p ∧ SqT K H p xs ∧ Paired (T.R H) xs l ∧ l.length ≤ 40000, fun e ⟨p, xs, h1, h2, h3, h4⟩ => ⟨p, xs, h1, ex_t e h2, paired_up e h3, h4⟩⟩
instance {K : PySem.W.Frag} {α : Type} {T : Tp α} : NN (tU K T) := ⟨fun ⟨_, _, h, _⟩ z => by cases h; cases z⟩
instance {K : PySem.W.Frag} {α : Type} {T S : Tp α} [Z : Sub T S] : Sub (tU K T) (tU K S) := ⟨fun ⟨p, xs, h1, h2, h3, h4⟩ => ⟨p, xs, h1, h2, paired_imp (fun _ _ z => Z.to z) h3, h4⟩⟩
instance {K : PySem.W.Frag} {α : Type} {T : Tp α} [Q : Pla K T] : Pla K (tU K T) := ⟨fun l => .tuple (l.map Q.enc), fun ⟨p, xs, h1, h2, h3, _⟩ => by subst h1; exact .tup h2 (dpa_of h3), fun ⟨p, xs, h1, h2, h3, _⟩ => by simp only [PyData.canLay0, laya_of h3], fun ⟨p, xs, h1, h2, h3, h4⟩ => smD_tuple.mpr ⟨by rw [List.length_map]; exact h4, sma_of h3⟩, Q.dep + 1, fun l => by
  have := depAll (n := Q.dep) (ds := l.map Q.enc) fun d hd => by
    obtain ⟨x, _, rfl⟩ := List.mem_map.mp hd
    exact Q.depth x
  simp only [PyData.depth]
  omega, fun {H v x w y} ⟨p, xs, _, _, h3, _⟩ ⟨q, ys, _, _, g3, _⟩ => by rw [eqv_tup, eqva_of (G := H) h3 g3]⟩
section
variable {K : PySem.W.Frag} {σ : L2.St} {H B B' : Hp} {ta tb te td : TE} {tr : TA} {α : Type} {T : Tp α} {l m : List α}
end
end Kj

/-! Kj19: changes of a deal, told as tuples with a word ahead. -/
namespace Kj
open PySem PySem.Spec PyProof.Rows L2 Evl
inductive Chg where
  | wo (v : Int)
  | snt (v r : Int)
  | mov (v r p : Int)
deriving DecidableEq, Inhabited
def Chg.tag : Chg → Str
  | .wo _ => "without"
  | .snt _ _ => "sent"
  | .mov _ _ _ => "moved"
def Chg.v : Chg → Int
  | .wo v => v
  | .snt v _ => v
  | .mov v _ _ => v
def Chg.r : Chg → Int
  | .wo _ => 0
  | .snt _ r => r
  | .mov _ r _ => r
def Chg.p : Chg → Int
  | .mov _ _ p => p
  | _ => 0
def Chg.n : Chg → Nat
  | .wo _ => 2
  | .snt _ _ => 3
  | .mov _ _ _ => 4
theorem Chg.n3 {c : Chg} (h : decide (c.tag = ("without" : Str)) = false) : 3 ≤ c.n := by
  cases c with
  | wo v => exact absurd rfl (of_decide_eq_false h)
  | snt v r => exact Nat.le_refl _
  | mov v r p => show 3 ≤ 4; decide
section
variable {K : PySem.W.Frag} {σ : L2.St} {H B : Hp} {te : TE} {c : Chg} {x r p : Int}
end
end Kj

/-! Kj20: promises of a new list that holds what was handed in. -/
namespace Kj
open PySem PySem.Spec PyProof.Rows L2 Evl
/-- a kind made of tuples and plain things: a list's cell says nothing of it -/
class Tup {α : Type} (T : Tp α) : Prop where
  drop : ∀ {G : Hp} {p : Addr} {xs : List V} {v : V} {x : α}, G p = none → T.R (uni G (sing p (.lst xs))) v x → T.R G v x
instance : Tup tI := ⟨fun _ h => h⟩
instance : Tup tB := ⟨fun _ h => h⟩
instance : Tup tS := ⟨fun _ h => h⟩
instance : Tup tX := ⟨fun _ h => h⟩
theorem uni_off {G : Hp} {p : Addr} {u : HO} {a : Addr} (h : a ≠ p) : uni G (sing p u) a = G a := by
  unfold uni
  rw [sing_ne h]
theorem sqT_drop {K : PySem.W.Frag} {G : Hp} {p : Addr} {xs ys : List V} {a : Addr} (h : SqT K (uni G (sing p (.lst xs))) a ys) : SqT K G a ys := by
  rcases h with h | h
  · have ne : a ≠ p := fun z => by
      subst z
      have e : uni G (sing a (.lst xs)) a = some (.lst xs) := uni_r _ _ sing_at
      rcases h with h | ⟨o, h⟩ <;> rw [e] at h <;> cases h
    refine .inl ?_
    rcases h with h | ⟨o, h⟩ <;> rw [uni_off ne] at h
    · exact .inl h
    · exact .inr ⟨o, h⟩
  · exact .inr h
theorem paired_drop0 {α : Type} {T : Tp α} [D : Tup T] {G : Hp} {p : Addr} {xs ys : List V} {l : List α} (hp : G p = none) (h : Paired (T.R (uni G (sing p (.lst xs)))) ys l) : Paired (T.R G) ys l := paired_imp (fun _ _ z => D.drop hp z) h
instance {K : PySem.W.Frag} {α β : Type} {T : Tp α} {S : Tp β} [D : Tup T] [E : Tup S] : Tup (tP K T S) := ⟨fun hp ⟨p, a, b, h1, h2, h3, h4⟩ => ⟨p, a, b, h1, sqT_drop h2, D.drop hp h3, E.drop hp h4⟩⟩
instance {K : PySem.W.Frag} {α β γ : Type} {T : Tp α} {S : Tp β} {U : Tp γ} [D : Tup T] [E : Tup S] [F : Tup U] : Tup (tT3 K T S U) := ⟨fun hp ⟨p, a, b, c, h1, h2, h3, h4, h5⟩ => ⟨p, a, b, c, h1, sqT_drop h2, D.drop hp h3, E.drop hp h4, F.drop hp h5⟩⟩
instance {K : PySem.W.Frag} {α β γ δ : Type} {T : Tp α} {S : Tp β} {U : Tp γ} {W : Tp δ} [D : Tup T] [E : Tup S] [F : Tup U] [O : Tup W] : Tup (tT4 K T S U W) := ⟨fun hp ⟨p, a, b, c, d, h1, h2, h3, h4, h5, h6⟩ => ⟨p, a, b, c, d, h1, sqT_drop h2, D.drop hp h3, E.drop hp h4, F.drop hp h5, O.drop hp h6⟩⟩
instance {K : PySem.W.Frag} {α : Type} {T : Tp α} [D : Tup T] : Tup (tU K T) := ⟨fun hp ⟨p, xs, h1, h2, h3, h4⟩ => ⟨p, xs, h1, sqT_drop h2, paired_drop0 hp h3, h4⟩⟩
section
variable {K : PySem.W.Frag} {mg : Str → Option Value} {σ : L2.St} {H H0 M B N : Hp} {ta tb te : TE} {tr : TA} {Ns : List Hp} {D : Ends} {α : Type} {T : Tp α} {l : List α} {xs : List V} {i j : Nat} {p : Addr} {S : Rl} {as : List Arg} {E : L2.St → XK}
end
end Kj

/-! Kj21: comprehensions of new things over anything (after Kj12's own text). -/
namespace Kj
open PySem PySem.Spec PyProof.Rows L2 Evl
theorem emp_uni {N : Hp} : Ex (uni emp N) N := fun a o h => by
  unfold uni at h
  cases q : N a with
  | some u => rw [q] at h; exact h
  | none => rw [q] at h; cases h
section
variable {K : PySem.W.Frag} {mg : Str → Option Value} {σ : L2.St} {H B M G : Hp} {ta tb te tx ti tl : TE} {tr : TA} {t u : TT} {v w : V} {P P' : Hp → V → Prop} {Ns : List Hp} {D : Ends} {tu tz : TS} {wi : TI} {g : TG} {α β ι : Type} {T : Tp α} {S : Tp β} {Z : Hp → ι → L2.St → L2.St → Prop}
theorem en_lcM {B' : Hp} {l : List ι} {vs : List Nat} (hr : Dr wi g σ H B l Z) (eB : Ex B H) (f : ι → Bool) (m : ι → β) (hw : ∀ G y σ2, Z G y (wipe σ vs) σ2 → wipe σ2 vs = wipe σ vs)
    (ht : ∀ G y σ2 H1, Ex B G → Ex G H1 → Ex H H1 → y ∈ l → Z G y (wipe σ vs) σ2 → EvT t σ2 H1 (f y)) (he : ∀ G y σ2 H1, Ex B G → Ex G H1 → Ex H H1 → y ∈ l → f y = true → Z G y (wipe σ vs) σ2 → Ed S te σ2 H1 emp (m y)) (zu : ∀ G G' y σ2, Ex G G' → Z G y (wipe σ vs) σ2 → Z G' y (wipe σ vs) σ2) :
    Edn S (tLc wi g t te vs) σ H B' ((l.filter f).map m) := fun H1 e Q q =>
  hr H1 e _ fun J H2 N e2 e3 fN hn g1 g2 g3 Dl hD => by
    have eB2 : Ex B H2 := (eB.trans e).trans e2
    have eU : Ex (uni B N) H2 := uni_ex eB2 e3
    refine ⟨fun i k H' => k = l.length - i ∧ i ≤ l.length ∧ ∃ (N' : Hp) (xs : List V), Own [sing Dl (.lst xs), N', H2] H' ∧ Paired (S.R N') xs (((l.take i).filter f).map m), ⟨l.length, by simp, Nat.zero_le _, emp, [], ⟨sing_ex upd_same, fun M hM a ha => ?_, emp_ex, (fun _ _ a ha => absurd rfl ha), Ex.new hD, (fun _ h => nomatch h), trivial⟩, .nil⟩, ?_⟩
    · rcases List.mem_cons.mp hM with z | z
      · subst z; rfl
      · have z : M = H2 := by simpa using z
        subst z
        by_cases qa : a = Dl
        · subst qa; exact hD
        · exact absurd (sing_ne qa) ha
    rintro i k H' ⟨rfl, hi, N', xs, o, pr⟩
    have eB' : Ex (uni B N) H' := eU.trans o.e2
    have hlen : (((l.take i).filter f).map m).length ≤ 50000 := by
      rw [List.length_map]
      have := List.length_filter_le f (l.take i)
      rw [List.length_take] at this
      omega
    by_cases hlt : i < l.length
    · have hli : l[i]? = some l[i] := List.getElem?_eq_getElem hlt
      have hmem : l[i] ∈ l := List.getElem_mem hlt
      have htk : l.take (i + 1) = l.take i ++ [l[i]] := (List.take_append_getElem hlt).symm
      refine .inr ⟨g1 i H' eB' hlt, _, fun H3 p => p, fun x H3 hy => ?_⟩
      obtain ⟨e4, hy⟩ := g3 i l[i] H' x H3 eB' hli hy
      refine hy _ _ fun σ2 hz => ⟨hw _ _ _ hz, ?_⟩
      have o3 := o.mono e4
      have dj : Fr H2 N' := o3.dj (i := 1) (j := 2) (by decide) rfl rfl
      have eG : Ex (uni (uni B N) N') H3 := uni_ex (eU.trans o3.e2) o3.e1
      have eBG : Ex (uni B N) (uni (uni B N) N') := uni_exl eU dj
      have eBB : Ex B (uni (uni B N) N') := (uni_exl (eB.trans e) fN).trans eBG
      have hz' := zu _ _ _ _ eBG hz
      refine ht _ _ σ2 H3 eBB eG ((e.trans e2).trans o3.e2) hmem hz' H3 (Ex.refl _) _ fun H4 e5 => ?_
      cases hf : f l[i] with
      | false =>
        show ∃ _, _
        refine ⟨l.length - (i + 1), by omega, rfl, hlt, N', xs, o3.mono e5, ?_⟩
        rw [htk, List.filter_append, List.filter_cons, if_neg (by rw [hf]; decide)]
        simpa using pr
      | true =>
        show te σ2 H4 _
        refine he _ _ σ2 H4 eBB (eG.trans e5) (((e.trans e2).trans o3.e2).trans e5) hmem hf hz' H4 (Ex.refl _) _ fun y H5 N2 e6 e7 f2 p => ?_
        have o5 : Own [N2, sing Dl (.lst xs), N', H2] H5 := (o3.mono e5).add e6 e7 f2
        refine ⟨xs, o5.at (j := 1) rfl, by rw [Paired.length pr]; exact sz_lt (by omega), l.length - (i + 1), by omega, rfl, hlt, uni N' N2, xs ++ [y], ?_, ?_⟩
        · have o6 : Own [N2, sing Dl (.lst (xs ++ [y])), N', H2] (upd H5 Dl (.lst (xs ++ [y]))) := o5.set (j := 1) rfl
          exact own_merge2 o6.swap
        · rw [htk, List.filter_append, List.filter_cons, if_pos hf, List.map_append]
          exact paired_app' (paired_up (uni_exl (o3.e1.trans e5) f2) pr) (.cons (S.up (emp_uni.trans uni_r) p) .nil)
    · have ei : i = l.length := by omega
      subst ei
      rw [List.take_length] at pr
      refine .inl ⟨g2 H' eB', ?_⟩
      have dj : Fr H2 N' := o.dj (i := 1) (j := 2) (by decide) rfl rfl
      have hN : N' Dl = none := (o.dj (i := 0) (j := 1) (by decide) rfl rfl) Dl (by rw [sing_at]; exact fun z => nomatch z)
      refine q Dl xs H' (uni N N') (e2.trans o.e2) (uni_ex (e3.trans o.e2) o.e1) (uni_fr fN (dj.back e2)) (fresh_back e2 hD) ?_ (o.at (j := 0) rfl) ?_ (by rw [List.length_map]; exact Nat.le_trans (List.length_filter_le _ _) hn)
      · unfold uni
        rw [hN]
        exact ex_none e3 hD
      · exact paired_up (uni_r.trans uni_r) pr
theorem en_lcMA {B' : Hp} {l : List ι} {vs : List Nat} (hr : Dr wi g σ H B l Z) (eB : Ex B H) (m : ι → β) (hw : ∀ G y σ2, Z G y (wipe σ vs) σ2 → wipe σ2 vs = wipe σ vs) (he : ∀ G y σ2 H1, Ex B G → Ex G H1 → Ex H H1 → y ∈ l → Z G y (wipe σ vs) σ2 → Ed S te σ2 H1 emp (m y)) (zu : ∀ G G' y σ2, Ex G G' → Z G y (wipe σ vs) σ2 → Z G' y (wipe σ vs) σ2) :
    Edn S (tLc wi g tYes te vs) σ H B' (l.map m) := by
  have h := en_lcM (B' := B') (t := tYes) hr eB (fun _ => true) m hw (fun _ _ _ _ _ _ _ _ _ => et_yes) (fun G y σ2 H1 a b c d _ e => he G y σ2 H1 a b c d e) zu
  rw [filter_all] at h
  exact h
end
end Kj

/-! Kj22: a new list of others' things, taken only to be read. -/
namespace Kj
open PySem PySem.Spec PyProof.Rows L2 Evl
section
variable {K : PySem.W.Frag} {mg : Str → Option Value} {σ : L2.St} {H B : Hp} {tr : TA} {α : Type} {T : Tp α} {x : α} {S : Rl} {as : List Arg} {E : L2.St → XK}
end
end Kj

/-! Kj23: new lists whose things lie apart from one another (kind tV), so that one of them may be changed. -/
namespace Kj
open PySem PySem.Spec PyProof.Rows L2 Evl
/-- things told each in a part of its own -/
inductive Sep {α : Type} (R : Hp → V → α → Prop) : Hp → List V → List α → Prop
  | nil {N : Hp} : Sep R N [] []
  | snoc {N N1 N2 : Hp} {xs : List V} {l : List α} {x : V} {y : α} : Sep R N1 xs l → R N2 x y → Dj N1 N2 → Ex N1 N → Ex N2 N → Sep R N (xs ++ [x]) (l ++ [y])
theorem Sep.up {α : Type} {R : Hp → V → α → Prop} {N N' : Hp} {xs : List V} {l : List α} (h : Sep R N xs l) (e : Ex N N') : Sep R N' xs l := by
  cases h with
  | nil => exact .nil
  | snoc a b c d f => exact .snoc a b c (d.trans e) (f.trans e)
theorem Sep.pair {α : Type} {T : Tp α} {N : Hp} {xs : List V} {l : List α} (h : Sep T.R N xs l) : Paired (T.R N) xs l := by
  induction h with
  | nil => exact .nil
  | snoc a b c d f ih => exact paired_app' (paired_up d ih) (.cons (T.up f b) .nil)
theorem Sep.len {α : Type} {R : Hp → V → α → Prop} {N : Hp} {xs : List V} {l : List α} (h : Sep R N xs l) : xs.length = l.length := by
  induction h with
  | nil => rfl
  | snoc a b c d f ih => rw [List.length_append, List.length_append, ih]; rfl
/-- a new thing between them -/
theorem Sep.ins {α : Type} {R : Hp → V → α → Prop} {N : Hp} {xs : List V} {l : List α} (h : Sep R N xs l) : ∀ (k : Nat) {C : Hp} {x : V} {y : α}, R C x y → Dj N C → Sep R (uni N C) (xs.take k ++ [x] ++ xs.drop k) (l.take k ++ [y] ++ l.drop k) := by
  induction h with
  | @nil N =>
    intro k C x y hR hD
    rw [List.take_nil, List.drop_nil, List.take_nil, List.drop_nil]
    exact .snoc (N1 := emp) .nil hR (fun u hu => absurd rfl hu) emp_ex uni_r
  | @snoc N N1 N2 xs l x0 y0 a b c d f ih =>
    intro k C x y hR hD
    have hlen := a.len
    have d1 : Dj N1 C := fun u hu => hD u fun w => by
      cases r : N1 u with
      | none => exact hu r
      | some o => rw [d u o r] at w; cases w
    have d2 : Dj N2 C := fun u hu => hD u fun w => by
      cases r : N2 u with
      | none => exact hu r
      | some o => rw [f u o r] at w; cases w
    have eN : Ex N (uni N C) := uni_l (Dj.symm hD)
    by_cases q : k ≤ l.length
    · have e1 : (xs ++ [x0]).take k ++ [x] ++ (xs ++ [x0]).drop k = (xs.take k ++ [x] ++ xs.drop k) ++ [x0] := by
        rw [List.take_append_of_le_length (by omega), List.drop_append_of_le_length (by omega)]
        simp
      have e2 : (l ++ [y0]).take k ++ [y] ++ (l ++ [y0]).drop k = (l.take k ++ [y] ++ l.drop k) ++ [y0] := by
        rw [List.take_append_of_le_length q, List.drop_append_of_le_length q]
        simp
      rw [e1, e2]
      refine .snoc (ih k hR d1) b (fun u hu => ?_) (fun u o hu => ?_) (f.trans eN)
      · unfold uni at hu
        cases r : C u with
        | some o => exact Dj.symm d2 u (by rw [r]; exact Option.some_ne_none _)
        | none => rw [r] at hu; exact c u hu
      · unfold uni at hu ⊢
        cases r : C u with
        | some o' => rw [r] at hu; exact hu
        | none => rw [r] at hu; exact d u o hu
    · have e1 : (xs ++ [x0]).take k ++ [x] ++ (xs ++ [x0]).drop k = (xs ++ [x0]) ++ [x] := by
        rw [List.take_of_length_le (by rw [List.length_append, List.length_singleton]; omega), List.drop_of_length_le (by rw [List.length_append, List.length_singleton]; omega), List.append_nil]
      have e2 : (l ++ [y0]).take k ++ [y] ++ (l ++ [y0]).drop k = (l ++ [y0]) ++ [y] := by
        rw [List.take_of_length_le (by rw [List.length_append, List.length_singleton]; omega), List.drop_of_length_le (by rw [List.length_append, List.length_singleton]; omega), List.append_nil]
      rw [e1, e2]
      exact .snoc (.snoc a b c d f) hR hD eN uni_r
def tV {α : Type} (T : Tp α) : Tp (List α) := ⟨fun H v l => ∃ p xs M, v = .ref p ∧ H p = some (.lst xs) ∧ Ex M H ∧ M p = none ∧ Sep T.R M xs l ∧ l.length ≤ 40000, fun e ⟨p, xs, M, h1, h2, h3, h4⟩ => ⟨p, xs, M, h1, e _ _ h2, h3.trans e, h4⟩⟩
instance {α : Type} {T S : Tp α} [Z : Sub T S] : Sub (tV T) (tW S) := ⟨fun ⟨p, xs, M, h1, h2, h3, _, h4, h5⟩ => ⟨p, xs, h1, h2, paired_imp (fun _ _ z => Z.to z) (paired_up h3 h4.pair), h5⟩⟩
instance {K : PySem.W.Frag} {α : Type} {T S : Tp α} [Z : Sub T S] : Sub (tV T) (tL K S) := ⟨fun ⟨p, xs, M, h1, h2, h3, _, h4, h5⟩ => ⟨p, xs, h1, sq_of h2, paired_imp (fun _ _ z => Z.to z) (paired_up h3 h4.pair), h5⟩⟩
section
variable {K : PySem.W.Frag} {mg : Str → Option Value} {σ : L2.St} {H B M G : Hp} {ta tb te tx ti tl : TE} {tr : TA} {t u : TT} {v w : V} {P P' : Hp → V → Prop} {Ns : List Hp} {D : Ends} {tu tz : TS} {wi : TI} {g : TG} {α β ι : Type} {T : Tp α} {S : Tp β} {Z : Hp → ι → L2.St → L2.St → Prop}
end
end Kj

/-! Kj24: dicts with tuple keys whose key tuples are known by their places: made, put into, walked by items and keys (the way of the library's d_setItem, turn_items, pi_items, call_list_dT). -/
namespace L2
open PySem PySem.Spec PyProof.Rows
abbrev Ent := List Key × Addr × V
def KX : List Ent → List (List Key × Addr × Value) → Prop := Paired fun p q => p.1 = q.1 ∧ p.2.1 = q.2.1 ∧ RelV p.2.2 q.2.2
theorem KX.has {xs : List Ent} {vs : List (List Key × Addr × Value)} (r : KX xs vs) (k : List Key) : (xs.any fun p => decide (p.1 = k)) = (atKey vs k).isSome := by
  unfold KX at r
  induction r with
  | nil => rfl
  | @cons p q ps qs h t ih =>
    rw [List.any_cons]
    by_cases e : p.1 = k
    · have e' : q.1 = k := h.1.symm.trans e
      have b : atKey (q :: qs) k = some q.2 := by simp [atKey, List.find?_cons, e']
      rw [b, decide_eq_true e]; rfl
    · have e' : ¬ q.1 = k := fun z => e (h.1.trans z)
      have b : atKey (q :: qs) k = atKey qs k := by simp [atKey, List.find?_cons, e']
      rw [b, decide_eq_false e, Bool.false_or]; exact ih
section
variable {P : Program} {w : World} {H : Hp} {h : Heap} {a : Addr} {xs : List Ent}
end
section
variable {X : Cx} {pins : List (Addr × Obj)} {σ : St} {H : Hp} {s : Shared} {d : Addr} {o : Obj}
end
section
variable {P : Program} {w : World} {K : PySem.W.Frag} {tg : Expr} {d : Addr} {o : Obj} {es : Array DictEntry} {ep : Nat}
end
section
variable {X : Cx} {tg e : Expr} {td : TE} {apos cpos : Pos}
end
end L2

/-! Kj25: dicts whose keys are tuples of texts, by kinds. -/
namespace Kj
open PySem PySem.Spec PyProof.Rows L2 Evl
/-- a tuple of the heap's own -/
def tZ {α : Type} (T : Tp α) : Tp (List α) := ⟨fun H v l => ∃ p xs, v = .ref p ∧ H p = some (.tup xs) ∧ Paired (T.R H) xs l ∧ l.length ≤ 40000, fun e ⟨p, xs, h1, h2, h3, h4⟩ => ⟨p, xs, h1, e _ _ h2, paired_up e h3, h4⟩⟩
instance {α : Type} {T : Tp α} : NN (tZ T) := ⟨fun ⟨_, _, h, _⟩ z => by cases h; cases z⟩
instance {K : PySem.W.Frag} {α : Type} {T S : Tp α} [Z : Sub T S] : Sub (tZ T) (tU K S) := ⟨fun ⟨p, xs, h1, h2, h3, h4⟩ => ⟨p, xs, h1, st_of h2, paired_imp (fun _ _ z => Z.to z) h3, h4⟩⟩
section
variable {P : Program} {w : World} {K : PySem.W.Frag} {mg : Str → Option Value} {σ : L2.St} {H B M G : Hp} {ta tb te td : TE} {tr : TA} {v : V} {Ns : List Hp} {D : Ends} {tz : TS} {g : TG} {α : Type} {T : Tp α} {l : List (List Str × α)} {xs : List Ent} {i j : Nat} {p : Addr}
end
end Kj

/-! Kj26: own lists of things that are told in part; slices of tuples. -/
namespace Kj
open PySem PySem.Spec PyProof.Rows L2 Evl
section
variable {K : PySem.W.Frag} {mg : Str → Option Value} {σ : L2.St} {H B M G : Hp} {ta tb te td : TE} {tr : TA} {Ns : List Hp} {D : Ends} {tz : TS} {α : Type} {T : Tp α} {l : List α} {xs : List V} {i j : Nat} {p : Addr} {Z : α → Prop}
end
end Kj

/-! Kj27: len(set(xs)) of numbers. -/
namespace Kj
open PySem PySem.Spec PyProof.Rows L2 Evl
end Kj

/-! Kj28: xs.index(y) of plain data. -/
namespace Kj
open PySem PySem.Spec PyProof.Rows L2 Evl
section
variable {mg : Str → Option Value} {σ : L2.St} {H B : Hp} {te : TE} {tr : TA} {α : Type} {T : Tp α} {P : Hp → V → Prop} {E : L2.St → XK}
end
end Kj

/-! Kj29: things that change. Each is told of by its part of the heap and by what lies about it; a call may change the parts that are given to it. -/
namespace Kj
open PySem PySem.Spec PyProof.Rows L2 Evl
/-! ### parts -/
theorem own_iff {H : Hp} : ∀ {Ns : List Hp}, Own Ns H ↔ (∀ N ∈ Ns, Ex N H) ∧ Ns.Pairwise Dj
  | [] => ⟨fun _ => ⟨fun _ h => (nomatch h), .nil⟩, fun _ => trivial⟩
  | N :: r => by
    constructor
    · rintro ⟨a, b, c⟩
      obtain ⟨c1, c2⟩ := own_iff.mp c
      exact ⟨fun M hM => (List.mem_cons.mp hM).elim (fun z => z ▸ a) (c1 M), .cons b c2⟩
    · rintro ⟨a, b⟩
      cases b with
      | cons b1 b2 => exact ⟨a N List.mem_cons_self, b1, own_iff.mpr ⟨fun M hM => a M (List.mem_cons_of_mem _ hM), b2⟩⟩
def HvL (Ps : List Hp) (H H' : Hp) : Prop := ∀ a o, H a = some o → (∀ N ∈ Ps, N a = none) → H' a = some o
def NewL (Ps : List Hp) (H M : Hp) : Prop := ∀ a, M a ≠ none → H a = none ∨ ∃ N ∈ Ps, N a ≠ none
theorem ne_some {α : Type} {x : Option α} {o : α} (h : x = some o) : x ≠ none := by rw [h]; exact fun z => nomatch z
theorem dj_uni {A B C : Hp} (h1 : Dj A C) (h2 : Dj B C) : Dj (uni A B) C := fun a h => (uni_some h).elim (h1 a) (h2 a)
theorem dj_unr {A B C : Hp} (h1 : Dj C A) (h2 : Dj C B) : Dj C (uni A B) := fun a h => by
  unfold uni
  rw [h2 a h]
  exact h1 a h
theorem own_sub {M G H : Hp} {Ps Rs : List Hp} (o : Own (M :: G :: (Ps ++ Rs)) H) : Own (uni G M :: Ps) H := by
  obtain ⟨a, b⟩ := own_iff.mp o
  cases b with
  | cons b1 b2 =>
    cases b2 with
    | cons c1 c2 =>
      obtain ⟨d1, d2, d3⟩ := List.pairwise_append.mp c2
      refine own_iff.mpr ⟨fun N hN => ?_, .cons (fun N hN => dj_uni (c1 N (List.mem_append.mpr (.inl hN))) (b1 N (List.mem_cons_of_mem _ (List.mem_append.mpr (.inl hN))))) d1⟩
      rcases List.mem_cons.mp hN with z | z
      · subst z
        exact uni_ex (a G (List.mem_cons_of_mem _ List.mem_cons_self)) (a M List.mem_cons_self)
      · exact a N (List.mem_cons_of_mem _ (List.mem_cons_of_mem _ (List.mem_append.mpr (.inl z))))
theorem hvl_ex {N H H' : Hp} {Ps : List Hp} (hv : HvL Ps H H') (e : Ex N H) (d : ∀ P ∈ Ps, Dj N P) : Ex N H' := fun a o h => hv a o (e a o h) fun P hP => d P hP a (ne_some h)
theorem newl_dj {N H M : Hp} {Ps : List Hp} (n : NewL Ps H M) (e : Ex N H) (d : ∀ P ∈ Ps, Dj N P) : Dj M N := fun a h => by
  rcases n a h with z | ⟨P, hP, z⟩
  · exact ex_none e z
  · exact (d P hP).symm a z
/-- behind a call that got the parts Ps and gave back Ps' -/
theorem own_back {M G H H' M' : Hp} {Ps Rs Ps' : List Hp} (o : Own (M :: G :: (Ps ++ Rs)) H) (hv : HvL Ps H H') (o' : Own (M' :: Ps') H') (n : ∀ N ∈ M' :: Ps', NewL Ps H N) : Own (uni M M' :: G :: (Ps' ++ Rs)) H' := by
  obtain ⟨a, b⟩ := own_iff.mp o
  obtain ⟨a', b'⟩ := own_iff.mp o'
  cases b with
  | cons b1 b2 =>
    cases b2 with
    | cons c1 c2 =>
      obtain ⟨d1, d2, d3⟩ := List.pairwise_append.mp c2
      cases b' with
      | cons e1 e2 =>
        have hM : Ex M H := a M List.mem_cons_self
        have hG : Ex G H := a G (List.mem_cons_of_mem _ List.mem_cons_self)
        have hR : ∀ N ∈ Rs, Ex N H := fun N hN => a N (List.mem_cons_of_mem _ (List.mem_cons_of_mem _ (List.mem_append.mpr (.inr hN))))
        have jM : ∀ P ∈ Ps, Dj M P := fun P hP => b1 P (List.mem_cons_of_mem _ (List.mem_append.mpr (.inl hP)))
        have jG : ∀ P ∈ Ps, Dj G P := fun P hP => c1 P (List.mem_append.mpr (.inl hP))
        have jR : ∀ N ∈ Rs, ∀ P ∈ Ps, Dj N P := fun N hN P hP => (d3 P hP N hN).symm
        have nM := n M' List.mem_cons_self
        refine own_iff.mpr ⟨fun N hN => ?_, .cons (fun N hN => ?_) (.cons (fun N hN => ?_) (List.pairwise_append.mpr ⟨e2, d2, fun P hP N hN => newl_dj (n P (List.mem_cons_of_mem _ hP)) (hR N hN) (jR N hN)⟩))⟩
        · rcases List.mem_cons.mp hN with z | z
          · subst z; exact uni_ex (hvl_ex hv hM jM) (a' M' List.mem_cons_self)
          · rcases List.mem_cons.mp z with z | z
            · subst z; exact hvl_ex hv hG jG
            · rcases List.mem_append.mp z with z | z
              · exact a' N (List.mem_cons_of_mem _ z)
              · exact hvl_ex hv (hR N z) (jR N z)
        · rcases List.mem_cons.mp hN with z | z
          · subst z
            exact dj_uni (b1 N List.mem_cons_self) (newl_dj nM hG jG)
          · rcases List.mem_append.mp z with z | z
            · exact dj_uni (newl_dj (n N (List.mem_cons_of_mem _ z)) hM jM).symm (e1 N z)
            · exact dj_uni (b1 N (List.mem_cons_of_mem _ (List.mem_append.mpr (.inr z)))) (newl_dj nM (hR N z) (jR N z))
        · rcases List.mem_append.mp hN with z | z
          · exact (newl_dj (n N (List.mem_cons_of_mem _ z)) hG jG).symm
          · exact c1 N (List.mem_append.mpr (.inr z))
theorem own_exl {M G H H' M' : Hp} {Ps Rs Ps' : List Hp} (o : Own (M :: G :: (Ps ++ Rs)) H) (n : ∀ N ∈ M' :: Ps', NewL Ps H N) : Ex M (uni M M') := by
  obtain ⟨a, b⟩ := own_iff.mp o
  cases b with
  | cons b1 b2 => exact uni_l fun x hx => newl_dj (n M' List.mem_cons_self) (a M List.mem_cons_self) (fun P hP => b1 P (List.mem_cons_of_mem _ (List.mem_append.mpr (.inl hP)))) x hx
/-- a part is moved to the front -/
theorem Own.front {M G H N : Hp} {Ns : List Hp} {j : Nat} (o : Own (M :: G :: Ns) H) (h : Ns[j]? = some N) : Own (M :: G :: ([N] ++ Ns.eraseIdx j)) H := by
  have o2 : Own (N :: M :: G :: Ns.eraseIdx j) H := Own.pull (i := j + 2) o h
  exact o2.rot
/-! ### promises -/
structure St (α : Type) where
  R : Hp → Hp → V → α → Prop
  up : ∀ {B B' N v x}, Ex B B' → R B N v x → R B' N v x
inductive ResX where
  | ok (P : Hp → List Hp → V → Prop)
  | err (x : Str) (fs : List (Str × V)) (P : Hp → List Hp → Prop)
structure RlX where
  R : List V → Hp → List Hp → ResX → Prop
def RetX (B : Hp) (Ps : List Hp) (H : Hp) (Q : VK) (P : Hp → List Hp → V → Prop) : Prop := ∀ v H' M Ps', HvL Ps H H' → Own (M :: Ps') H' → (∀ N ∈ M :: Ps', NewL Ps H N) → P (uni B M) Ps' v → Q v H'
/-- the fields of what was raised lie in what is new -/
def XdM (fs : List (Str × V)) (d : Option Addr) (M : Hp) : Prop := fs = [] ∧ d = none ∨ ∃ a, d = some a ∧ M a = some (.xd fs) ∧ fs ≠ []
theorem XdM.up {fs : List (Str × V)} {d : Option Addr} {M M' : Hp} (h : XdM fs d M) (e : Ex M M') : XdM fs d M' := h.imp id fun ⟨a, h1, h2, h3⟩ => ⟨a, h1, e _ _ h2, h3⟩
def RaiseL (mg : Str → Option Value) (x : Str) (fs : List (Str × V)) (B : Hp) (Ps : List Hp) (H : Hp) (E : XK) (P : Hp → List Hp → Prop) : Prop := ∀ H' M Ps' C d, HvL Ps H H' → Own (M :: Ps') H' → (∀ N ∈ M :: Ps', NewL Ps H N) → P (uni B M) Ps' → mg x = some (.ref C) → XdM fs d M → E (.ref C) d H'
def OutX (mg : Str → Option Value) (r : ResX) (B : Hp) (Ps : List Hp) (H : Hp) (Q : VK) (E : XK) : Prop := match r with
  | .ok P => RetX B Ps H Q P
  | .err x fs P => RaiseL mg x fs B Ps H E P
def RlX.sp (S : RlX) (mg : Str → Option Value) : Sp := fun vs H Q E => ∃ B Ps r, Own (B :: Ps) H ∧ S.R vs B Ps r ∧ OutX mg r B Ps H Q E
/-- an error, told by a name or none -/
def resX (e : Option Str) (P : Hp → List Hp → V → Prop) (PE : Hp → List Hp → Prop) : ResX := match e with
  | none => .ok P
  | some x => .err x [] PE
/-- a value that is known -/
def tIs (v : V) : Tp Unit := ⟨fun _ w _ => w = v, fun _ h => h⟩
/-! ### a call with parts -/
def EvC (te : TE) (σ : L2.St) (M G : Hp) (Ns : List Hp) (H : Hp) (W : Hp → List Hp → V → Prop) : Prop := ∀ Q : VK, (∀ v M1 Ns1 H1, Ex M M1 → Own (M1 :: G :: Ns1) H1 → W (uni G M1) Ns1 v → Q v H1) → te σ H Q
section
variable {K : PySem.W.Frag} {mg : Str → Option Value} {σ : L2.St} {H M G N : Hp} {Ns Ps Rs : List Hp} {ta te : TE} {tr : TA} {v : V} {as : List Arg} {S : RlX} {E : L2.St → XK} {W : Hp → List Hp → V → Prop} {Z : Hp → List Hp → Prop} {C : Addr} {mn : Str} {Wx : WX} {xn : Str} {fs : List (Str × V)}
theorem ec_args {H2 N1 : Hp} (o : Own (M :: G :: (Ps ++ Rs)) H) (e2 : Ex H H2) (e3 : Ex N1 H2) (f : Fr H N1) : Own (uni M N1 :: G :: (Ps ++ Rs)) H2 ∧ Ex M (uni M N1) ∧ uni (uni G M) N1 = uni G (uni M N1) := ⟨(o.add e2 e3 f).merge, uni_exl o.e0 f, uni_ass _ _ _⟩
/-- f(..) -/
theorem ec_call (o : Own (M :: G :: (Ps ++ Rs)) H) (ha : EvBs tr σ H (uni G M) as) (hR : ∀ vs B, Ex (uni G M) B → ArgsR B vs as → ∃ P, S.R vs B Ps (.ok P) ∧ ∀ G' Ps' w, P G' Ps' w → W G' (Ps' ++ Rs) w) : EvC (tCallS (S.sp mg) E tr) σ M G (Ps ++ Rs) H W := fun Q q => ha H (Ex.refl H) _ fun vs H2 N1 e2 e3 f p => by
  obtain ⟨o2, eM, eu⟩ := ec_args o e2 e3 f
  rw [eu] at p
  obtain ⟨P, h1, h2⟩ := hR vs _ (o2.uu eM) p
  refine ⟨uni G (uni M N1), Ps, .ok P, own_sub o2, h1, fun w H' M' Ps' hv o' n hp => q w (uni (uni M N1) M') (Ps' ++ Rs) H' (eM.trans (own_exl (H' := H') o2 n)) (own_back o2 hv o' n) ?_⟩
  have := h2 _ _ _ hp
  rw [uni_ass] at this
  exact this
/-- o.m(..), o a thing that changes -/
theorem ec_meth (o : Own (M :: G :: (Ps ++ Rs)) H) (hv : Ev ta σ H v) (hi : ∃ p dx gs, v = .ref p ∧ H p = some (.ins C dx gs) ∧ gs.lookup mn = none) (ha : EvBs tr σ H (uni G M) as) (hR : ∀ vs B, Ex (uni G M) B → ArgsR B vs as → ∃ P, S.R (v :: vs) B Ps (.ok P) ∧ ∀ G' Ps' w, P G' Ps' w → W G' (Ps' ++ Rs) w) : EvC (tMethS C mn (S.sp mg) E ta tr) σ M G (Ps ++ Rs) H W := fun Q q => hv H (Ex.refl H) _ fun H0 e0 => by
  obtain ⟨p, dx, gs, rfl, h1, h2⟩ := hi
  refine ⟨p, dx, gs, rfl, e0 _ _ h1, h2, ha H0 e0 _ fun vs H2 N1 e2 e3 f pa => ?_⟩
  obtain ⟨o2, eM, eu⟩ := ec_args (o.mono e0) e2 e3 f
  rw [eu] at pa
  obtain ⟨P, k1, k2⟩ := hR vs _ (o2.uu eM) pa
  refine ⟨uni G (uni M N1), Ps, .ok P, own_sub o2, k1, fun w H' M' Ps' hv o' n hp => q w (uni (uni M N1) M') (Ps' ++ Rs) H' (eM.trans (own_exl (H' := H') o2 n)) (own_back o2 hv o' n) ?_⟩
  have := k2 _ _ _ hp
  rw [uni_ass] at this
  exact this
/-! ### what changes nothing is an expression as any other -/
theorem hvl_same {H H' : Hp} (hv : HvL Ps H H') (o' : ∀ N ∈ Ps, Ex N H') (o : ∀ N ∈ Ps, Ex N H) : Ex H H' := fun a u h => by
  by_cases q : ∃ N ∈ Ps, N a ≠ none
  · obtain ⟨N, hN, z⟩ := q
    cases w : N a with
    | none => exact absurd w z
    | some o1 =>
      have := o N hN a o1 w
      rw [h] at this
      cases this
      exact o' N hN a _ w
  · refine hv a u h fun N hN => ?_
    cases w : N a with
    | none => rfl
    | some o1 => exact absurd ⟨N, hN, ne_some w⟩ q
section
variable {α : Type} {T : Tp α} {y : α}
theorem pure_core {H1 H2 N1 : Hp} {P : Hp → List Hp → V → Prop} {Q : VK} (o : Own (M :: G :: (Ps ++ Rs)) H) (e : Ex H H1) (e2 : Ex H1 H2) (e3 : Ex N1 H2) (f : Fr H1 N1) (h2 : ∀ G' Ps' w, P G' Ps' w → Ps' = Ps ∧ T.R G' w y) (q : ∀ v H3 N, Ex H1 H3 → Ex N H3 → Fr H1 N → T.R (uni (uni G M) N) v y → Q v H3) : RetX (uni G (uni M N1)) Ps H2 Q P := fun w H' M' Ps' hv o' n hp => by
  obtain ⟨o2, eM, eu⟩ := ec_args (o.mono e) e2 e3 f
  obtain ⟨rfl, hT⟩ := h2 _ _ _ hp
  obtain ⟨a', b'⟩ := own_iff.mp o'
  have os := own_iff.mp (own_sub o2)
  have e4 : Ex H2 H' := hvl_same hv (fun N hN => a' N (List.mem_cons_of_mem _ hN)) fun N hN => os.1 N (List.mem_cons_of_mem _ hN)
  have f' : Fr H2 M' := fun a ha => by
    rcases n M' List.mem_cons_self a ha with z | ⟨N, hN, z⟩
    · exact z
    · cases b' with
      | cons c1 c2 => exact absurd (c1 N hN a ha) z
  obtain ⟨g1, g2, g3, g4⟩ := two_parts (uni_ex (o.mono e).e1 (o.mono e).e0) e2 e3 f f' e4 (a' M' List.mem_cons_self)
  rw [← eu, uni_ass] at hT
  exact q w H' (uni N1 M') (e2.trans e4) g2 g1 hT
theorem ed_methP (o : Own (M :: G :: (Ps ++ Rs)) H) (hv : Ev ta σ H v) (hi : ∃ p dx gs, v = .ref p ∧ H p = some (.ins C dx gs) ∧ gs.lookup mn = none) (ha : EvBs tr σ H (uni G M) as) (hR : ∀ vs B, Ex (uni G M) B → ArgsR B vs as → ∃ P, S.R (v :: vs) B Ps (.ok P) ∧ ∀ G' Ps' w, P G' Ps' w → Ps' = Ps ∧ T.R G' w y) : Ed T (tMethS C mn (S.sp mg) E ta tr) σ H (uni G M) y := fun H1 e Q q => hv H1 e _ fun H0 e0 => by
  obtain ⟨p, dx, gs, rfl, h1, h2⟩ := hi
  refine ⟨p, dx, gs, rfl, e0 _ _ (e _ _ h1), h2, ha H0 (e.trans e0) _ fun vs H2 N1 e2 e3 f pa => ?_⟩
  obtain ⟨o2, eM, eu⟩ := ec_args (o.mono (e.trans e0)) e2 e3 f
  rw [eu] at pa
  obtain ⟨P, k1, k2⟩ := hR vs _ (o2.uu eM) pa
  exact ⟨uni G (uni M N1), Ps, .ok P, own_sub o2, k1, pure_core o (e.trans e0) e2 e3 f k2 fun w H3 N a b c d => q w H3 N (e0.trans a) b (c.back e0) d⟩
theorem err_core {H1 H2 N1 : Hp} {P : Hp → List Hp → Prop} (o : Own (M :: G :: (Ps ++ Rs)) H) (e : Ex H H1) (e2 : Ex H1 H2) (e3 : Ex N1 H2) (f : Fr H1 N1) (h2 : ∀ G' Ps', P G' Ps' → Ps' = Ps) (q : RaiseX mg xn fs H1 (WE Wx σ)) : RaiseL mg xn fs (uni G (uni M N1)) Ps H2 (WE Wx σ) P := fun H' M' Ps' C d hv o' n hp g c => by
  obtain ⟨o2, eM, eu⟩ := ec_args (o.mono e) e2 e3 f
  have z := h2 _ _ hp
  subst z
  obtain ⟨a', b'⟩ := own_iff.mp o'
  have os := own_iff.mp (own_sub o2)
  have e4 : Ex H2 H' := hvl_same hv (fun N hN => a' N (List.mem_cons_of_mem _ hN)) fun N hN => os.1 N (List.mem_cons_of_mem _ hN)
  refine q H' C d (e2.trans e4) g (c.imp id fun ⟨a, k1, k2, k3⟩ => ⟨a, k1, a' M' List.mem_cons_self _ _ k2, ?_, k3⟩)
  rcases n M' List.mem_cons_self a (ne_some k2) with z | ⟨N, hN, z⟩
  · exact ex_none e2 z
  · cases b' with
    | cons c1 c2 => exact absurd (c1 N hN a (ne_some k2)) z
theorem er_methP (o : Own (M :: G :: (Ps ++ Rs)) H) (hv : Ev ta σ H v) (hi : ∃ p dx gs, v = .ref p ∧ H p = some (.ins C dx gs) ∧ gs.lookup mn = none) (ha : EvBs tr σ H (uni G M) as) (hR : ∀ vs B, Ex (uni G M) B → ArgsR B vs as → ∃ P, S.R (v :: vs) B Ps (.err xn fs P) ∧ ∀ G' Ps', P G' Ps' → Ps' = Ps) : EvErr mg Wx xn fs (tMethS C mn (S.sp mg) (WE Wx) ta tr) σ H := fun H1 e q Q => hv H1 e _ fun H0 e0 => by
  obtain ⟨p, dx, gs, rfl, h1, h2⟩ := hi
  refine ⟨p, dx, gs, rfl, e0 _ _ (e _ _ h1), h2, ha H0 (e.trans e0) _ fun vs H2 N1 e2 e3 f pa => ?_⟩
  obtain ⟨o2, eM, eu⟩ := ec_args (o.mono (e.trans e0)) e2 e3 f
  rw [eu] at pa
  obtain ⟨P, k1, k2⟩ := hR vs _ (o2.uu eM) pa
  exact ⟨uni G (uni M N1), Ps, .err xn fs P, own_sub o2, k1, err_core o (e.trans e0) e2 e3 f k2 (q.fwd e0)⟩
end
/-! ### statements -/
variable {D : Ends} {tz : TS} {i : Nat} {g : TG}
theorem s_c (h : EvC te σ M G Ns H W) (k : ∀ v M1 Ns1 H1, Ex M M1 → Own (M1 :: G :: Ns1) H1 → W (uni G M1) Ns1 v → D.nx (σ.set i (some v)) H1) : tAsg te (gName i) D σ H := h _ fun v M1 Ns1 H1 a b c => k v M1 Ns1 H1 a b c
theorem q_c (h : EvC te σ M G Ns H W) (k : ∀ v M1 Ns1 H1, Ex M M1 → Own (M1 :: G :: Ns1) H1 → W (uni G M1) Ns1 v → tz D (σ.set i (some v)) H1) : tSeq (tAsg te (gName i)) tz D σ H := s_c (D := { D with nx := tz D }) h k
theorem s_cd (h : EvC te σ M G Ns H W) (k : ∀ v M1 Ns1 H1, Ex M M1 → Own (M1 :: G :: Ns1) H1 → W (uni G M1) Ns1 v → D.nx σ H1) : tDrop te D σ H := h _ fun v M1 Ns1 H1 a b c => k v M1 Ns1 H1 a b c
/-! ### fields of a thing of one's own -/
variable {p dx : Addr} {gs : List (Str × V)} {f : Str} {j : Nat} {P : Hp → V → Prop}
theorem ed_fldO {α : Type} {T : Tp α} {x : α} {B : Hp} {u : V} (hv : Ev ta σ H (.ref p)) (h : H p = some (.ins C dx gs)) (c : Cls K C) (n : NoAttr K C f) (hl : gs.lookup f = some u) (ht : T.R B u x) (eB : Ex B H) : Ed T (tFld K ta f) σ H B x := fun H1 e Q q => hv H1 e _ fun H2 e2 => ⟨p, C, dx, gs, u, rfl, e2 _ _ (e _ _ h), c, n, hl, q u H2 emp e2 emp_ex emp_fr (by rw [uni_emp]; exact ht)⟩
theorem s_fldX (o : Own (M :: G :: Ns) H) (hj : Ns[j]? = some (sing p (.ins C dx gs))) (hv : Ev ta σ H (.ref p)) (h : EvB te σ H (uni G M) P) (c : Cls K C) (n : NoAttr K C f) (hl : gs.length < 1000) (k : ∀ v M1 H1, Ex M M1 → Own (M1 :: G :: Ns.set j (sing p (.ins C dx (putF f v gs)))) H1 → P (uni G M1) v → D.nx σ H1) : sFld K ta te f D σ H := h H (Ex.refl H) _ fun v H1 N1 e e2 fr q => hv H1 e _ fun H2 e3 => by
  have o1 : Own (uni M N1 :: G :: Ns) H1 := (o.add e e2 fr).merge
  have o2 := o1.mono e3
  rw [uni_ass] at q
  exact ⟨p, C, dx, gs, rfl, o2.exO hj _ _ sing_at, c, n, hl, k v _ _ (uni_exl o.e0 fr) (o2.setO hj) q⟩
end
/-! ### the def that is called with parts -/
/-- what of H is in none of the parts -/
def rest2 (Ps : List Hp) (H : Hp) : Hp := fun a => if ∃ N ∈ Ps, N a ≠ none then none else H a
open Classical in
theorem rest2_some {Ps : List Hp} {H : Hp} {a : Addr} {o : HO} (h : rest2 Ps H a = some o) : H a = some o ∧ ∀ N ∈ Ps, N a = none := by
  unfold rest2 at h
  split at h
  · cases h
  · rename_i q
    refine ⟨h, fun N hN => ?_⟩
    cases w : N a with
    | none => rfl
    | some u => exact absurd ⟨N, hN, ne_some w⟩ q
theorem own_start {B H : Hp} {Ps : List Hp} (o : Own (B :: Ps) H) : Own (emp :: B :: (Ps ++ [rest2 (B :: Ps) H])) H := by
  obtain ⟨a, b⟩ := own_iff.mp o
  refine own_iff.mpr ⟨fun N hN => ?_, .cons (fun _ _ x hx => absurd rfl hx) ?_⟩
  · rcases List.mem_cons.mp hN with z | z
    · subst z; exact emp_ex
    · rw [← List.cons_append] at z
      rcases List.mem_append.mp z with z | z
      · exact a N z
      · rw [List.mem_singleton.mp z]
        exact fun x u h => (rest2_some h).1
  · rw [← List.cons_append]
    refine List.pairwise_append.mpr ⟨b, List.pairwise_singleton _ _, fun N hN R hR x hx => ?_⟩
    rw [List.mem_singleton.mp hR]
    cases q : rest2 (B :: Ps) H x with
    | none => rfl
    | some u => exact absurd ((rest2_some q).2 N hN) hx
theorem rest2_of {Ps : List Hp} {H : Hp} {a : Addr} {o : HO} (h : H a = some o) (n : ∀ N ∈ Ps, N a = none) : rest2 Ps H a = some o := by
  unfold rest2
  rw [if_neg fun ⟨N, hN, z⟩ => z (n N hN)]
  exact h
theorem x_fin {B H H' M : Hp} {Ps Ps' Rs : List Hp} (o0 : Own (B :: Ps) H) (o : Own (M :: B :: (Ps' ++ Rs)) H') (hr : rest2 (B :: Ps) H ∈ Rs) : HvL Ps H H' ∧ Own (M :: Ps') H' ∧ ∀ N ∈ M :: Ps', NewL Ps H N := by
  obtain ⟨a, b⟩ := own_iff.mp o
  obtain ⟨a0, b0⟩ := own_iff.mp o0
  cases b with
  | cons b1 b2 =>
    cases b2 with
    | cons c1 c2 =>
      obtain ⟨d1, d2, d3⟩ := List.pairwise_append.mp c2
      have hB : Ex B H' := a B (List.mem_cons_of_mem _ List.mem_cons_self)
      have hR : Ex (rest2 (B :: Ps) H) H' := a _ (List.mem_cons_of_mem _ (List.mem_cons_of_mem _ (List.mem_append.mpr (.inr hr))))
      refine ⟨fun x u h n => ?_, own_iff.mpr ⟨fun N hN => ?_, .cons (fun N hN => b1 N (List.mem_cons_of_mem _ (List.mem_append.mpr (.inl hN)))) d1⟩, fun N hN x hx => ?_⟩
      · cases q : B x with
        | some w =>
          have := a0 B List.mem_cons_self x w q
          rw [h] at this
          cases this
          exact hB x _ q
        | none => exact hR x u (rest2_of h fun N hN => (List.mem_cons.mp hN).elim (fun z => z ▸ q) (n N))
      · rcases List.mem_cons.mp hN with z | z
        · subst z; exact a N List.mem_cons_self
        · exact a N (List.mem_cons_of_mem _ (List.mem_cons_of_mem _ (List.mem_append.mpr (.inl z))))
      · by_cases hp : ∃ P ∈ Ps, P x ≠ none
        · exact .inr hp
        · refine .inl ?_
          have jB : Dj N B := by
            rcases List.mem_cons.mp hN with z | z
            · subst z; exact b1 B List.mem_cons_self
            · exact (c1 N (List.mem_append.mpr (.inl z))).symm
          have jR : Dj N (rest2 (B :: Ps) H) := by
            rcases List.mem_cons.mp hN with z | z
            · subst z; exact b1 _ (List.mem_cons_of_mem _ (List.mem_append.mpr (.inr hr)))
            · exact d3 N z _ hr
          cases q : H x with
          | none => rfl
          | some u =>
            have h1 := jR x hx
            rw [rest2_of q fun P hP => ?_] at h1
            · cases h1
            · rcases List.mem_cons.mp hP with z | z
              · rw [z]; exact jB x hx
              · cases w : P x with
                | none => rfl
                | some w' => exact absurd ⟨P, z, ne_some w⟩ hp
section
variable {mg : Str → Option Value} {σ : L2.St} {B H H' M : Hp} {Ps Ps' Rs : List Hp} {te : TE} {v : V} {D : Ends} {P : Hp → V → Prop} {PP : Hp → List Hp → V → Prop} {PE : Hp → List Hp → Prop} {e : Option Str} {Q : VK} {E : XK} {x : Str} {fs : List (Str × V)} {C : Addr}
theorem resX_ok (h : e = none) (k : OutX mg (resX e PP PE) B Ps H Q E) : RetX B Ps H Q PP := by subst h; exact k
theorem resX_err (h : e = some x) (k : OutX mg (resX e PP PE) B Ps H Q E) : RaiseL mg x [] B Ps H E PE := by subst h; exact k
theorem s_rbX (o0 : Own (B :: Ps) H) (o : Own (M :: B :: (Ps' ++ Rs)) H') (hr : rest2 (B :: Ps) H ∈ Rs) (h : EvB te σ H' (uni B M) P) (k : RetX B Ps H D.rt PP) (hp : ∀ G w, Ex (uni B M) G → P G w → PP G Ps' w) : tRet te D σ H' := h H' (Ex.refl H') _ fun w H1 N e1 e2 f q => by
  have o1 : Own (uni M N :: B :: (Ps' ++ Rs)) H1 := (o.add e1 e2 f).merge
  obtain ⟨h1, h2, h3⟩ := x_fin o0 o1 hr
  rw [uni_ass] at q
  exact k w H1 (uni M N) Ps' h1 h2 h3 (hp _ _ (o1.uu (uni_exl o.e0 f)) q)
theorem s_rnQ (o0 : Own (B :: Ps) H) (o : Own (M :: B :: (Ps' ++ Rs)) H') (hr : rest2 (B :: Ps) H ∈ Rs) (k : RetX B Ps H Q PP) (hp : PP (uni B M) Ps' .non) : Q .non H' := by
  obtain ⟨h1, h2, h3⟩ := x_fin o0 o hr
  exact k .non H' M Ps' h1 h2 h3 hp
theorem RaiseL.go (k : RaiseL mg x [] B Ps H E PE) (o0 : Own (B :: Ps) H) (o : Own (M :: B :: (Ps' ++ Rs)) H') (hr : rest2 (B :: Ps) H ∈ Rs) (hp : PE (uni B M) Ps') (g : mg x = some (.ref C)) : E (.ref C) none H' := by
  obtain ⟨h1, h2, h3⟩ := x_fin o0 o hr
  exact k H' M Ps' C none h1 h2 h3 hp g (.inl ⟨rfl, rfl⟩)
/-- a raise goes through -/
theorem RaiseL.fwd (k : RaiseL mg x fs B Ps H E PE) (o0 : Own (B :: Ps) H) (o : Own (M :: B :: (Ps' ++ Rs)) H') (hr : rest2 (B :: Ps) H ∈ Rs) (hp : ∀ G, Ex (uni B M) G → PE G Ps') : RaiseX mg x fs H' E := fun H1 C d e1 g c => by
  rcases c with ⟨rfl, rfl⟩ | ⟨a, rfl, h2, h3, h4⟩
  · obtain ⟨k1, k2, k3⟩ := x_fin o0 (o.mono e1) hr
    exact k H1 M Ps' C none k1 k2 k3 (hp _ (Ex.refl _)) g (.inl ⟨rfl, rfl⟩)
  · have o1 : Own (uni M (sing a (.xd fs)) :: B :: (Ps' ++ Rs)) H1 := (o.add e1 (sing_ex h2) (sing_fr h3)).merge
    obtain ⟨k1, k2, k3⟩ := x_fin o0 o1 hr
    exact k H1 _ Ps' C (some a) k1 k2 k3 (hp _ (o1.uu (uni_exl o.e0 (sing_fr h3)))) g (.inr ⟨a, rfl, uni_r _ _ sing_at, h4⟩)
end
/-! ### a field of one's own thing is laid anew -/
section
variable {K : PySem.W.Frag} {mg : Str → Option Value} {σ : L2.St} {H M G N : Hp} {Ns Ps Rs : List Hp} {ta te : TE} {tr : TA} {v : V} {as : List Arg} {S : RlX} {E : L2.St → XK} {W : Hp → List Hp → V → Prop} {C p dx : Addr} {Wx : WX} {xn : Str} {fs : List (Str × V)} {D : Ends} {tz : TS} {f : Str} {j : Nat} {P : Hp → V → Prop} {gs : List (Str × V)}
theorem s_fldY (gs' : V → List (Str × V)) (hq : ∀ v, putF f v gs = gs' v) (o : Own (M :: G :: Ns) H) (hj : Ns[j]? = some (sing p (.ins C dx gs))) (hv : Ev ta σ H (.ref p)) (h : EvB te σ H (uni G M) P) (c : Cls K C) (n : NoAttr K C f) (hl : gs.length < 1000) (k : ∀ v M1 H1, Ex M M1 → Own (M1 :: G :: Ns.set j (sing p (.ins C dx (gs' v)))) H1 → P (uni G M1) v → D.nx σ H1) : sFld K ta te f D σ H := s_fldX o hj hv h c n hl fun v M1 H1 a b c => k v M1 H1 a (by rw [← hq]; exact b) c
theorem q_fldY (gs' : V → List (Str × V)) (hq : ∀ v, putF f v gs = gs' v) (o : Own (M :: G :: Ns) H) (hj : Ns[j]? = some (sing p (.ins C dx gs))) (hv : Ev ta σ H (.ref p)) (h : EvB te σ H (uni G M) P) (c : Cls K C) (n : NoAttr K C f) (hl : gs.length < 1000) (k : ∀ v M1 H1, Ex M M1 → Own (M1 :: G :: Ns.set j (sing p (.ins C dx (gs' v)))) H1 → P (uni G M1) v → tz D σ H1) : tSeq (sFld K ta te f) tz D σ H := s_fldY (D := { D with nx := tz D }) gs' hq o hj hv h c n hl k
theorem ed_isv {B : Hp} (h : Ev te σ H v) : Ed (tIs v) te σ H B () := fun H1 e Q q => h H1 e _ fun H2 e2 => q v H2 emp e2 emp_ex emp_fr rfl
theorem resX_none {e : Option Str} {PP : Hp → List Hp → V → Prop} {PE : Hp → List Hp → Prop} (h : e = none) : resX e PP PE = .ok PP := by rw [h]; rfl
/-! ### a new thing that will change -/
def RlX.spI (S : RlX) (mg : Str → Option Value) (C : Addr) : Sp := fun vs H Q E => ∃ (x dx : Addr) (us : List V) (G B : Hp) (r : ResX), vs = .ref x :: us ∧ H = upd (upd G dx (.own x)) x (.ins C dx []) ∧ G x = none ∧ G dx = none ∧ dx ≠ x ∧ Ex B G ∧ S.R us B [] r ∧
  match r with
  | .ok P => ∀ H' M Ps', Ex G H' → Own (M :: Ps') H' → (∀ N ∈ M :: Ps', Fr G N) → P (uni B M) Ps' (.ref x) → Q .non H'
  | .err xn fs _ => RaiseX mg xn fs G E
theorem ec_make (o : Own (M :: G :: Rs) H) (ha : EvBs tr σ H (uni G M) as) (hR : ∀ vs B, Ex (uni G M) B → ArgsR B vs as → ∃ P, S.R vs B [] (.ok P) ∧ ∀ G' Ps' w, P G' Ps' w → W G' (Ps' ++ Rs) w) : EvC (tMakeS C (S.spI mg C) E tr) σ M G Rs H W := fun Q q => ha H (Ex.refl H) _ fun vs H2 N1 e2 e3 f p x dx hx hdx hne => by
  obtain ⟨o2, eM, eu⟩ := ec_args (Ps := []) o e2 e3 f
  rw [eu] at p
  obtain ⟨P, h1, h2⟩ := hR vs _ (o2.uu eM) p
  refine ⟨x, dx, vs, H2, uni G (uni M N1), .ok P, rfl, rfl, hx, hdx, hne, (own_sub (Ps := []) o2).1, h1, fun H' M' Ps' e4 o' n hp => ⟨rfl, ?_⟩⟩
  have hv : HvL [] H2 H' := fun a u h _ => e4 a u h
  have n' : ∀ N ∈ M' :: Ps', NewL [] H2 N := fun N hN a ha => .inl (n N hN a ha)
  refine q (.ref x) (uni (uni M N1) M') (Ps' ++ Rs) H' (eM.trans (own_exl (Ps := []) (H' := H') o2 n')) (own_back (Ps := []) o2 hv o' n') ?_
  have := h2 _ _ _ hp
  rw [uni_ass] at this
  exact this
end
/-! ### the __init__ of a thing that will change -/
theorem own_initX {G B : Hp} {x dx : Addr} {o : HO} (hx : G x = none) (hdx : G dx = none) (hne : dx ≠ x) (eB : Ex B G) : Own (emp :: B :: sing x o :: rest2 [B] G :: []) (upd (upd G dx (.own x)) x o) := by
  have o1 : Own [sing x o, G] (upd (upd G dx (.own x)) x o) := own_init hx hdx hne
  have e1 : Ex G (upd (upd G dx (.own x)) x o) := o1.2.2.1
  have eR : Ex (rest2 [B] G) G := fun a u h => (rest2_some h).1
  have djx : ∀ N : Hp, Ex N G → Dj (sing x o) N := fun N e a ha => by
    have z : a = x := Classical.byContradiction fun z => ha (sing_ne z)
    subst z
    exact ex_none e hx
  refine own_iff.mpr ⟨fun N hN => ?_, .cons (fun _ _ a ha => absurd rfl ha) (.cons (fun N hN => ?_) (.cons (fun N hN => ?_) (List.pairwise_singleton _ _)))⟩
  · simp only [List.mem_cons, List.not_mem_nil, or_false] at hN
    rcases hN with z | z | z | z
    · rw [z]; exact emp_ex
    · rw [z]; exact eB.trans e1
    · rw [z]; exact o1.1
    · rw [z]; exact eR.trans e1
  · simp only [List.mem_cons, List.not_mem_nil, or_false] at hN
    rcases hN with z | z
    · rw [z]; exact (djx B eB).symm
    · rw [z]
      intro a ha
      cases q : rest2 [B] G a with
      | none => rfl
      | some u => exact absurd ((rest2_some q).2 B (List.mem_singleton.mpr rfl)) ha
  · rw [List.mem_singleton.mp hN]
    exact djx _ eR
section
variable {mg : Str → Option Value} {G B M H' : Hp} {x : Addr} {e : Option Str} {xn : Str} {PP : Hp → List Hp → V → Prop} {PE : Hp → List Hp → Prop} {Q : VK} {E : XK} {C : Addr} {Ps' Rs : List Hp}
def InitK (mg : Str → Option Value) (G B : Hp) (x : Addr) (Q : VK) (E : XK) (r : ResX) : Prop := match r with
  | .ok P => ∀ H' M Ps', Ex G H' → Own (M :: Ps') H' → (∀ N ∈ M :: Ps', Fr G N) → P (uni B M) Ps' (.ref x) → Q .non H'
  | .err xn fs _ => RaiseX mg xn fs G E
theorem init_out {S : RlX} {vs : List V} {H : Hp} (h : S.spI mg C vs H Q E) : ∃ (x dx : Addr) (us : List V) (G B : Hp) (r : ResX), vs = .ref x :: us ∧ H = upd (upd G dx (.own x)) x (.ins C dx []) ∧ G x = none ∧ G dx = none ∧ dx ≠ x ∧ Ex B G ∧ S.R us B [] r ∧ InitK mg G B x Q E r := by
  obtain ⟨x, dx, us, G, B, r, h1, h2, h3, h4, h5, h6, h7, h8⟩ := h
  refine ⟨x, dx, us, G, B, r, h1, h2, h3, h4, h5, h6, h7, ?_⟩
  cases r with
  | ok P => exact h8
  | err x fs P => exact h8
theorem x_finI (eB : Ex B G) (o : Own (M :: B :: (Ps' ++ Rs)) H') (hr : rest2 [B] G ∈ Rs) : Ex G H' ∧ Own (M :: Ps') H' ∧ ∀ N ∈ M :: Ps', Fr G N := by
  have o0 : Own (B :: []) G := ⟨eB, (fun _ h => nomatch h), trivial⟩
  obtain ⟨h1, h2, h3⟩ := x_fin o0 o hr
  exact ⟨fun a u h => h1 a u h fun _ z => (nomatch z), h2, fun N hN a ha => (h3 N hN a ha).elim id fun ⟨_, z, _⟩ => (nomatch z)⟩
theorem init_fin (h : e = none) (k : InitK mg G B x Q E (resX e PP PE)) (eB : Ex B G) (o : Own (M :: B :: (Ps' ++ Rs)) H') (hr : rest2 [B] G ∈ Rs) (hp : PP (uni B M) Ps' (.ref x)) : Q .non H' := by
  subst h
  obtain ⟨h1, h2, h3⟩ := x_finI eB o hr
  exact k H' M Ps' h1 h2 h3 hp
end
theorem uni_upl {B B' N : Hp} (e : Ex B B') : Ex (uni B N) (uni B' N) := fun a o h => by
  unfold uni at h ⊢
  cases q : N a with
  | some u => rw [q] at h; exact h
  | none => rw [q] at h; exact e a o h
/-- told of more -/
theorem ed_toB {α : Type} {T : Tp α} {te : TE} {σ : L2.St} {H B B' : Hp} {x : α} (e : Ex B B') (h : Ed T te σ H B x) : Ed T te σ H B' x := fun H1 e1 Q q => h H1 e1 _ fun v H2 N a b c p => q v H2 N a b c (T.up (uni_upl e) p)
end Kj

/-! Kj30: dicts with text keys that are known (records); a list times a number. -/
namespace Kj
open PySem PySem.Spec PyProof.Rows L2 Evl
section
variable {K : PySem.W.Frag} {σ : L2.St} {H B M G : Hp} {ta tb te tk : TE} {trs : List (TE × TE)} {α β : Type} {T : Tp α} {S : Tp β} {x : α} {y : β} {as : List Arg} {ks : List Str} {k : Str} {Ns : List Hp} {D : Ends} {tz : TS} {i j : Nat} {p : Addr} {P : Hp → V → Prop} {kvs : List (Key × V)}
/-- d["k"] -/
theorem ed_dgetR (h : Ed T ta σ H B x) (hk : Ev tb σ H (.str k)) (eB : Ex B H) (g : ∀ G v, T.R G v x → ∃ p kvs u, v = .ref p ∧ G p = some (.dK kvs) ∧ valV kvs (.inr k) = some u ∧ S.R G u y) : Ed S (tDGet ta tb) σ H B y := fun H1 e Q q => h H1 e _ fun v H2 N e2 e3 f r => hk H2 (e.trans e2) _ fun H3 e4 => by
  obtain ⟨p, kvs, u, rfl, h1, h2, h3⟩ := g _ _ r
  have hd : H3 p = some (.dK kvs) := e4 _ _ (uni_ex ((eB.trans e).trans e2) e3 _ _ h1)
  have := DGet.k (k := (.inr k : Key)) hd
  rw [h2] at this
  exact ⟨p, u, rfl, this, q u H3 N (e2.trans e4) (e3.trans e4) f h3⟩
/-- d["k"] = v, d one's own -/
theorem s_dpR (kvs' : V → List (Key × V)) (hq : ∀ v, putK kvs (.inr k) v = kvs' v) (o : Own (M :: G :: Ns) H) (hj : Ns[j]? = some (sing p (.dK kvs))) (hv : Ev ta σ H (.ref p)) (hk : Ev tb σ H (.str k)) (h : EvB te σ H (uni G M) P) (hl : kvs.length < 1000) (kk : ∀ v M1 H1, Ex M M1 → Own (M1 :: G :: Ns.set j (sing p (.dK (kvs' v)))) H1 → P (uni G M1) v → D.nx σ H1) : sDPut ta tb te D σ H := h H (Ex.refl H) _ fun v H1 N1 e e2 fr q => hv H1 e _ fun H2 e3 => hk H2 (e.trans e3) _ fun H3 e4 => by
  have o1 : Own (uni M N1 :: G :: Ns) H1 := (o.add e e2 fr).merge
  have o2 := (o1.mono e3).mono e4
  rw [uni_ass] at q
  refine ⟨p, _, rfl, DPut.k (k := (.inr k : Key)) (o2.exO hj _ _ sing_at) (by rw [sizeLine_eq]; omega), ?_⟩
  rw [hq]
  exact kk v _ _ (uni_exl o.e0 fr) (o2.setO hj) q
/-- t = dict(t) -/
abbrev rDictD : List V → Hp → VK → Prop := fun xs H Q => ∃ (a : Addr) (kvs : List (Key × V)), xs = [.ref a] ∧ Rd H a (.dK kvs) ∧ ∀ p, H p = none → Q (.ref p) (upd H p (.dK kvs))
theorem s_odR {PO : Hp → HO → Prop} (o : Own (M :: G :: Ns) H) (h : Ed T ta σ H (uni G M) x) (g : ∀ G v, T.R G v x → ∃ p kvs, v = .ref p ∧ G p = some (.dK kvs) ∧ PO G (.dK kvs)) (k : ∀ p ob M1 H1, Ex M M1 → Own (M1 :: G :: sing p ob :: Ns) H1 → PO (uni G M1) ob → D.nx (σ.set i (some (.ref p))) H1) : tAsg (tCB rDictD (tCons ta tNil)) (gName i) D σ H := h H (Ex.refl H) _ fun v H1 N e e2 f r => by
  obtain ⟨a, kvs, rfl, h1, h2⟩ := g _ _ r
  have o1 : Own (uni M N :: G :: Ns) H1 := (o.add e e2 f).merge
  rw [uni_ass] at h1 h2
  refine ⟨a, kvs, rfl, .inl (o1.uh _ _ h1), fun p hp => k p _ (uni M N) _ (uni_exl o.e0 f) ?_ h2⟩
  have o2 : Own (sing p (.dK kvs) :: uni M N :: G :: Ns) (upd H1 p (.dK kvs)) := o1.add (Ex.new hp) (sing_ex upd_same) (sing_fr hp)
  exact o2.rot
end
end Kj

/-! Kj31: lambdas without parameters that are made and called in one def (a dict of acts). The table of the def's code object is a part of the heap. -/
namespace LamX
open PySem PySem.Spec PyProof.Rows L2
/-- the thing at f is this object -/
def FunO (f : Addr) (o : Obj) : HO := .ext fun h => h.get? f = some o
/-- a lambda is made: the part N holds the table -/
def tMk (P : Addr) (q : Str) (ob : Value → Addr → Value → Obj) : TE := fun _ H Q => ∃ N : Hp, (∀ a o, N a = some o → H a = some o) ∧ TabS N P q ∧
  ∀ (f c' : Addr) (pm ctv : Value) (N1 H1 : Hp), (∀ a o, H a = some o → N a = none → H1 a = some o) → (∀ a o, N1 a = some o → H1 a = some o) → (∀ a, N1 a ≠ none → H a = none ∨ N a ≠ none) → TabS N1 P q → (∀ a o, N a = some o → (∀ ps, o ≠ .tbl ps) → N1 a = some o) → N1 c' = some (CodeO c' q) → H1 f = some (FunO f (ob pm c' ctv)) → H f = none → N1 f = none → Q (.ref f) H1
section
variable {X : Cx} {params : Arguments} {body : Expr} {scope : Scope} {pos : Pos} {c P : Addr}
end
end LamX
namespace Kj
open PySem PySem.Spec PyProof.Rows L2 Evl
/-- a def of the text whose code object is known -/
structure DfC (K : PySem.W.Frag) (mg : Str → Option Value) (x : Str) (st : Stmt) (ps : List Str) (c : Addr) : Prop where
  ex : ∃ (f : Addr) (oc : Value) (od : Option Addr) (kV doc pm : Value) (an : Option Addr) (ct : Value) (osl : Array (Option Value)), mg x = some (.ref f) ∧ K.lookup f = some ⟨oc, od, .func (PySem.W.fnOf x x (defArgs st) (defBody st) (defScope st) .none kV doc pm an (.ref c) ct), osl⟩ ∧ PySem.W.codeIn K (.ref c) x = true ∧ PySem.W.keepIn K (.ref f) = true ∧ Binds K (PySem.W.fnOf x x (defArgs st) (defBody st) (defScope st) .none kV doc pm an (.ref c) ct) ps []
theorem DfC.ok {P : Program} {w : World} {K : PySem.W.Frag} {mg : Str → Option Value} {base : Heap} {x : Str} {st : Stmt} {N ps : List Str} {k : Nat} {sp : Sp} {c : Addr} (D : DfC K mg x st ps c) (S : FnScope N ps (defScope st)) (len : ∀ vs H Q E, sp vs H Q E → vs.length = ps.length)
    (hbody : ∀ (f : Addr) (A : Around) (outer : List Env) (s : Shared) (H : Hp) (vs : List V) (Q : VK) (E : XK), Room k (A.deeper (envOfC x (defScope st) s.heap.objs.size f (.ref c))) → sp vs H Q E →
      ∃ t, PSs (cxOf (L2.CX P w) P w K mg base N x (defScope st) f (.ref c) A outer s H E) (defBody st) t ∧ t { nx := fun _ H' => Q .non H', rt := Q } (start N vs) H) : Ok P w K mg base (k + 1) x ps sp := by
  obtain ⟨f, oc, od, kV, doc, pm, an, ct, osl, g, lk, hcd, kp, b⟩ := D.ex
  exact ⟨f, _, g, kp, b, fn_of lk hcd S len fun A outer s H vs Q E hr h => hbody f A outer s H vs Q E hr h, oc, od, osl, lk⟩
open LamX
section
variable {K : PySem.W.Frag} {mg : Str → Option Value} {σ : L2.St} {H M G NT : Hp} {Ns : List Hp} {P : Addr} {q : Str}
/-- what a lambda that was made is: the thing in M, its code in the table's part -/
def LamR (q : Str) (M NT : Hp) (v : V) (ob : Value → Addr → Value → Obj) : Prop := ∃ (f c' : Addr) (pm ctv : Value), v = .ref f ∧ M f = some (FunO f (ob pm c' ctv)) ∧ NT c' = some (CodeO c' q)
theorem LamR.up {M1 NT1 : Hp} {v : V} {ob : Value → Addr → Value → Obj} (h : LamR q M NT v ob) (e : Ex M M1) (e2 : ∀ c', NT c' = some (CodeO c' q) → NT1 c' = some (CodeO c' q)) : LamR q M1 NT1 v ob := by
  obtain ⟨f, c', pm, ctv, h1, h2, h3⟩ := h
  exact ⟨f, c', pm, ctv, h1, e _ _ h2, e2 _ h3⟩
inductive LamT (P : Addr) (q : Str) : List (TE × TE) → List (Str × (Value → Addr → Value → Obj)) → Prop
  | nil : LamT P q [] []
  | cons {k : Str} {ob : Value → Addr → Value → Obj} {r : List (TE × TE)} {l : List (Str × (Value → Addr → Value → Obj))} (h : LamT P q r l) : LamT P q ((tC (.str k), tMk P q ob) :: r) ((k, ob) :: l)
/-- x[i], x a tuple of a known form -/
theorem ed_ixD {α β : Type} {T : Tp α} {S : Tp β} {x : α} {y : β} {B : Hp} {te : TE} {i : Int} (h : Ed T te σ H B x) (eB : Ex B H) (g : ∀ G v, T.R G v x → ∃ p xs u, v = .ref p ∧ SqT K G p xs ∧ atI xs i = some u ∧ S.R G u y) : Ed S (tOp (rIx K) te (tC (.int i))) σ H B y := fun H1 e Q q => h H1 e _ fun v H2 N e2 e3 f r => by
  obtain ⟨p, xs, u, rfl, h1, h2, h3⟩ := g _ _ r
  exact .inr (.inl ⟨p, xs, i, u, rfl, rfl, ex_t (uni_ex ((eB.trans e).trans e2) e3) h1, h2, q u H2 N e2 e3 f h3⟩)
theorem args_cons {B : Hp} {vs : List V} {a : Arg} {as : List Arg} (h : ArgsR B vs (a :: as)) : ∃ v us, vs = v :: us ∧ a.T.R B v a.x ∧ ArgsR B us as := by
  cases vs with
  | nil => exact h.elim
  | cons v us => exact ⟨v, us, rfl, h.1, h.2⟩
end
end Kj

/-! Kj32: the end of a law by facts that the top's run in the kernel tells (HandS.Head*). -/
namespace Kj
open PySem PySem.Spec PyProof.Rows L2 Evl
section
variable {K : PySem.W.Frag} {mg : Str → Option Value} {h : Heap}
theorem fun_ofD {x q : Str} {st : Stmt} {kws : List (Str × V)} {f : Addr} {fd : FuncData} (F : FunD K x q (defArgs st) (defBody st) (defScope st) [] kws f fd) : Fun K x q st f fd := by
  obtain ⟨oc, od, dV, kV, doc, pm, an, cdv, ct, osl, rfl, lk, hcd, hD, hK⟩ := F.ex
  rcases hD with ⟨_, rfl⟩ | ⟨e, _⟩
  · exact ⟨⟨oc, od, kV, doc, pm, an, cdv, ct, osl, rfl, lk, hcd⟩, F.kp⟩
  · exact absurd rfl e
/-- an exception class with an __init__ of its own -/
def xobB (K : PySem.W.Frag) (C : Addr) : Bool := match K.lookup C with
  | some ⟨.type t, _, .cls cd, sl⟩ => (match cd.mro, sl.toList with
    | .ref D :: bm, [_, _, _, _, some (.builtin n), _] => decide (t = "type") && (decide (D = C) && (decide (n = "ValueError.__new__") && (!cd.hasDel && (cd.hasDict && PySem.HandSPX.refsVE bm))))
    | _, _ => false)
  | _ => false
def xiB (K : PySem.W.Frag) (x : Str) : Bool := xobB K (He.ga K x) && (decide (PySem.W.findIn K (.ref (He.ga K x)) "__setattr__" = some (some (.builtin "object.__setattr__"))) && (decide (PySem.W.subIn K (.ref (He.ga K x)) (.type "BaseException") = some true) && (decide (PySem.W.typeIn K (.ref (He.ga K x)) = some (.type "type")) && (PySem.W.keepIn K (.ref (He.ga K x)) && (decide (PySem.W.findIn K (.ref (He.ga K x)) "__init__" = some (some (.ref (He.ma K (He.ga K x) "__init__")))) && decide (PySem.W.typeIn K (.ref (He.ma K (He.ga K x) "__init__")) = some (.type "function")))))))
theorem ba {a b : Bool} (h : (a && b) = true) : a = true ∧ b = true := Bool.and_eq_true_iff.mp h
theorem xob_ok {C : Addr} (h : xobB K C = true) : ∃ nm q N bs bm sn sub ab col dd k0 k1 k2 k3 k5, K.lookup C = some (excClassObj nm q C N bs bm true sn sub ab col dd k0 k1 k2 k3 k5 "ValueError.__new__") ∧ PySem.HandSPX.refsVE bm = true := by
  unfold xobB at h
  split at h
  · rename_i t dd cd sl ho
    split at h
    · rename_i D bm k0 k1 k2 k3 n k5 hm hs
      obtain ⟨e1, h⟩ := ba h
      obtain ⟨e2, h⟩ := ba h
      obtain ⟨e3, h⟩ := ba h
      obtain ⟨e4, h⟩ := ba h
      obtain ⟨e5, e6⟩ := ba h
      have e1 := of_decide_eq_true e1
      have e2 := of_decide_eq_true e2
      have e3 := of_decide_eq_true e3
      obtain ⟨a1, a2, a3, a4, a5, a6, a7, a8, a9, a10, a11⟩ := cd
      dsimp only at hm e4 e5
      have e4 : a11 = false := by simpa using e4
      subst e1 e2 e3 hm e4 e5
      have es : sl = #[k0, k1, k2, k3, some (.builtin "ValueError.__new__"), k5] := by
        cases sl
        simp only at hs
        rw [hs]
      rw [ho, es]
      exact ⟨_, _, _, _, _, _, _, _, _, _, _, _, _, _, _, rfl, e6⟩
    · cases h
  · cases h
theorem xi_ok {x : Str} (h : xiB K x = true) : OexC K (He.ga K x) ∧ PySem.W.findIn K (.ref (He.ga K x)) "__init__" = some (some (.ref (He.ma K (He.ga K x) "__init__"))) ∧ PySem.W.typeIn K (.ref (He.ma K (He.ga K x) "__init__")) = some (.type "function") := by
  obtain ⟨h1, h⟩ := ba h
  obtain ⟨h2, h⟩ := ba h
  obtain ⟨h3, h⟩ := ba h
  obtain ⟨h4, h⟩ := ba h
  obtain ⟨h5, h⟩ := ba h
  obtain ⟨h6, h7⟩ := ba h
  exact ⟨⟨xob_ok h1, of_decide_eq_true h2, of_decide_eq_true h3, of_decide_eq_true h4, h5⟩, of_decide_eq_true h6, of_decide_eq_true h7⟩
/-- the fields of an exception may be read -/
def xfB (K : PySem.W.Frag) (x : Str) : Bool := decide (PySem.W.findIn K (.ref (He.ga K x)) "__getattribute__" = some (some (.builtin "BaseException.__getattribute__"))) && (decide (PySem.W.findIn K (.ref (He.ga K x)) "__getattr__" = some none) && (decide (PySem.W.subIn K (.ref (He.ga K x)) (.type "BaseException") = some true) && PySem.W.hasDictIn K (He.ga K x)))
theorem xf_ok {x : Str} (h : xfB K x = true) : L2.XfC K (He.ga K x) := by
  obtain ⟨h1, h⟩ := ba h
  obtain ⟨h2, h⟩ := ba h
  obtain ⟨h3, h4⟩ := ba h
  exact ⟨of_decide_eq_true h1, of_decide_eq_true h2, of_decide_eq_true h3, h4⟩
theorem mkr_ok {x : Str} (c : (He.Fa.mkr x).ok K = true) : PySem.W.makesIn K (He.ga K x) = true ∧ PySem.W.keepIn K (.ref (He.ga K x)) = true := by
  obtain ⟨h1, h⟩ := ba (show (_ && _) = true from c)
  obtain ⟨h2, h⟩ := ba h
  exact ⟨h1, (ba h).2⟩
end
end Kj

/-! Kj33: the head's facts, the part of the heap that they look at laid open once (level by level, each value brought to its form). -/
namespace Kj
open PySem PySem.Spec PyProof.Rows L2 Evl
section
variable {β : Type}
def frV (v : Value) (k : Value → β) : β := match v with
  | .ref a => HandSHeadRun.frNat a fun a => k (.ref a)
  | v => k v
theorem frV_eq (v : Value) (k : Value → β) : frV v k = k v := by
  cases v with
  | ref a => exact HandSHeadRun.frNat_eq a fun a => k (.ref a)
  | _ => rfl
def frVs : List Value → (List Value → β) → β
  | [], k => k []
  | v :: r, k => frV v fun v => frVs r fun r => k (v :: r)
theorem frVs_eq : ∀ (l : List Value) (k : List Value → β), frVs l k = k l
  | [], _ => rfl
  | v :: r, k => by
    show frV v (fun v => frVs r fun r => k (v :: r)) = _
    rw [frV_eq, frVs_eq r]
def frEs : List DictEntry → (List DictEntry → β) → β
  | [], k => k []
  | ⟨h, u, v⟩ :: r, k => frV u fun u => frV v fun v => frEs r fun r => k (⟨h, u, v⟩ :: r)
theorem frEs_eq : ∀ (l : List DictEntry) (k : List DictEntry → β), frEs l k = k l
  | [], _ => rfl
  | ⟨h, u, v⟩ :: r, k => by
    show frV u (fun u => frV v fun v => frEs r fun r => k (⟨h, u, v⟩ :: r)) = _
    rw [frV_eq, frV_eq, frEs_eq r]
def frD (d : Data) (k : Data → β) : β := match d with
  | .dict es n => frEs es.toList fun l => k (.dict ⟨l⟩ n)
  | .fields vs => frVs vs.toList fun l => k (.fields ⟨l⟩)
  | .cls cd => frVs cd.mro fun m => HandSHeadRun.frNat cd.ns fun ns => k (.cls { cd with mro := m, ns := ns })
  | .func fd => frV fd.code fun c => frV fd.defaults fun dv => frV fd.kwdefaults fun kv => k (.func { fd with code := c, defaults := dv, kwdefaults := kv })
  | d => k d
theorem frD_eq (d : Data) (k : Data → β) : frD d k = k d := by
  cases d with
  | dict es n => exact frEs_eq es.toList fun l => k (.dict ⟨l⟩ n)
  | fields vs => exact frVs_eq vs.toList fun l => k (.fields ⟨l⟩)
  | cls cd => exact (frVs_eq cd.mro fun m => HandSHeadRun.frNat cd.ns fun ns => k (.cls { cd with mro := m, ns := ns })).trans (HandSHeadRun.frNat_eq cd.ns fun ns => k (.cls { cd with mro := cd.mro, ns := ns }))
  | func fd => exact (frV_eq fd.code fun c => frV fd.defaults fun dv => frV fd.kwdefaults fun kv => k (.func { fd with code := c, defaults := dv, kwdefaults := kv })).trans ((frV_eq fd.defaults fun dv => frV fd.kwdefaults fun kv => k (.func { fd with code := fd.code, defaults := dv, kwdefaults := kv })).trans (frV_eq fd.kwdefaults fun kv => k (.func { fd with code := fd.code, defaults := fd.defaults, kwdefaults := kv })))
  | _ => rfl
def frO (o : Obj) (k : Obj → β) : β := match o with
  | ⟨c, d, dt, sl⟩ => frV c fun c => frD dt fun dt => k ⟨c, d, dt, sl⟩
theorem frO_eq (o : Obj) (k : Obj → β) : frO o k = k o := by
  obtain ⟨c, d, dt, sl⟩ := o
  show frV c (fun c => frD dt fun dt => k ⟨c, d, dt, sl⟩) = _
  rw [frV_eq, frD_eq]
/-- what an object leads on to -/
def refs2 (o : Obj) : List Addr := match o.data with
  | .dict es _ => es.toList.flatMap fun e => He.refV e.val
  | .func fd => He.refV fd.code
  | .cls cd => [cd.ns]
  | _ => []
variable (g : Addr → Option Obj)
def nextY (l : List Addr) : List Addr := l.flatMap fun a => match g a with
  | some o => refs2 o
  | none => []
def fronts : Nat → List Addr → List Addr
  | 0, l => l
  | n + 1, l => l ++ fronts n (nextY g l)
def stepK : List Addr → (PySem.W.Frag → List Addr → β) → β
  | [], k => k [] []
  | a :: r, k => HandSHeadRun.frNat a fun a => match g a with
    | none => stepK r k
    | some o => frO o fun o => stepK r fun K l => k ((a, o) :: K) (refs2 o ++ l)
theorem stepK_eq : ∀ (l : List Addr) (k : PySem.W.Frag → List Addr → β), stepK g l k = k (He.frG g l) (nextY g l)
  | [], _ => rfl
  | a :: r, k => by
    show HandSHeadRun.frNat a (fun a => match g a with
      | none => stepK g r k
      | some o => frO o fun o => stepK g r fun K l => k ((a, o) :: K) (refs2 o ++ l)) = _
    rw [HandSHeadRun.frNat_eq]
    unfold He.frG nextY
    rw [List.filterMap_cons, List.flatMap_cons]
    cases e : g a with
    | none =>
      show stepK g r k = _
      rw [stepK_eq r]
      rfl
    | some o =>
      show frO o (fun o => stepK g r fun K l => k ((a, o) :: K) (refs2 o ++ l)) = _
      rw [frO_eq, stepK_eq r]
      rfl
def levK : Nat → List Addr → (PySem.W.Frag → β) → β
  | 0, l, k => stepK g l fun K _ => k K
  | n + 1, l, k => stepK g l fun K l' => levK n l' fun K' => k (K ++ K')
theorem levK_eq : ∀ (n : Nat) (l : List Addr) (k : PySem.W.Frag → β), levK g n l k = k (He.frG g (fronts g n l))
  | 0, l, k => stepK_eq g l _
  | n + 1, l, k => by
    show stepK g l (fun K l' => levK g n l' fun K' => k (K ++ K')) = _
    rw [stepK_eq, levK_eq n]
    show k (He.frG g l ++ He.frG g (fronts g n (nextY g l))) = k (He.frG g (l ++ fronts g n (nextY g l)))
    unfold He.frG
    rw [List.filterMap_append]
def frKf : PySem.W.Frag → (PySem.W.Frag → β) → β
  | [], k => k []
  | (a, o) :: r, k => match He.emptyTab o with
    | true => frKf r k
    | false => frKf r fun r => k ((a, o) :: r)
theorem frKf_eq : ∀ (K : PySem.W.Frag) (k : PySem.W.Frag → β), frKf K k = k (K.filter fun q => !He.emptyTab q.2)
  | [], _ => rfl
  | (a, o) :: r, k => by
    show (match He.emptyTab o with
      | true => frKf r k
      | false => frKf r fun r => k ((a, o) :: r)) = _
    rw [List.filter_cons]
    cases e : He.emptyTab o with
    | true =>
      show frKf r k = _
      rw [frKf_eq r]
      rfl
    | false =>
      show frKf r (fun r => k ((a, o) :: r)) = _
      rw [frKf_eq r]
      rfl
end
section
variable (n : Nat) (fa : List He.Fa) (fn : List He.DefD) (ts : List He.Tab) (tf : List He.Defn) (ex : PySem.W.Frag → Bool)
def obsY (g : Addr → Option Obj) : He.AlX := (He.obsT fa fn ts (He.frT g (fronts g n [mainGlobals])), ex (He.frT g (fronts g n [mainGlobals])) && He.tabsB g tf (He.frT g (fronts g n [mainGlobals])))
def obsYF (g : Addr → Option Obj) : He.AlX := levK g n [mainGlobals] fun K => frKf K fun K => (He.obsT fa fn ts K, ex K && He.tabsB g tf K)
theorem obsYF_eq (g : Addr → Option Obj) : obsYF n fa fn ts tf ex g = obsY n fa fn ts tf ex g := by
  unfold obsYF obsY He.frT
  rw [levK_eq, frKf_eq]
theorem saysY_of {w : World} {h : Heap} {as : List Addr} (e : ((He.obsT fa fn ts (He.frT h.get? as), ex (He.frT h.get? as) && He.tabsB h.get? tf (He.frT h.get? as)) : He.AlX) = He.valX fn ts w) : He.SaysX fa fn ts tf ex w h (He.frT h.get? as) := by
  have e1 : He.obsT fa fn ts (He.frT h.get? as) = He.valT fn ts w := congrArg (fun z : He.AlX => z.1) e
  have e2 : (ex (He.frT h.get? as) && He.tabsB h.get? tf (He.frT h.get? as)) = true := congrArg (fun z : He.AlX => z.2) e
  obtain ⟨h1, h2⟩ := He.ba e2
  have look : ∀ p ∈ tf, PySem.W.codeHdIn (He.frT h.get? as) (He.cT (He.frT h.get? as) p).1 (He.cT (He.frT h.get? as) p).2 = true ∧ ∃ o, h.get? (He.cT (He.frT h.get? as) p).2 = some o ∧ He.emptyTab o = true := fun p hp => by
    obtain ⟨a, b⟩ := He.ba (List.all_eq_true.mp h2 p hp)
    refine ⟨a, ?_⟩
    cases q : h.get? (He.cT (He.frT h.get? as) p).2 with
    | none => rw [q] at b; cases b
    | some o => rw [q] at b; exact ⟨o, rfl, b⟩
  refine ⟨e1, h1, fun p hp => (look p hp).1, fun p hp => ?_, fun p hp => ?_⟩
  · obtain ⟨_, o, q, z⟩ := look p hp
    exact He.frT_none q z
  · obtain ⟨_, o, q, z⟩ := look p hp
    rw [q, He.emptyTab_eq z]
def hookY : PySem.W.Hook where
  α := He.AlX
  obs := fun s => obsY n fa fn ts tf ex s.heap.get?
  val := fun w => He.valX fn ts w
  says := fun w h => ∃ K : PySem.W.Frag, K.In h ∧ He.SaysX fa fn ts tf ex w h K
  of := fun _ _ e => ⟨_, He.frT_in, saysY_of fa fn ts tf ex e⟩
  keeps := fun _ _ _ ⟨K, hK, c⟩ k => ⟨K, PySem.W.Frag.In.keeps hK k, ⟨c.t, c.more, c.hd, c.out, fun p hp => k _ _ (c.empty p hp)⟩⟩
theorem obsYF_at {g : Addr → Option Obj} {s : Shared} (h : ∀ a, g a = s.heap.get? a) : obsYF n fa fn ts tf ex g = (hookY n fa fn ts tf ex).obs s := by
  have e : g = s.heap.get? := funext h
  rw [e, obsYF_eq]
  rfl
end
end Kj

/-! Kj34: try about a thing that changes; isinstance of the exception at hand; a walk over zip; join. -/
namespace Kj
open PySem PySem.Spec PyProof.Rows L2 Evl
/-- the classes at hand: each has the marks of an exception's class, and each is itself alone -/
structure IsM (K : PySem.W.Frag) (l : List Addr) : Prop where
  ec : ∀ p ∈ l, ExcC K p
  kit : ∀ (i j : Nat) (p q : Addr), l[i]? = some p → l[j]? = some q → PySem.W.kitOne K (.ref p) (.ref q) = some (decide (i = j))
section
variable {K : PySem.W.Frag} {σ : L2.St} {H B : Hp} {ta tb te : TE} {α β : Type} {T : Tp α} {S : Tp β} {l : List α} {m : List β} {g : TG}
theorem st_is {t : TS} {D : Ends} {σ σ' : L2.St} {H : Hp} (e : σ = σ') (k : t D σ' H) : t D σ H := e ▸ k
end
end Kj

/-! calls of which not all is told, and what comes back holds what was handed in -/
namespace Kj
open PySem PySem.Spec PyProof.Rows L2 Evl
section
variable {mg : Str → Option Value} {σ : L2.St} {H B M G : Hp} {Rs : List Hp} {tr : TA} {E : L2.St → XK} {Z : List Arg → Prop}
variable {Ns : List Hp} {W : Hp → List Hp → V → Prop} {D : Ends} {te tb : TE} {t2 : TT} {tz tu : TS} {r : R2} {x y : Str}
end
end Kj

/-! a thing's own call that gives back a list that is new: it may be changed -/
namespace Kj
open PySem PySem.Spec PyProof.Rows L2 Evl
section
variable {mg : Str → Option Value} {σ : L2.St} {H H' B M G : Hp} {Ps Ps' Rs : List Hp} {ta te : TE} {tr : TA} {v : V} {as : List Arg} {S : RlX} {E : L2.St → XK} {C : Addr} {mn : Str} {α : Type} {T : Tp α} {y : α} {D : Ends} {PP : Hp → List Hp → V → Prop}
end
end Kj

/-! Kj37: a call that changes things within an append, behind an or; a pair at a place that is a number. -/
namespace Kj
open PySem PySem.Spec PyProof.Rows L2 Evl
section
variable {K : PySem.W.Frag} {σ : L2.St} {H B M G : Hp} {Ns Ns2 : List Hp} {W : Hp → List Hp → V → Prop} {D : Ends} {ta te ti : TE} {tA : TT} {tz tu : TS} {p : Addr} {xs : List V} {l : List Int} {j j2 : Nat} {w : Int} {b : Bool}
end
end Kj

/-! Kj38: rows of unlike plain things; things that are left as they are from now on, told by kinds. -/
namespace Kj
open PySem PySem.Spec PyProof.Rows L2 Evl
section
variable {K : PySem.W.Frag} {σ : L2.St} {H B : Hp} {ta tb te : TE} {α : Type} {T : Tp α} {x : α} {l m : List PyData} {k : List α}
end
/-! ### things that change, from now on as they are -/
def tFz {α : Type} (S : St α) : Tp α := ⟨fun H v x => ∃ N B, Ex N H ∧ Ex B H ∧ Dj B N ∧ S.R B N v x, fun e ⟨N, B, h1, h2, h3, h4⟩ => ⟨N, B, h1.trans e, h2.trans e, h3, h4⟩⟩
section
variable {K : PySem.W.Frag} {mg : Str → Option Value} {σ : L2.St} {H B M G : Hp} {Ns : List Hp} {j : Nat} {ta te to : TE} {tr : TA} {α β : Type} {S : St α} {T : Tp β} {x : α} {y : β} {R : RlX} {E : L2.St → XK} {C : Addr} {mn : Str} {v : V}
end
end Kj

/-! Kj39: dicts whose keys are texts that the run makes. -/
namespace Kj
open PySem PySem.Spec PyProof.Rows L2 Evl
section
variable {α : Type}
def KvR (R : V → α → Prop) : List (Key × V) → List (Str × α) → Prop := Paired fun kv x => kv.1 = (.inr x.1 : Key) ∧ R kv.2 x.2
def ksK (l : List (Str × α)) : List Str := l.map fun p => p.1
def getK [Inhabited α] (l : List (Str × α)) (k : Str) : α := ((l.find? fun p => decide (p.1 = k)).map fun p => p.2).getD default
/-- in its place, or at the end -/
def putKd (l : List (Str × α)) (k : Str) (x : α) : List (Str × α) := if k ∈ ksK l then l.map (fun p => if p.1 = k then (p.1, x) else p) else l ++ [(k, x)]
theorem key_eq {a b : Str} : ((.inr a : Key) = .inr b) ↔ a = b := ⟨fun h => Sum.inr.inj h, fun h => h ▸ rfl⟩
theorem paired_app2 {β γ : Type} {R : β → γ → Prop} : ∀ {xs ys : List β} {l m : List γ}, Paired R xs l → Paired R ys m → Paired R (xs ++ ys) (l ++ m)
  | _, _, _, _, .nil, h => h
  | _, _, _, _, .cons a r, h => .cons a (paired_app2 r h)
theorem KvR.imp {R R' : V → α → Prop} (i : ∀ v x, R v x → R' v x) {kvs : List (Key × V)} {l : List (Str × α)} (h : KvR R kvs l) : KvR R' kvs l := paired_imp (fun _ _ ⟨a, b⟩ => ⟨a, i _ _ b⟩) h
theorem kv_len {R : V → α → Prop} {kvs : List (Key × V)} {l : List (Str × α)} (h : KvR R kvs l) : kvs.length = l.length := Paired.length h
theorem kv_val {R : V → α → Prop} (k : Str) : ∀ {kvs : List (Key × V)} {l : List (Str × α)}, KvR R kvs l → (∃ v x, valV kvs (.inr k) = some v ∧ (l.find? fun p => decide (p.1 = k)) = some (k, x) ∧ R v x ∧ k ∈ ksK l) ∨ (valV kvs (.inr k) = none ∧ k ∉ ksK l)
  | _, _, .nil => .inr ⟨rfl, fun h => nomatch h⟩
  | (kk, v) :: kvs, (a, x) :: l, .cons ⟨h1, h2⟩ r => by
    have h1 : kk = (.inr a : Key) := h1
    have h2 : R v x := h2
    subst h1
    by_cases z : a = k
    · subst z
      refine .inl ⟨v, x, valV_pos rfl, ?_, h2, List.mem_cons_self⟩
      exact List.find?_cons_of_pos (decide_eq_true rfl)
    · have e1 : valV (((.inr a : Key), v) :: kvs) (.inr k) = valV kvs (.inr k) := valV_neg (fun e => z (key_eq.mp e))
      rcases kv_val k r with ⟨u, y, e, f, g, m⟩ | ⟨e, m⟩
      · refine .inl ⟨u, y, e1.trans e, ?_, g, List.mem_cons_of_mem _ m⟩
        rw [List.find?_cons_of_neg (by simpa using z)]
        exact f
      · refine .inr ⟨e1.trans e, fun h => ?_⟩
        rcases List.mem_cons.mp h with w | w
        · exact z w.symm
        · exact m w
theorem kv_in {R : V → α → Prop} {kvs : List (Key × V)} {l : List (Str × α)} (h : KvR R kvs l) (k : Str) : (valV kvs (.inr k)).isSome = decide (k ∈ ksK l) := by
  rcases kv_val k h with ⟨u, y, e, _, _, m⟩ | ⟨e, m⟩
  · rw [e, decide_eq_true m]; rfl
  · rw [e, decide_eq_false m]; rfl
theorem kv_get [Inhabited α] {R : V → α → Prop} {kvs : List (Key × V)} {l : List (Str × α)} (h : KvR R kvs l) {k : Str} (hk : k ∈ ksK l) : ∃ u, valV kvs (.inr k) = some u ∧ R u (getK l k) := by
  rcases kv_val k h with ⟨u, y, e, f, g, _⟩ | ⟨_, m⟩
  · refine ⟨u, e, ?_⟩
    unfold getK
    rw [f]
    exact g
  · exact absurd hk m
theorem kv_any {R : V → α → Prop} {k : Str} : ∀ {kvs : List (Key × V)} {l : List (Str × α)}, KvR R kvs l → ((kvs.any fun kv => decide (kv.1 = (.inr k : Key))) = true ↔ k ∈ ksK l)
  | _, _, .nil => ⟨fun h => (by simp at h), fun h => by cases h⟩
  | (kk, v) :: kvs, (a, x) :: l, .cons ⟨h1, h2⟩ r => by
    have h1 : kk = (.inr a : Key) := h1
    subst h1
    rw [List.any_cons, Bool.or_eq_true]
    constructor
    · rintro (z | z)
      · have z : a = k := key_eq.mp (of_decide_eq_true z)
        exact List.mem_cons.mpr (.inl z.symm)
      · exact List.mem_cons_of_mem _ ((kv_any r).mp z)
    · intro z
      rcases List.mem_cons.mp z with z | z
      · have z : k = a := z
        exact .inl (decide_eq_true (key_eq.mpr z.symm))
      · exact .inr ((kv_any r).mpr z)
theorem kv_rep {R : V → α → Prop} {k : Str} {v : V} {x : α} (hv : R v x) : ∀ {kvs : List (Key × V)} {l : List (Str × α)}, KvR R kvs l → KvR R (kvs.map fun kv => if kv.1 = (.inr k : Key) then (kv.1, v) else kv) (l.map fun p => if p.1 = k then (p.1, x) else p)
  | _, _, .nil => .nil
  | (kk, u) :: kvs, (a, y) :: l, .cons ⟨h1, h2⟩ r => by
    have h1 : kk = (.inr a : Key) := h1
    subst h1
    rw [List.map_cons, List.map_cons]
    refine .cons ?_ (kv_rep hv r)
    by_cases z : a = k
    · rw [if_pos (show ((.inr a : Key), u).1 = (.inr k : Key) from key_eq.mpr z), if_pos (show (a, y).1 = k from z)]
      exact ⟨rfl, hv⟩
    · rw [if_neg (show ¬ ((.inr a : Key), u).1 = (.inr k : Key) from fun e => z (key_eq.mp e)), if_neg (show ¬ (a, y).1 = k from z)]
      exact ⟨rfl, h2⟩
theorem kv_put {R : V → α → Prop} {kvs : List (Key × V)} {l : List (Str × α)} (h : KvR R kvs l) (k : Str) {v : V} {x : α} (hv : R v x) : KvR R (putK kvs (.inr k) v) (putKd l k x) := by
  unfold putK putKd
  by_cases z : k ∈ ksK l
  · rw [if_pos z, if_pos ((kv_any h).mpr z)]
    exact kv_rep hv h
  · rw [if_neg z, if_neg (fun e => z ((kv_any h).mp e))]
    exact paired_app2 h (.cons ⟨rfl, hv⟩ .nil)
theorem kv_keys {R : V → α → Prop} : ∀ {kvs : List (Key × V)} {l : List (Str × α)}, KvR R kvs l → kvs.map (fun kv => kV kv.1) = (ksK l).map V.str
  | _, _, .nil => rfl
  | (kk, u) :: kvs, (a, y) :: l, .cons ⟨h1, h2⟩ r => by
    have h1 : kk = (.inr a : Key) := h1
    subst h1
    rw [List.map_cons, kv_keys r]
    rfl
theorem put_lenK (l : List (Str × α)) (k : Str) (x : α) : (putKd l k x).length ≤ l.length + 1 := by
  unfold putKd
  split
  · rw [List.length_map]; omega
  · rw [List.length_append, List.length_singleton]; exact Nat.le_refl _
end
/-- a dict with texts as keys -/
def tKd {α : Type} (T : Tp α) : Tp (List (Str × α)) := ⟨fun H v l => ∃ p kvs, v = .ref p ∧ H p = some (.dK kvs) ∧ KvR (T.R H) kvs l ∧ (∀ k ∈ ksK l, PyData.strOk k = true) ∧ l.length ≤ 900, fun e ⟨p, kvs, h1, h2, h3, h4⟩ => ⟨p, kvs, h1, e _ _ h2, h3.imp fun _ _ => T.up e, h4⟩⟩
/-- of which the keys alone are told -/
def tKn : Tp (List Str) := ⟨fun H v ks => ∃ p kvs, v = .ref p ∧ H p = some (.dK kvs) ∧ KvR (fun _ (_ : Unit) => True) kvs (ks.map fun k => (k, ())) ∧ ks.length ≤ 900, fun e ⟨p, kvs, h1, h2, h3⟩ => ⟨p, kvs, h1, e _ _ h2, h3⟩⟩
theorem kd_kn {α : Type} {T : Tp α} {H : Hp} {v : V} {l : List (Str × α)} (h : (tKd T).R H v l) : tKn.R H v (ksK l) := by
  obtain ⟨p, kvs, h1, h2, h3, _, h4⟩ := h
  refine ⟨p, kvs, h1, h2, ?_, by unfold ksK; rw [List.length_map]; exact h4⟩
  have key : ∀ {kvs : List (Key × V)} {l : List (Str × α)}, KvR (T.R H) kvs l → KvR (fun _ (_ : Unit) => True) kvs ((ksK l).map fun k => (k, ())) := fun {kvs l} h => by
    induction h with
    | nil => exact .nil
    | cons a _ ih => exact .cons ⟨a.1, trivial⟩ ih
  exact key h3
instance {α : Type} {T S : Tp α} [Z : Sub T S] : Sub (tKd T) (tKd S) := ⟨fun ⟨p, kvs, h1, h2, h3, h4⟩ => ⟨p, kvs, h1, h2, h3.imp fun _ _ z => Z.to z, h4⟩⟩
instance {α : Type} {T : Tp α} : NN (tKd T) := ⟨fun ⟨_, _, h, _⟩ z => by cases h; cases z⟩
section
variable {K : PySem.W.Frag} {σ : L2.St} {H B M G : Hp} {ta tb te tx : TE} {α : Type} {T : Tp α} {l : List (Str × α)} {k : Str} {x : α} {Ns : List Hp} {D : Ends} {tz : TS} {i j : Nat} {p : Addr} {kvs : List (Key × V)} {ks : List Str}
theorem ed_kn (h : Ed (tKd T) te σ H B l) : Ed tKn te σ H B (ksK l) := eb_imp h fun _ _ p => kd_kn p
/-- d[k] -/
theorem ed_kget [Inhabited α] (h : Ed (tKd T) ta σ H B l) (hk : Ev tb σ H (.str k)) (hm : k ∈ ksK l) (eB : Ex B H) : Ed T (tDGet ta tb) σ H B (getK l k) := ed_dgetR h hk eB fun G v ⟨p, kvs, h1, h2, h3, _⟩ => by
  obtain ⟨u, e, r⟩ := kv_get h3 hm
  exact ⟨p, kvs, u, h1, h2, e, r⟩
theorem kn_in {G : Hp} {v : V} (h : tKn.R G v ks) (k : Str) : ∃ p kvs, v = .ref p ∧ G p = some (.dK kvs) ∧ (valV kvs (.inr k)).isSome = decide (k ∈ ks) := by
  obtain ⟨p, kvs, h1, h2, h3, _⟩ := h
  refine ⟨p, kvs, h1, h2, ?_⟩
  rw [kv_in h3 k]
  refine decide_eq_decide.mpr ?_
  unfold ksK
  rw [List.map_map]
  show k ∈ ks.map (fun x => x) ↔ _
  rw [List.map_id'' fun _ => rfl]
/-- k in d -/
theorem ev_kin (h : Ed tKn ta σ H B ks) (hk : Ev tb σ H (.str k)) (eB : Ex B H) : Ev (tDIn tb ta) σ H (.bl (decide (k ∈ ks))) := fun H1 e Q q => hk H1 e _ fun H2 e2 => h H2 (e.trans e2) _ fun v H3 N e3 e4 f r => by
  obtain ⟨p, kvs, rfl, h2, h3⟩ := kn_in r k
  have hd : H3 p = some (.dK kvs) := uni_ex (((eB.trans e).trans e2).trans e3) e4 _ _ h2
  refine ⟨p, _, rfl, DGet.k (k := (.inr k : Key)) hd, ?_⟩
  rw [h3]
  exact q H3 (e2.trans e3)
theorem ev_knin (h : Ed tKn ta σ H B ks) (hk : Ev tb σ H (.str k)) (eB : Ex B H) : Ev (tDNotIn tb ta) σ H (.bl (!decide (k ∈ ks))) := fun H1 e Q q => hk H1 e _ fun H2 e2 => h H2 (e.trans e2) _ fun v H3 N e3 e4 f r => by
  obtain ⟨p, kvs, rfl, h2, h3⟩ := kn_in r k
  have hd : H3 p = some (.dK kvs) := uni_ex (((eB.trans e).trans e2).trans e3) e4 _ _ h2
  refine ⟨p, _, rfl, DGet.k (k := (.inr k : Key)) hd, ?_⟩
  rw [h3]
  exact q H3 (e2.trans e3)
/-- list(d) -/
theorem en_kkeys (h : Ed (tKd T) te σ H B l) (eB : Ex B H) : Edn tS (tCB rListD (tCons te tNil)) σ H B (ksK l) := fun H1 e Q q =>
  h H1 e _ fun v H2 N e2 e3 f ⟨p, kvs, h1, h2, h3, h4, h5⟩ => by
    subst h1
    refine ⟨p, kvs, rfl, uni_ex ((eB.trans e).trans e2) e3 _ _ h2, fun r hr => q r _ _ N (e2.trans (Ex.new hr)) (e3.trans (Ex.new hr)) f (fresh_back e2 hr) (ex_none e3 hr) upd_same ?_ (by unfold ksK; rw [List.length_map]; omega)⟩
    rw [kv_keys h3]
    have key : ∀ {ks : List Str}, (∀ k ∈ ks, PyData.strOk k = true) → Paired (tS.R (uni B N)) (ks.map V.str) ks := fun {ks} hk => by
      induction ks with
      | nil => exact .nil
      | cons a r ih => exact .cons ⟨rfl, hk a List.mem_cons_self⟩ (ih fun x hx => hk x (List.mem_cons_of_mem _ hx))
    exact key h4
/-- one's own dict -/
def KvO (T : Tp α) (H : Hp) (kvs : List (Key × V)) (l : List (Str × α)) : Prop := KvR (T.R H) kvs l ∧ (∀ k ∈ ksK l, PyData.strOk k = true) ∧ l.length ≤ 900
theorem KvO.up {H' : Hp} (h : KvO T H kvs l) (e : Ex H H') : KvO T H' kvs l := ⟨h.1.imp fun _ _ => T.up e, h.2⟩
theorem s_kcp (o : Own (M :: G :: Ns) H) (h : Ed (tKd T) ta σ H (uni G M) l) (kk : ∀ p kvs M1 H1, Ex M M1 → Own (M1 :: G :: sing p (.dK kvs) :: Ns) H1 → KvO T (uni G M1) kvs l → D.nx (σ.set i (some (.ref p))) H1) : tAsg (tCB rDictD (tCons ta tNil)) (gName i) D σ H := s_odR (PO := fun G ob => ∃ kvs, ob = .dK kvs ∧ KvO T G kvs l) o h (fun G v ⟨p, kvs, h1, h2, h3⟩ => ⟨p, kvs, h1, h2, kvs, rfl, h3⟩) fun p ob M1 H1 e o1 ⟨kvs, z, hp⟩ => by
  subst z
  exact kk p kvs M1 H1 e o1 hp
theorem q_kcp (o : Own (M :: G :: Ns) H) (h : Ed (tKd T) ta σ H (uni G M) l) (kk : ∀ p kvs M1 H1, Ex M M1 → Own (M1 :: G :: sing p (.dK kvs) :: Ns) H1 → KvO T (uni G M1) kvs l → tz D (σ.set i (some (.ref p))) H1) : tSeq (tAsg (tCB rDictD (tCons ta tNil)) (gName i)) tz D σ H := s_kcp (D := { D with nx := tz D }) o h kk
/-- d[k] = e, d one's own -/
theorem put_keys {l : List (Str × α)} {k k' : Str} {x : α} (h : k' ∈ ksK (putKd l k x)) : k' ∈ ksK l ∨ k' = k := by
  unfold putKd at h
  split at h
  · refine .inl ?_
    unfold ksK at h ⊢
    rw [List.map_map] at h
    obtain ⟨p, hp, e⟩ := List.mem_map.mp h
    refine List.mem_map.mpr ⟨p, hp, ?_⟩
    rw [← e]
    show p.1 = (if p.1 = k then (p.1, x) else p).1
    split <;> rfl
  · unfold ksK at h ⊢
    rw [List.map_append] at h
    rcases List.mem_append.mp h with z | z
    · exact .inl z
    · exact .inr (List.mem_singleton.mp z)
theorem s_kput (o : Own (M :: G :: Ns) H) (hj : Ns[j]? = some (sing p (.dK kvs))) (hx : KvO T (uni G M) kvs l) (hv : Ev ta σ H (.ref p)) (hk : Ev tb σ H (.str k)) (hs : PyData.strOk k = true) (h : Ed T te σ H (uni G M) x) (hl : l.length < 900) (kk : ∀ kvs' M1 H1, Ex M M1 → Own (M1 :: G :: Ns.set j (sing p (.dK kvs'))) H1 → KvO T (uni G M1) kvs' (putKd l k x) → D.nx σ H1) : sDPut ta tb te D σ H := s_dpR (fun v => putK kvs (.inr k) v) (fun _ => rfl) o hj hv hk h (by rw [kv_len hx.1]; omega) fun v M1 H1 e o1 hp => kk _ M1 H1 e o1 ⟨kv_put (hx.1.imp fun _ _ z => T.up (o1.uu e) z) k hp, fun k' hk' => by
  rcases put_keys hk' with z | z
  · exact hx.2.1 k' z
  · rw [z]; exact hs, by have := put_lenK l k x; omega⟩
theorem q_kput (o : Own (M :: G :: Ns) H) (hj : Ns[j]? = some (sing p (.dK kvs))) (hx : KvO T (uni G M) kvs l) (hv : Ev ta σ H (.ref p)) (hk : Ev tb σ H (.str k)) (hs : PyData.strOk k = true) (h : Ed T te σ H (uni G M) x) (hl : l.length < 900) (kk : ∀ kvs' M1 H1, Ex M M1 → Own (M1 :: G :: Ns.set j (sing p (.dK kvs'))) H1 → KvO T (uni G M1) kvs' (putKd l k x) → tz D σ H1) : tSeq (sDPut ta tb te) tz D σ H := s_kput (D := { D with nx := tz D }) o hj hx hv hk hs h hl kk
theorem own_freezeK (o : Own (M :: G :: Ns) H) (hj : Ns[j]? = some (sing p (.dK kvs))) (hx : KvO T (uni G M) kvs l) : ∃ M1, Ex M M1 ∧ Own (M1 :: G :: Ns.eraseIdx j) H ∧ (tKd T).R (uni G M1) (.ref p) l := ⟨_, o.joinE hj, o.join hj, p, kvs, rfl, uni_r _ _ (uni_r _ _ sing_at), (hx.up ((o.join hj).uu (o.joinE hj))).1, hx.2⟩
theorem ed_knew {α : Type} {T : Tp α} {B : Hp} (eB : Ex B H) : Ed (tKd T) tDNewK σ H B [] := fun H1 e Q q p hp => q _ _ (sing p (.dK [])) (Ex.new hp) (sing_ex upd_same) (sing_fr hp) ⟨p, [], rfl, uni_r _ _ sing_at, .nil, fun _ h => (nomatch h), Nat.zero_le _⟩

end
end Kj

/-! Kj40: deep == with dicts and tuples within; == with an empty list; lists of one's own within a thing; refusals with parts that change. -/
namespace Kj
open PySem PySem.Spec PyProof.Rows L2 Evl
/-! ### == of an empty list -/
section
variable {X : Cx}
end
section
variable {K : PySem.W.Frag} {σ : L2.St} {H B : Hp} {ta tb : TE} {α β : Type} {T : Tp α} {S : Tp β} {l : List α}
end
section
variable {X : Cx} {pins : List (Addr × Obj)} {σ : L2.St} {H : Hp} {s : Shared}
end
/-! ### lists of one's own within a thing -/
theorem ev_fldP {K : PySem.W.Frag} {σ : L2.St} {H : Hp} {ta : TE} {p C dx : Addr} {gs : List (Str × V)} {f : Str} {u : V} (hv : Ev ta σ H (.ref p)) (h : H p = some (.ins C dx gs)) (c : Cls K C) (n : NoAttr K C f) (hl : gs.lookup f = some u) : Ev (tFld K ta f) σ H u := fun H1 e Q q => hv H1 e _ fun H2 e2 => ⟨p, C, dx, gs, u, rfl, e2 _ _ (e _ _ h), c, n, hl, q H2 e2⟩
section
variable {K : PySem.W.Frag} {σ : L2.St} {H M G N A B : Hp} {Ns : List Hp} {D : Ends} {tz : TS} {te ta : TE} {j : Nat} {α : Type} {T : Tp α} {l : List α} {p C dx : Addr} {gs : List (Str × V)} {f : Str} {xs : List V} {g : TG}
/-- a part falls into two -/
theorem Own.cut2 (o : Own (M :: G :: Ns) H) (hj : Ns[j]? = some (uni A B)) (d : Dj A B) : Own (M :: G :: (A :: B :: Ns.eraseIdx j)) H := by
  have o2 := o.front hj
  obtain ⟨a, b⟩ := own_iff.mp o2
  cases b with
  | cons b1 b2 =>
    cases b2 with
    | cons c1 c2 =>
      cases c2 with
      | cons d1 d2 =>
        have eA : Ex A (uni A B) := uni_l fun x hx => by
          cases q : A x with
          | none => rfl
          | some u => exact absurd (d x (ne_some q)) hx
        have sub : ∀ N, (∀ x, N x ≠ none → (uni A B) x ≠ none) → ∀ P, Dj P (uni A B) → Dj P N := fun N hN P hP x hx => by
          cases q : N x with
          | none => rfl
          | some u => exact absurd (hP x hx) (hN x (ne_some q))
        have sA : ∀ x, A x ≠ none → (uni A B) x ≠ none := fun x hx => by
          cases q : A x with
          | none => exact absurd q hx
          | some u => rw [eA x u q]; exact fun z => nomatch z
        have sB : ∀ x, B x ≠ none → (uni A B) x ≠ none := fun x hx => by
          cases q : B x with
          | none => exact absurd q hx
          | some u => rw [uni_r x u q]; exact fun z => nomatch z
        refine own_iff.mpr ⟨fun X hX => ?_, .cons (fun X hX => ?_) (.cons (fun X hX => ?_) (.cons (fun X hX => ?_) (.cons (fun X hX => ?_) d2)))⟩
        · simp only [List.mem_cons] at hX
          rcases hX with z | z | z | z | z
          · rw [z]; exact a M List.mem_cons_self
          · rw [z]; exact a G (by simp)
          · rw [z]; exact eA.trans (a _ (by simp))
          · rw [z]; exact (show Ex B (uni A B) from uni_r).trans (a _ (by simp))
          · exact a X (by simp [z])
        · simp only [List.mem_cons] at hX
          rcases hX with z | z | z | z
          · rw [z]; exact b1 G (by simp)
          · rw [z]; exact sub A sA M (b1 _ (by simp))
          · rw [z]; exact sub B sB M (b1 _ (by simp))
          · exact b1 X (by simp [z])
        · simp only [List.mem_cons] at hX
          rcases hX with z | z | z
          · rw [z]; exact sub A sA G (c1 _ (by simp))
          · rw [z]; exact sub B sB G (c1 _ (by simp))
          · exact c1 X (by simp [z])
        · simp only [List.mem_cons] at hX
          rcases hX with z | z
          · rw [z]; exact d
          · exact fun x hx => d1 X z x (sA x hx)
        · exact fun x hx => d1 X hX x (sB x hx)
/-- two parts are one -/
theorem Own.join2 (o : Own (M :: G :: (A :: B :: Ns)) H) : Own (M :: G :: (uni A B :: Ns)) H ∧ Dj A B := by
  obtain ⟨a, b⟩ := own_iff.mp o
  cases b with
  | cons b1 b2 =>
    cases b2 with
    | cons c1 c2 =>
      cases c2 with
      | cons d1 d2 =>
        cases d2 with
        | cons e1 e2 =>
          refine ⟨own_iff.mpr ⟨fun X hX => ?_, .cons (fun X hX => ?_) (.cons (fun X hX => ?_) (.cons (fun X hX => ?_) e2))⟩, d1 B (by simp)⟩
          · simp only [List.mem_cons] at hX
            rcases hX with z | z | z | z
            · rw [z]; exact a M List.mem_cons_self
            · rw [z]; exact a G (by simp)
            · rw [z]; exact uni_ex (a A (by simp)) (a B (by simp))
            · exact a X (by simp [z])
          · simp only [List.mem_cons] at hX
            rcases hX with z | z | z
            · rw [z]; exact b1 G (by simp)
            · rw [z]; exact dj_unr (b1 A (by simp)) (b1 B (by simp))
            · exact b1 X (by simp [z])
          · simp only [List.mem_cons] at hX
            rcases hX with z | z
            · rw [z]; exact dj_unr (c1 A (by simp)) (c1 B (by simp))
            · exact c1 X (by simp [z])
          · exact dj_uni (d1 X (by simp [hX])) (e1 X hX)
/-- a field is a new list of one's own -/
theorem s_fldN (gs' : V → List (Str × V)) (hq : ∀ v, putF f v gs = gs' v) (o : Own (M :: G :: Ns) H) (hj : Ns[j]? = some (sing p (.ins C dx gs))) (hv : Ev ta σ H (.ref p)) (h : Edn T te σ H (uni G M) l) (c : Cls K C) (n : NoAttr K C f) (hl : gs.length < 1000) (k : ∀ r xs M1 H1, Ex M M1 → Own (M1 :: G :: sing r (.lst xs) :: Ns.set j (sing p (.ins C dx (gs' (.ref r))))) H1 → Paired (T.R (uni G M1)) xs l → l.length ≤ 40000 → D.nx σ H1) : sFld K ta te f D σ H := h H (Ex.refl H) _ fun r xs H1 N1 e e2 fr h1 h2 h3 h4 h5 => hv H1 e _ fun H2 e3 => by
  have o1 : Own (uni M N1 :: G :: Ns) H1 := (o.add e e2 fr).merge
  have d : ∀ M' ∈ uni M N1 :: G :: Ns, Dj (sing r (.lst xs)) M' := fun M' hM' a ha => by
    have z : a = r := Classical.byContradiction fun z => ha (sing_ne z)
    subst z
    rcases List.mem_cons.mp hM' with z | z
    · subst z
      unfold uni
      rw [h2]
      exact ex_none o.e0 h1
    · exact ex_none (o.exm (List.mem_cons_of_mem _ z)) h1
  have o2 : Own (sing r (.lst xs) :: uni M N1 :: G :: Ns) H1 := ⟨sing_ex h3, d, o1⟩
  have o3 := (o2.rot).mono e3
  rw [uni_ass] at h4
  have o4 := Own.setO (l := p) (u := .ins C dx gs) (u' := .ins C dx (gs' (.ref r))) (j := j + 1) o3 hj
  have hat : H2 p = some (.ins C dx gs) := o3.exO (j := j + 1) hj _ _ sing_at
  refine ⟨p, C, dx, gs, rfl, hat, c, n, hl, ?_⟩
  rw [hq]
  exact k r xs (uni M N1) _ (uni_exl o.e0 fr) o4 h4 h5
theorem q_fldN (gs' : V → List (Str × V)) (hq : ∀ v, putF f v gs = gs' v) (o : Own (M :: G :: Ns) H) (hj : Ns[j]? = some (sing p (.ins C dx gs))) (hv : Ev ta σ H (.ref p)) (h : Edn T te σ H (uni G M) l) (c : Cls K C) (n : NoAttr K C f) (hl : gs.length < 1000) (k : ∀ r xs M1 H1, Ex M M1 → Own (M1 :: G :: sing r (.lst xs) :: Ns.set j (sing p (.ins C dx (gs' (.ref r))))) H1 → Paired (T.R (uni G M1)) xs l → l.length ≤ 40000 → tz D σ H1) : tSeq (sFld K ta te f) tz D σ H := s_fldN (D := { D with nx := tz D }) gs' hq o hj hv h c n hl k
end
end Kj
namespace Kj
open PySem PySem.Spec PyProof.Rows L2 Evl
section
variable {K : PySem.W.Frag} {σ : L2.St} {H M G N A B : Hp} {Ns : List Hp} {D : Ends} {tz : TS} {te ta : TE} {tu tw : TS} {j : Nat} {α : Type} {T : Tp α} {l : List α} {p : Addr} {xs : List V} {W : Hp → List Hp → V → Prop} {b : Bool}
end
end Kj

/-! Kj41: new things out of things that are left as they are; new things kept in dicts; refusals with fields. -/
namespace Kj
open PySem PySem.Spec PyProof.Rows L2 Evl
/-- an error with fields, or none -/
def resXF (e : Option (Str × List (Str × V))) (P : Hp → List Hp → V → Prop) (PE : Hp → List Hp → Prop) : ResX := match e with
  | none => .ok P
  | some (x, fs) => .err x fs PE
section
variable {K : PySem.W.Frag} {mg : Str → Option Value} {σ : L2.St} {H B M G : Hp} {Ns Ps : List Hp} {j : Nat} {ta tb te to : TE} {tr : TA} {α β : Type} {S : St α} {S' : St β} {T : Tp β} {x : α} {y : β} {R : RlX} {E : L2.St → XK} {C : Addr} {mn : Str} {v : V} {PP : Hp → List Hp → V → Prop} {PE : Hp → List Hp → Prop} {Q : VK} {EE : XK} {xn : Str} {fs : List (Str × V)} {e : Option (Str × List (Str × V))}
theorem resXF_ok (h : e = none) (k : OutX mg (resXF e PP PE) B Ps H Q EE) : RetX B Ps H Q PP := by subst h; exact k
theorem resXF_err (h : e = some (xn, fs)) (k : OutX mg (resXF e PP PE) B Ps H Q EE) : RaiseL mg xn fs B Ps H EE PE := by subst h; exact k
theorem resXF_none (h : e = none) : resXF e PP PE = .ok PP := by rw [h]; rfl
theorem resXF_some (h : e = some (xn, fs)) : resXF e PP PE = .err xn fs PE := by rw [h]; rfl
end
section
variable {K : PySem.W.Frag} {σ : L2.St} {H M G : Hp} {Ns : List Hp} {j : Nat} {ta tb te : TE} {α : Type} {S : St α} {x : α} {l : List (Str × α)} {kvs : List (Key × V)} {k : Str} {p : Addr} {D : Ends} {tz : TS}
end

/-! ### what is told of a thing's own lists -/
section
variable {K : PySem.W.Frag} {mg : Str → Option Value} {σ : L2.St} {H H' B M G N : Hp} {Ns Ps Rs : List Hp} {j : Nat} {ta te tl : TE} {tr : TA} {α : Type} {T : Tp α} {l : List α} {y : α} {xs : List V} {p : Addr} {v : V} {as : List Arg} {S : RlX} {E : L2.St → XK} {C : Addr} {mn : Str} {D : Ends} {P : Hp → V → Prop} {PP : Hp → List Hp → V → Prop} {g : TG}
theorem own_wl (o : Own (M :: G :: Ns) H) (hj : Ns[j]? = some N) : Ex (uni G M) (uni (uni G M) N) := by
  obtain ⟨_, b⟩ := own_iff.mp o
  cases b with
  | cons b1 b2 =>
    cases b2 with
    | cons c1 c2 =>
      have hm := List.mem_of_getElem? hj
      refine uni_l fun a ha => ?_
      cases z : (uni G M) a with
      | none => rfl
      | some ob =>
        have := dj_uni (c1 N hm) (b1 N (List.mem_cons_of_mem _ hm)) a (ne_some z)
        exact absurd this ha
theorem own_we (o : Own (M :: G :: Ns) H) (hj : Ns[j]? = some N) : Ex (uni (uni G M) N) H := uni_ex o.uh (o.exO hj)
theorem tl_own {H : Hp} (h : H p = some (.lst xs)) (hx : Paired (T.R H) xs l) (hl : l.length ≤ 40000) : (tW T).R H (.ref p) l := ⟨p, xs, rfl, h, hx, hl⟩
theorem s_rbXW (o0 : Own (B :: Ps) H) (o : Own (M :: B :: (N :: Rs)) H') (hr : rest2 (B :: Ps) H ∈ Rs) (h : EvB te σ H' (uni (uni B M) N) P) (k : RetX B Ps H D.rt PP) (hp : ∀ G w, P G w → ∀ G', Ex (uni B M) G' → Ex G (uni G' N) → PP G' [N] w) : tRet te D σ H' := h H' (Ex.refl H') _ fun w H1 N1 e1 e2 f q => by
  have o1 : Own (uni M N1 :: B :: ([N] ++ Rs)) H1 := (o.add e1 e2 f).merge
  obtain ⟨h1, h2, h3⟩ := x_fin o0 o1 hr
  refine k w H1 (uni M N1) [N] h1 h2 h3 (hp _ _ q _ (o1.uu (uni_exl o.e0 f)) ?_)
  have dN : ∀ a, N a ≠ none → N1 a = none := fun a ha => by
    cases z : N1 a with
    | none => rfl
    | some ob => exact absurd (ex_none (o.exO (j := 0) rfl) (f a (ne_some z))) ha
  intro a ob ha
  unfold uni at ha ⊢
  cases z : N a with
  | some u =>
    rw [dN a (ne_some z), z] at ha
    exact ha
  | none =>
    rw [z] at ha
    cases z2 : N1 a with
    | some u => rw [z2] at ha; exact ha
    | none => rw [z2] at ha; exact ha
/-- a thing's own call whose answer lies in part in the thing's own lists -/
theorem ed_methH (o : Own (M :: G :: (N :: Rs)) H) (hv : Ev ta σ H v) (hi : ∃ p dx gs, v = .ref p ∧ H p = some (.ins C dx gs) ∧ gs.lookup mn = none) (ha : EvBs tr σ H (uni G M) as) (hR : ∀ vs B, Ex (uni G M) B → ArgsR B vs as → ∃ P, S.R (v :: vs) B [N] (.ok P) ∧ ∀ G' Ps' w, P G' Ps' w → Ps' = [N] ∧ T.R (uni G' N) w y) : Ed T (tMethS C mn (S.sp mg) E ta tr) σ H H y := fun H1 e Q q => hv H1 e _ fun H0 e0 => by
  have o : Own (M :: G :: ([N] ++ Rs)) H := o
  obtain ⟨p, dx, gs, rfl, h1, h2⟩ := hi
  refine ⟨p, dx, gs, rfl, e0 _ _ (e _ _ h1), h2, ha H0 (e.trans e0) _ fun vs H2 N1 e2 e3 f pa => ?_⟩
  obtain ⟨o2, eM, eu⟩ := ec_args (o.mono (e.trans e0)) e2 e3 f
  rw [eu] at pa
  obtain ⟨P, k1, k2⟩ := hR vs _ (o2.uu eM) pa
  refine ⟨uni G (uni M N1), [N], .ok P, own_sub o2, k1, fun w H' M' Ps' hv o' n hp => ?_⟩
  obtain ⟨rfl, hT⟩ := k2 _ _ _ hp
  obtain ⟨a', b'⟩ := own_iff.mp o'
  have os := own_iff.mp (own_sub o2)
  have e4 : Ex H2 H' := hvl_same hv (fun N hN => a' N (List.mem_cons_of_mem _ hN)) fun N hN => os.1 N (List.mem_cons_of_mem _ hN)
  have f' : Fr H2 M' := fun a ha => by
    rcases n M' List.mem_cons_self a ha with z | ⟨N, hN, z⟩
    · exact z
    · cases b' with
      | cons c1 c2 => exact absurd (c1 N hN a ha) z
  obtain ⟨g1, g2, g3, g4⟩ := two_parts (e.trans e0) e2 e3 f f' e4 (a' M' List.mem_cons_self)
  refine q w H' (uni N1 M') ((e0.trans e2).trans e4) g2 (g1.back e0) (T.up ?_ hT)
  have eH : Ex H (uni H (uni N1 M')) := uni_exl (e.trans e0) g1
  refine uni_ex (uni_ex (uni_ex ((o.e1).trans eH) (uni_ex ((o.e0).trans eH) ?_)) ?_) ((o.exO (j := 0) rfl).trans eH)
  · have l1 : Ex N1 (uni N1 M') := uni_l fun a ha => by
      cases z : N1 a with
      | none => rfl
      | some ob => exact absurd (e3 a ob z) (by rw [f' a ha]; exact fun z => nomatch z)
    exact l1.trans uni_r
  · exact (show Ex M' (uni N1 M') from uni_r).trans uni_r
end
end Kj

/-! Kj42: len of a dict; refusals within a store. -/
namespace Kj
open PySem PySem.Spec PyProof.Rows L2 Evl
abbrev rLenD : List V → Hp → VK → Prop := fun xs H Q => ∃ a kvs, xs = [V.ref a] ∧ H a = some (.dK kvs) ∧ Q (.int kvs.length) H
section
variable {K : PySem.W.Frag} {mg : Str → Option Value} {σ : L2.St} {H B : Hp} {ta tb te : TE} {tr : TA} {ks : List Str} {W : WX} {xn : Str} {fs : List (Str × V)} {D : Ends} {tz : TS} {C : Addr} {sp : Sp} {E : L2.St → XK}
theorem ev_klen (h : Ed tKn te σ H B ks) (eB : Ex B H) : Ev (tCB rLenD (tCons te tNil)) σ H (.int (ks.length : Int)) := fun H1 e Q q => h H1 e _ fun v H2 N e2 e3 f ⟨p, kvs, ev, h1, h2, _⟩ => by
  subst ev
  have hl := kv_len h2
  rw [List.length_map] at hl
  refine ⟨p, kvs, rfl, uni_ex ((eB.trans e).trans e2) e3 _ _ h1, ?_⟩
  rw [hl]
  exact q H2 e2
theorem s_kper (h : EvErr mg W xn fs te σ H) (k : RaiseX mg xn fs H (WE W σ)) : sDPut ta tb te D σ H := h H (Ex.refl H) k _
theorem q_kper (h : EvErr mg W xn fs te σ H) (k : RaiseX mg xn fs H (WE W σ)) : tSeq (sDPut ta tb te) tz D σ H := s_kper (D := { D with nx := tz D }) h k
end
end Kj

/-! Kj43: a call of what a changing call gives back; refusals with fields. -/
namespace Kj
open PySem PySem.Spec PyProof.Rows L2 Evl
section
variable {K : PySem.W.Frag} {mg : Str → Option Value} {σ : L2.St} {H B M G : Hp} {Ns Ns2 : List Hp} {W : Hp → List Hp → V → Prop} {D : Ends} {ta te ti t1 : TE} {tr : TA} {tA t2 : TT} {tz tu : TS} {sp : Sp} {E : L2.St → XK} {w : V} {α : Type} {T : Tp α} {x : α}
theorem ed_w (h : T.R B w x) : Ed T (fun _ H Q => Q w H) σ H B x := fun H1 e Q q => q w H1 emp (Ex.refl _) emp_ex (fun a z => absurd rfl z) (by rw [uni_emp]; exact h)
theorem xda_some {fs : List (Str × V)} {d : Option Addr} {H H' : Hp} (h : XdAt fs H H' d) (hn : fs ≠ []) : ∃ dd, d = some dd ∧ H' dd = some (.xd fs) := by
  rcases h with ⟨z, _⟩ | ⟨a, h1, h2, _⟩
  · exact absurd z hn
  · exact ⟨a, h1, h2⟩
theorem ec_call1 (h : EvC t1 σ M G Ns H W) (k : ∀ w M1 Ns1 H1, Ex M M1 → Own (M1 :: G :: Ns1) H1 → W (uni G M1) Ns1 w → Ev (tCallS sp E (tCons (fun _ H Q => Q w H) tr)) σ H1 (.bl true)) : EvC (tCallS sp E (tCons t1 tr)) σ M G Ns H fun G' Ns' v => v = .bl true ∧ ∃ w, W G' Ns' w := fun Q q => h _ fun w M1 Ns1 H1 e o hw => k w M1 Ns1 H1 e o hw H1 (Ex.refl _) Q fun H2 e2 => q _ M1 Ns1 H2 e (o.mono e2) ⟨rfl, w, hw⟩
theorem q_ifNotOr (h : EvC te σ M G Ns H W) (hW : ∀ G Ns v, W G Ns v → v = .bl true) (k : ∀ M1 Ns1 H1, Ex M M1 → Own (M1 :: G :: Ns1) H1 → W (uni G M1) Ns1 (.bl true) → tSeq (tIfS t2 tu tNext) tz D σ H1) : tSeq (tIfS (tOr (tNot (tTest te)) t2) tu tNext) tz D σ H := h _ fun v M1 Ns1 H1 e o w => by
  have z := hW _ _ _ w
  subst z
  refine ⟨true, rfl, ?_⟩
  show (if (!true) = true then _ else _)
  rw [if_neg (by decide)]
  exact k M1 Ns1 H1 e o w
end
section
variable {X : Cx} {W : WX} {k : Nat} {C : Addr} {ps : List Str} {sp : Sp} {x : Str} {p pos : Pos}
theorem pe_makeO0 (O : OkC X.prog X.w X.K X.mg X.base k C x ps sp) (hr : Room (k + 1) X.A) (hg : Gl X x) (tk : Takes X W) (hdb : (x == ("__debug__" : Str)) = false := by decide) : PE X (.Call (.Name x p) [] [] pos) (tMakeS C sp (WE W) tNil) := by
  obtain ⟨f, fd, M, b, F⟩ := O.ex
  refine ⟨fun pins s σ H Q I h => ?_⟩
  refine wpAny_Call_Name_kw (ld_glob I hg O.g ?_ hdb)
  exact PySem.W.callWith_K0 I.kIn M.kp (run_makeS (us := []) M F hr b tk I .nil h)
end
end Kj

set_option Elab.async false
set_option linter.all false
set_option maxRecDepth 100000
set_option maxHeartbeats 2000000
namespace Kj
open PySem PySem.Spec PyProof.Rows L2 Evl
def topS (i : Nat) : Stmt := PySem.Challenge.pw_kimariji_k63_books_refused_at_a_hall.main.body.getD i (.Pass ⟨0, 0, 0, 0⟩)
abbrev h_BadVersed__initd_ : Stmt := inClass (topS 23) 0
def dd_BadVersed__initd_ : He.DefD := ⟨("BadVerse", some "__init__"), "__init__", "BadVerse.__init__", defArgs h_BadVersed__initd_, defBody h_BadVersed__initd_, defScope h_BadVersed__initd_, [], []⟩
abbrev h_Aliked__initd_ : Stmt := inClass (topS 24) 0
def dd_Aliked__initd_ : He.DefD := ⟨("Alike", some "__init__"), "__init__", "Alike.__init__", defArgs h_Aliked__initd_, defBody h_Aliked__initd_, defScope h_Aliked__initd_, [], []⟩
abbrev h__law_numbers : Stmt := topS 64
def dd__law_numbers : He.DefD := ⟨("_law_numbers", none), "_law_numbers", "_law_numbers", defArgs h__law_numbers, defBody h__law_numbers, defScope h__law_numbers, [], []⟩
abbrev h__law_same : Stmt := topS 65
def dd__law_same : He.DefD := ⟨("_law_same", none), "_law_same", "_law_same", defArgs h__law_same, defBody h__law_same, defScope h__law_same, [], []⟩
abbrev h_is_syllable : Stmt := topS 30
def dd_is_syllable : He.DefD := ⟨("is_syllable", none), "is_syllable", "is_syllable", defArgs h_is_syllable, defBody h_is_syllable, defScope h_is_syllable, [], []⟩
abbrev h_is_verse : Stmt := topS 31
def dd_is_verse : He.DefD := ⟨("is_verse", none), "is_verse", "is_verse", defArgs h_is_verse, defBody h_is_verse, defScope h_is_verse, [], []⟩
abbrev h_begins : Stmt := topS 32
def dd_begins : He.DefD := ⟨("begins", none), "begins", "begins", defArgs h_begins, defBody h_begins, defScope h_begins, [], []⟩
abbrev h_alike : Stmt := topS 33
def dd_alike : He.DefD := ⟨("alike", none), "alike", "alike", defArgs h_alike, defBody h_alike, defScope h_alike, [], []⟩
abbrev h_need_verses : Stmt := topS 34
def dd_need_verses : He.DefD := ⟨("need_verses", none), "need_verses", "need_verses", defArgs h_need_verses, defBody h_need_verses, defScope h_need_verses, [], []⟩
abbrev h_Bookd__initd_ : Stmt := inClass (topS 35) 0
def dd_Bookd__initd_ : He.DefD := ⟨("Book", some "__init__"), "__init__", "Book.__init__", defArgs h_Bookd__initd_, defBody h_Bookd__initd_, defScope h_Bookd__initd_, [], []⟩
abbrev h_Book_many : Stmt := inClass (topS 35) 1
def dd_Book_many : He.DefD := ⟨("Book", some "many"), "many", "Book.many", defArgs h_Book_many, defBody h_Book_many, defScope h_Book_many, [], []⟩
abbrev h_Book_verse : Stmt := inClass (topS 35) 2
def dd_Book_verse : He.DefD := ⟨("Book", some "verse"), "verse", "Book.verse", defArgs h_Book_verse, defBody h_Book_verse, defScope h_Book_verse, [], []⟩
abbrev h_Book_verses : Stmt := inClass (topS 35) 3
def dd_Book_verses : He.DefD := ⟨("Book", some "verses"), "verses", "Book.verses", defArgs h_Book_verses, defBody h_Book_verses, defScope h_Book_verses, [], []⟩
abbrev h__law_sound : Stmt := topS 66
def dd__law_sound : He.DefD := ⟨("_law_sound", none), "_law_sound", "_law_sound", defArgs h__law_sound, defBody h__law_sound, defScope h__law_sound, [], []⟩
abbrev h__law_pool : Stmt := topS 67
def dd__law_pool : He.DefD := ⟨("_law_pool", none), "_law_pool", "_law_pool", defArgs h__law_pool, defBody h__law_pool, defScope h__law_pool, [], []⟩
abbrev h__law_alike : Stmt := topS 68
def dd__law_alike : He.DefD := ⟨("_law_alike", none), "_law_alike", "_law_alike", defArgs h__law_alike, defBody h__law_alike, defScope h__law_alike, [], []⟩
abbrev h__law_verse : Stmt := topS 69
def dd__law_verse : He.DefD := ⟨("_law_verse", none), "_law_verse", "_law_verse", defArgs h__law_verse, defBody h__law_verse, defScope h__law_verse, [], []⟩
abbrev h__law_wide : Stmt := topS 70
def dd__law_wide : He.DefD := ⟨("_law_wide", none), "_law_wide", "_law_wide", defArgs h__law_wide, defBody h__law_wide, defScope h__law_wide, [], []⟩
abbrev h__law_book : Stmt := topS 71
def dd__law_book : He.DefD := ⟨("_law_book", none), "_law_book", "_law_book", defArgs h__law_book, defBody h__law_book, defScope h__law_book, [], []⟩
abbrev h__law_book_told : Stmt := topS 73
def dd__law_book_told : He.DefD := ⟨("_law_book_told", none), "_law_book_told", "_law_book_told", defArgs h__law_book_told, defBody h__law_book_told, defScope h__law_book_told, [], []⟩
abbrev h__law_is_line : Stmt := topS 74
def dd__law_is_line : He.DefD := ⟨("_law_is_line", none), "_law_is_line", "_law_is_line", defArgs h__law_is_line, defBody h__law_is_line, defScope h__law_is_line, [], []⟩
abbrev h__law_book_bad : Stmt := topS 75
def dd__law_book_bad : He.DefD := ⟨("_law_book_bad", none), "_law_book_bad", "_law_book_bad", defArgs h__law_book_bad, defBody h__law_book_bad, defScope h__law_book_bad, [], []⟩
abbrev h__law_spoilt_book : Stmt := topS 76
def dd__law_spoilt_book : He.DefD := ⟨("_law_spoilt_book", none), "_law_spoilt_book", "_law_spoilt_book", defArgs h__law_spoilt_book, defBody h__law_spoilt_book, defScope h__law_spoilt_book, [], []⟩
abbrev h__law_copy : Stmt := topS 72
def dd__law_copy : He.DefD := ⟨("_law_copy", none), "_law_copy", "_law_copy", defArgs h__law_copy, defBody h__law_copy, defScope h__law_copy, [], []⟩
abbrev h_need_new : Stmt := topS 61
def dd_need_new : He.DefD := ⟨("need_new", none), "need_new", "need_new", defArgs h_need_new, defBody h_need_new, defScope h_need_new, [], []⟩
abbrev h_copied_rows : Stmt := topS 48
def dd_copied_rows : He.DefD := ⟨("copied_rows", none), "copied_rows", "copied_rows", defArgs h_copied_rows, defBody h_copied_rows, defScope h_copied_rows, [], []⟩
abbrev h_copied_deed : Stmt := topS 49
def dd_copied_deed : He.DefD := ⟨("copied_deed", none), "copied_deed", "copied_deed", defArgs h_copied_deed, defBody h_copied_deed, defScope h_copied_deed, [], []⟩
abbrev h_Halld__initd_ : Stmt := inClass (topS 62) 0
def dd_Halld__initd_ : He.DefD := ⟨("Hall", some "__init__"), "__init__", "Hall.__init__", defArgs h_Halld__initd_, defBody h_Halld__initd_, defScope h_Halld__initd_, [], []⟩
abbrev h_Hall_books : Stmt := inClass (topS 62) 18
def dd_Hall_books : He.DefD := ⟨("Hall", some "books"), "books", "Hall.books", defArgs h_Hall_books, defBody h_Hall_books, defScope h_Hall_books, [], []⟩
abbrev h_Hall_book : Stmt := inClass (topS 62) 20
def dd_Hall_book : He.DefD := ⟨("Hall", some "book"), "book", "Hall.book", defArgs h_Hall_book, defBody h_Hall_book, defScope h_Hall_book, [], []⟩
abbrev h_Hall_become : Stmt := inClass (topS 62) 1
def dd_Hall_become : He.DefD := ⟨("Hall", some "become"), "become", "Hall.become", defArgs h_Hall_become, defBody h_Hall_become, defScope h_Hall_become, [], []⟩
abbrev h_Hall_shelve : Stmt := inClass (topS 62) 2
def dd_Hall_shelve : He.DefD := ⟨("Hall", some "shelve"), "shelve", "Hall.shelve", defArgs h_Hall_shelve, defBody h_Hall_shelve, defScope h_Hall_shelve, [], []⟩
abbrev h_Hall_deeds : Stmt := inClass (topS 62) 17
def dd_Hall_deeds : He.DefD := ⟨("Hall", some "deeds"), "deeds", "Hall.deeds", defArgs h_Hall_deeds, defBody h_Hall_deeds, defScope h_Hall_deeds, [], []⟩
abbrev h__law_why_shelf : Stmt := topS 78
def dd__law_why_shelf : He.DefD := ⟨("_law_why_shelf", none), "_law_why_shelf", "_law_why_shelf", defArgs h__law_why_shelf, defBody h__law_why_shelf, defScope h__law_why_shelf, [], []⟩
abbrev h__law_name : Stmt := topS 77
def dd__law_name : He.DefD := ⟨("_law_name", none), "_law_name", "_law_name", defArgs h__law_name, defBody h__law_name, defScope h__law_name, [], []⟩
abbrev h_law : Stmt := topS 79
def dd_law : He.DefD := ⟨("law", none), "law", "law", defArgs h_law, defBody h_law, defScope h_law, [], []⟩
def fa_ : List He.Fa := ([.free "abs", .free "all", .free "any", .free "dict", .free "enumerate", .free "int", .free "isinstance", .free "len", .free "list", .free "max", .free "min", .free "range", .free "sorted", .free "str", .free "sum", .free "tuple", .free "zip", .free "bool", .free "set", .str "LETTERS_books" "abcdefghijklmnopqrstuvwxyz", .int "MOST_SIGNS_books" 3, .int "MOST_SYLLABLES" 8, .int "MOST_VERSES" 40, .str "LETTERS_hall" "abcdefghijklmnopqrstuvwxyz", .int "MOST_NAMED" 8, .int "MOST_SIGNS_hall" 8, .exc "BadBook", .glo "BadBook", .glo "BadVerse", .noat "BadVerse" "row", .glo "Alike", .noat "Alike" "one", .noat "Alike" "other", .exc "NoVerse", .glo "NoVerse", .exc "BadName", .glo "BadName", .exc "Full", .glo "Full", .exc "Taken"] : List He.Fa) ++ ([.glo "Taken", .exc "NoBook", .glo "NoBook", .exc "SnatchError", .glo "SnatchError", .exm "Alike" "Alike" true, .exm "Alike" "BadBook" false, .exm "Alike" "BadVerse" false, .exm "BadBook" "BadBook" true, .exm "BadName" "Alike" false, .exm "BadName" "BadBook" false, .exm "BadName" "BadVerse" false, .exm "BadName" "SnatchError" true, .exm "BadVerse" "BadBook" false, .exm "BadVerse" "BadVerse" true, .exm "Full" "Alike" false, .exm "Full" "BadBook" false, .exm "Full" "BadVerse" false, .exm "Full" "SnatchError" true, .exm "Taken" "Alike" false, .exm "Taken" "BadBook" false, .exm "Taken" "BadVerse" false, .exm "Taken" "SnatchError" true, .cls "Book", .glo "Book", .noat "Book" "lines", .cls "Hall", .glo "Hall", .noat "Hall" "shelf", .noat "Hall" "floor", .noat "Hall" "done", .noat "Hall" "undone", .glo "_law_numbers", .glo "_law_same", .glo "is_syllable", .glo "is_verse", .glo "begins", .glo "alike", .glo "need_verses", .meth "Book" "__init__"] : List He.Fa) ++ ([.meth "Book" "many", .meth "Book" "verse", .meth "Book" "verses", .glo "_law_sound", .glo "_law_pool", .glo "_law_alike", .glo "_law_verse", .glo "_law_wide", .glo "_law_book", .glo "_law_book_told", .glo "_law_is_line", .glo "_law_book_bad", .glo "_law_spoilt_book", .glo "_law_copy", .glo "need_new", .glo "copied_rows", .glo "copied_deed", .meth "Hall" "__init__", .meth "Hall" "books", .meth "Hall" "book", .meth "Hall" "become", .meth "Hall" "shelve", .meth "Hall" "deeds", .glo "_law_why_shelf", .glo "_law_name", .glo "law", .mkr "Book", .mkr "Hall"] : List He.Fa)
def fn_ : List He.DefD := ([dd_BadVersed__initd_, dd_Aliked__initd_, dd__law_numbers, dd__law_same, dd_is_syllable, dd_is_verse, dd_begins, dd_alike, dd_need_verses, dd_Bookd__initd_, dd_Book_many, dd_Book_verse, dd_Book_verses, dd__law_sound, dd__law_pool, dd__law_alike, dd__law_verse, dd__law_wide, dd__law_book, dd__law_book_told, dd__law_is_line, dd__law_book_bad, dd__law_spoilt_book, dd__law_copy, dd_need_new, dd_copied_rows, dd_copied_deed, dd_Halld__initd_, dd_Hall_books, dd_Hall_book, dd_Hall_become, dd_Hall_shelve, dd_Hall_deeds, dd__law_why_shelf, dd__law_name, dd_law] : List He.DefD)
def tf_ : List He.Defn := []
def ex_ (K : PySem.W.Frag) : Bool := (xiB K "BadVerse" && (xiB K "Alike" && (xfB K "Alike" && (xfB K "BadVerse" && true))))
def nm_ : List PySem.Str := ([("_wall" : PySem.Str), ("SnatchError" : PySem.Str), ("BadBook" : PySem.Str), ("NoVerse" : PySem.Str), ("BadDeal" : PySem.Str), ("NoField" : PySem.Str), ("NoCard" : PySem.Str), ("NoPlace" : PySem.Str), ("Full" : PySem.Str), ("NoSide" : PySem.Str), ("ReadAlready" : PySem.Str), ("NotRead" : PySem.Str), ("NotDue" : PySem.Str), ("Reading" : PySem.Str), ("AllSaid" : PySem.Str), ("TooEarly" : PySem.Str), ("GiftDue" : PySem.Str), ("Over" : PySem.Str), ("BadName" : PySem.Str), ("Taken" : PySem.Str), ("NoBook" : PySem.Str), ("NoTable" : PySem.Str), ("BadVerse" : PySem.Str), ("Alike" : PySem.Str), ("LETTERS_books" : PySem.Str), ("MOST_VERSES" : PySem.Str), ("MOST_SYLLABLES" : PySem.Str), ("MOST_SIGNS_books" : PySem.Str), ("is_syllable" : PySem.Str), ("is_verse" : PySem.Str), ("begins" : PySem.Str), ("alike" : PySem.Str), ("need_verses" : PySem.Str), ("Book" : PySem.Str), ("need_numbers" : PySem.Str), ("MOST_ROWS" : PySem.Str), ("MOST_CARDS" : PySem.Str), ("need_field" : PySem.Str), ("places_of" : PySem.Str), ("copied" : PySem.Str)] : List PySem.Str) ++ ([("Deal" : PySem.Str), ("reading_deed" : PySem.Str), ("card_deed" : PySem.Str), ("play" : PySem.Str), ("copied_rows" : PySem.Str), ("copied_deed" : PySem.Str), ("is_fault" : PySem.Str), ("is_taken" : PySem.Str), ("need_side" : PySem.Str), ("one_more" : PySem.Str), ("Table" : PySem.Str), ("LETTERS_hall" : PySem.Str), ("MOST_NAMED" : PySem.Str), ("MOST_SIGNS_hall" : PySem.Str), ("need_new" : PySem.Str), ("Hall" : PySem.Str), ("_law_numbers" : PySem.Str), ("_law_same" : PySem.Str), ("_law_sound" : PySem.Str), ("_law_pool" : PySem.Str), ("_law_alike" : PySem.Str), ("_law_verse" : PySem.Str), ("_law_wide" : PySem.Str), ("_law_book" : PySem.Str), ("_law_copy" : PySem.Str), ("_law_book_told" : PySem.Str), ("_law_is_line" : PySem.Str), ("_law_book_bad" : PySem.Str), ("_law_spoilt_book" : PySem.Str), ("_law_name" : PySem.Str), ("_law_why_shelf" : PySem.Str)] : List PySem.Str)
abbrev R_ : PySem.W.OpenRow := PySem.W.OpenLaw.row PySem.Challenge.rw_kimariji_k63_books_refused_at_a_hall
abbrev hk_ : PySem.W.Hook := hookY 4 fa_ fn_ [] tf_ ex_
def ob_ (s : PySem.W.SharedT) : He.AlX := obsYF 4 fa_ fn_ [] tf_ ex_ (HandSHeadRun.getT s)
theorem ob_eq (s : PySem.W.SharedT) : ob_ s = hk_.obs s.abs := obsYF_at _ _ _ _ _ _ (HandSHeadRun.getT_eq s)
theorem run_ (w : World) : HandSHeadRun.RunEq R_ (PySem.W.view R_.prog [79]) hk_ ob_ 12000 nm_ w := by
  intro os
  kernel_rfl
local macro_rules | `(tactic| wtm_at "sq") => `(tactic| first
  | assumption
  | exact sq_of (by assumption)
  | exact st_of (by assumption)
  | exact sq_of (Own.at (j := 0) (by assumption) (by rfl))
  | exact sq_of (Own.at (j := 1) (by assumption) (by rfl))
  | exact sq_of (Own.at (j := 2) (by assumption) (by rfl))
  | exact sq_of (Own.at (j := 3) (by assumption) (by rfl))
  | exact st_of (Own.at (j := 0) (by assumption) (by rfl))
  | exact st_of (Own.at (j := 1) (by assumption) (by rfl))
  | exact st_of (Own.at (j := 2) (by assumption) (by rfl))
  | exact st_of (Own.at (j := 3) (by assumption) (by rfl))
  | exact ex_l (Own.e0 (by assumption)) (by assumption)
  | exact ex_l (Own.e1 (by assumption)) (by assumption)
  | exact ex_l (Own.e2 (by assumption)) (by assumption)
  | exact ex_l (Own.e3 (by assumption)) (by assumption)
  | exact ex_t (Own.e0 (by assumption)) (by assumption)
  | exact ex_t (Own.e1 (by assumption)) (by assumption)
  | exact ex_t (Own.e2 (by assumption)) (by assumption)
  | exact ex_t (Own.e3 (by assumption)) (by assumption)
  | exact dp_mono (Own.e0 (by assumption)) (by assumption)
  | exact dp_mono (Own.e1 (by assumption)) (by assumption)
  | exact dp_mono (Own.e2 (by assumption)) (by assumption)
  | exact dp_mono (Own.e3 (by assumption)) (by assumption)
  | exact dp_mono (Own.e4 (by assumption)) (by assumption))
local macro_rules | `(tactic| wtm_at "side") => `(tactic| first
  | assumption
  | exact cmul_small (by omega) (by omega)
  | (show (0 : Int) < _; first | decide | omega)
  | exact ⟨by decide, by decide⟩
  | exact ⟨by decide, by decide, by decide⟩
  | decide
  | omega)
local macro_rules | `(tactic| wtm_at "rv") => `(tactic| first
  | exact rv_addI
  | exact rv_I0
  | exact rv_eqI
  | exact rv_neI
  | exact rv_eqT
  | exact rv_neT
  | exact rv_isN
  | exact rv_isnN
  | exact rv_sign
  | exact rv_mulI (by wtm_at "side")
  | exact rv_I (by wtm_at "side")
  | exact rv_ixLs (by wtm_at "sq") (by first | assumption | with_reducible rfl | (show atI [_] _ = _; rfl) | (show atI [_, _] _ = _; rfl) | (show atI [_, _, _] _ = _; rfl) | (show atI [_, _, _, _] _ = _; rfl))
  | exact rv_ixTs (by wtm_at "sq") (by first | assumption | with_reducible rfl | (show atI [_] _ = _; rfl) | (show atI [_, _] _ = _; rfl) | (show atI [_, _, _] _ = _; rfl) | (show atI [_, _, _, _] _ = _; rfl))
  | exact rv_ixSs (by wtm_at "side") (by first | assumption | with_reducible rfl | (show atI [_] _ = _; rfl) | (show atI [_, _] _ = _; rfl) | (show atI [_, _, _] _ = _; rfl) | (show atI [_, _, _, _] _ = _; rfl))
  | exact rc_lenL (by wtm_at "sq")
  | exact rc_lenT (by wtm_at "sq")
  | exact rc_lenS (by wtm_at "side")
  | exact rc_abs
  | exact ru_neg
  | assumption)
local macro_rules | `(tactic| wtm_at "ev") => `(tactic| first
  | exact ev_var rfl
  | exact ev_c
  | exact ea_nil
  | exact eo_none
  | (apply eo_some; wtm_at "ev")
  | (apply ea_cons; wtm_at "ev"; wtm_at "ev")
  | (apply et_test; wtm_at "ev")
  | (apply et_B; wtm_at "ev")
  | (apply ev_op; wtm_at "ev"; wtm_at "ev"; wtm_at "rv")
  | (apply ev_un; wtm_at "ev"; wtm_at "rv")
  | (apply ev_cb; wtm_at "ev"; wtm_at "rv")
  | (apply ev_fld; wtm_at "ev"; wtm_at "obj"; wtm_at "obj"; wtm_at "obj"; wtm_at "obj")
  | (apply el_sl'; wtm_at "ev"; wtm_at "ev"; wtm_at "ev"; wtm_at "sq")
  | (apply el_lst; wtm_at "ev"; exact Nat.le_of_ble_eq_true rfl)
  | (apply eu_tup; wtm_at "ev"; exact Nat.le_of_ble_eq_true rfl)
  | (apply ep_l; wtm_at "ev")
  | (apply ep_u; wtm_at "ev")
  | (apply ev_callO; wtm_at "ev"; wtm_at "call")
  | (apply ep_call; wtm_at "ev"; wtm_at "call")
  | (apply ep_v; wtm_at "ev"))
local macro_rules | `(tactic| wtm_at "call") => `(tactic| assumption)
local macro_rules | `(tactic| wtm_at "obj") => `(tactic| first | assumption | rfl)
local macro_rules | `(tactic| wtm_at "vc") => `(tactic| first
  | assumption
  | omega
  | trivial
  | (simp only [rngI_get, rngI2_get, enumI_get, rngI_mem, rngI2_mem, rngI_len, rngI2_len, enumI_len, List.length_nil, List.length_cons, List.length_append, List.length_map, List.length_set, Bool.and_eq_true, Bool.or_eq_true, Bool.or_eq_false_iff, Bool.and_eq_false_iff, Bool.not_eq_true', Bool.not_eq_false', decide_eq_true_eq, decide_eq_false_iff_not, Int.reduceToNat, Nums] at *; omega)
  | (subst_vars; simp only [rngI_get, rngI2_get, enumI_get, rngI_mem, rngI2_mem, rngI_len, rngI2_len, enumI_len, List.length_nil, List.length_cons, List.length_append, List.length_map, List.length_set, Bool.and_eq_true, Bool.or_eq_true, Bool.or_eq_false_iff, Bool.and_eq_false_iff, Bool.not_eq_true', Bool.not_eq_false', decide_eq_true_eq, decide_eq_false_iff_not, Int.reduceToNat, Nums] at *; omega)
  | rfl
  | decide)
abbrev s__law_numbers : Stmt := topS 64
theorem sc__law_numbers : FnScope ["_law_script", "_law_many", "_law_row", "_law_seed", "_law_cell", "_law_rest", "_law_k"] ["_law_script", "_law_many"] (defScope s__law_numbers) := ⟨rfl, rfl, rfl, by decide +kernel, rfl, by decide +kernel, by decide +kernel⟩
set_option hygiene false in
local macro_rules | `(tactic| wtm_at "kjw0") => `(tactic| (
  first | exact hp1 | exact hp2 | exact hp3))
set_option hygiene false in
local macro_rules | `(tactic| wtm_at "kjw1") => `(tactic| (
  subst_vars
  unfold shvH
  rw [hE1]
  rfl))
set_option hygiene false in
local macro_rules | `(tactic| wtm_at "kjw2") => `(tactic| (
  subst_vars
  rw [hE1]
  first | exact whyT_no (by decide +kernel) | exact whyT_b | rfl))
section
variable {P : Program} {w : World} {K : PySem.W.Frag} {mg : Str → Option Value} {base : Heap}
/-- the law's numbers: so many, each from 0 to 9966 -/
def Nums (n : Nat) (ns : List Int) : Prop := ns.length = n ∧ ∀ x ∈ ns, 0 ≤ x ∧ x < 9967
abbrev pNums (n : Nat) : Hp → V → Prop := fun N v => ∃ (p : Addr) (ns : List Int), v = .ref p ∧ N p = some (.lst (ns.map V.int)) ∧ Nums n ns
def R__law_numbers (K : PySem.W.Frag) : Rl := ⟨fun vs H r => ∃ (a : Addr) (ns : List Int) (m : Int), vs = [.ref a, .int m] ∧ SqL K H a (ns.map V.int) ∧ 0 ≤ m ∧ m ≤ 5000 ∧ r = .ok (pNums m.toNat), fun e ⟨a, ns, m, h1, h2, h3⟩ => ⟨a, ns, m, h1, ex_l e h2, h3⟩⟩
/-- the row so far -/
structure Row (n : Nat) (ns : List Int) : Prop where
  len : ns.length ≤ n
  all : ∀ x ∈ ns, 0 ≤ x ∧ x < 9967
theorem Row.add {n : Nat} {ns : List Int} {x : Int} (h : Row n ns) (hx : 0 ≤ x ∧ x < 9967) : Row (n + 1) (ns ++ [x]) :=
  ⟨by rw [List.length_append, List.length_singleton]; have := h.len; omega, fun y hy => by
    rcases List.mem_append.mp hy with h1 | h1
    · exact h.all y h1
    · rw [List.mem_singleton.mp h1]; exact hx⟩
theorem Row.mono {n m : Nat} {ns : List Int} (h : Row n ns) (l : n ≤ m) : Row m ns := ⟨Nat.le_trans h.len l, h.all⟩
theorem mapI_add (ns : List Int) (x : Int) : ns.map V.int ++ [V.int x] = (ns ++ [x]).map V.int := by rw [List.map_append]; rfl
theorem ok__law_numbers (B : Bt mg) (D : Df K mg "_law_numbers" s__law_numbers ["_law_script", "_law_many"]) : Ok P w K mg base 1 "_law_numbers" ["_law_script", "_law_many"] ((R__law_numbers K).sp mg) := by
  refine D.ok sc__law_numbers (fun vs H Q E h => ?_) (fun f cdv A outer s H vs Q E hr h => ?_)
  · obtain ⟨r, ⟨a, ns, m, rfl, _⟩, _⟩ := h
    rfl
  · obtain ⟨r, ⟨a, ns, m, rfl, hS, h0, hm, rfl⟩, k⟩ := h
    refine ⟨_, (pss_cons (ps_set (i := 2) sc__law_numbers.nd rfl (.inl rfl) (pe_lst pa_nil))
      (pss_cons (ps_set (i := 3) sc__law_numbers.nd rfl (.inl rfl) pe_int)
      (pss_cons (ps_for (passes_of rfl) rfl (pi_listK K (pe_slice (sl_K K) (pv 0) po_none (po_some pe_int))) (pg_name (i := 4) sc__law_numbers.nd rfl (.inl rfl))
        (pss_cons (ps_set (i := 3) sc__law_numbers.nd rfl (.inl rfl) (pe_op op_mod (pe_op (op_addK K) (pe_op (op_addK K) (pe_op op_mulU (pv 3) pe_int) (pe_op op_mod (pv 4) pe_int)) pe_int) pe_int))
        (pss_cons (ps_set (i := 5) sc__law_numbers.nd rfl (.inl rfl) (pe_op op_sub (pv 4) (pe_op op_pow pe_int pe_int)))
        (Evl.pss_cut (ps_if (pt_cmpR op_lt (pv 5) pe_int (nomark _))
          (pss_one (ps_expr (pe_bmK K PySem.F.plainAttrs_list PySem.F.slot_list_append PySem.F.type_list_append mt_append (pv 2) (pa_cons (pe_op op_mod (pv 4) pe_int) pa_nil))))
          pss_nil)
        (pss_one (ps_for (passes_of rfl) rfl (pi_range1 (by rfl) B.range (pa_cons pe_int pa_nil)) (pg_name (i := 6) sc__law_numbers.nd rfl (.inl rfl))
          (pss_one (ps_if (pt_cmpR op_gt (pv 5) pe_int (nomark _))
            (pss_cons (ps_expr (pe_bmK K PySem.F.plainAttrs_list PySem.F.slot_list_append PySem.F.type_list_append mt_append (pv 2) (pa_cons (pe_op op_mod (pv 5) pe_int) pa_nil)))
            (pss_one (ps_set (i := 5) sc__law_numbers.nd rfl (.inl rfl) (pe_op op_fdiv (pv 5) pe_int))))
            pss_nil))))))))
      (pss_cons (ps_while (passes_of rfl) (pt_cmpR op_lt (pe_callB (call_lenK K) (by rfl) B.len boot_b_len (pa_cons (pv 2) pa_nil)) (pv 1) (nomark _))
        (pss_cons (ps_set (i := 3) sc__law_numbers.nd rfl (.inl rfl) (pe_op op_mod (pe_op (op_addK K) (pe_op (op_addK K) (pe_op (op_addK K) (pe_op op_mulU (pv 3) (pv 3)) (pe_op op_mulU pe_int (pv 3))) (pe_op op_mulU pe_int (pe_callB (call_lenK K) (by rfl) B.len boot_b_len (pa_cons (pv 2) pa_nil)))) pe_int) pe_int))
        (pss_one (ps_expr (pe_bmK K PySem.F.plainAttrs_list PySem.F.slot_list_append PySem.F.type_list_append mt_append (pv 2) (pa_cons (pe_op op_mod (pe_op op_fdiv (pv 3) pe_int) pe_int) pa_nil))))))
      (pss_one (ps_ret (pe_slice (sl_K K) (pv 2) po_none (po_some (pv 1))))))))), ?_⟩
    refine q_l (Own.one H) (by wtm_at "ev") fun l H1 o => ?_
    refine q_v o (by wtm_at "ev") fun H1 o => ?_
    refine q_fn o (by wtm_at "ev") (fun i p σ H' => ∃ xs seed y4 y5 y6, σ = [some (.ref a), some (.int m), some (.ref l), some (.int seed), y4, y5, y6] ∧ Own [sing p (.lst (cutV (ns.map V.int) none (some 63))), sing l (.lst (xs.map V.int)), H] H' ∧ Row (61 * i) xs ∧ 0 ≤ seed ∧ seed < 4294967296)
      (fun p H1 o => ⟨[], 41, _, _, _, rfl, o, ⟨Nat.zero_le _, fun _ h => nomatch h⟩, by decide, by decide⟩) (fun i p σ H' _ ⟨xs, seed, y4, y5, y6, _, o, _⟩ => o.at (j := 0) rfl) ?_ ?_
    · rintro i p x σ H' hx ⟨xs, seed, y4, y5, y6, rfl, o, hrow, hs1, hs2⟩
      have e63 : cutV (ns.map V.int) none (some 63) = (ns.map V.int).take 63 := cutV_take 63
      rw [e63] at hx
      have hi : i < 63 := by
        have := (List.getElem?_eq_some_iff.mp hx).1
        rw [List.length_take] at this
        omega
      obtain ⟨c, rfl⟩ : ∃ c, x = V.int c := by
        rw [List.getElem?_take, if_pos hi, List.getElem?_map] at hx
        cases e : ns[i]? with
        | none => rw [e] at hx; cases hx
        | some u => rw [e] at hx; exact ⟨u, (Option.some.inj hx).symm⟩
      have hl := hrow.len
      refine q_v o (by wtm_at "ev") fun H1 o => ?_
      refine q_v o (by wtm_at "ev") fun H1 o => ?_
      generalize hsd : ((seed * 40014 + c % 999983 + 17) % 2147483563) = seed'
      have hs1' : 0 ≤ seed' := by omega
      have hs2' : seed' < 4294967296 := by omega
      generalize (c - 10 ^ (18 : Int).toNat) = rest
      -- if rest < 0: row.append(cell % 9967)
      refine q_cut (M := fun σ H' => ∃ xs, σ = [some (.ref a), some (.int m), some (.ref l), some (.int seed'), some (.int c), some (.int rest), y6] ∧ Own [sing p (.lst (cutV (ns.map V.int) none (some 63))), sing l (.lst (xs.map V.int)), H] H' ∧ Row (61 * i + 1) xs) ?_ ?_
      · refine s_wh o (by wtm_at "ev") (fun hb H1 o => ?_) (fun hb H1 o => ?_)
        · refine s_app (j := 1) o rfl (by wtm_at "ev") (by wtm_at "ev") (by rw [List.length_map]; omega) fun H1 o => ?_
          rw [mapI_add] at o
          exact ⟨_, rfl, o, hrow.add (by omega)⟩
        · exact ⟨xs, rfl, o, hrow.mono (by omega)⟩
      · rintro σ H2 ⟨xs, rfl, o, hrow⟩
        refine s_rg o (by wtm_at "ev") (by decide) (fun j σ H' => ∃ xs rest y6, σ = [some (.ref a), some (.int m), some (.ref l), some (.int seed'), some (.int c), some (.int rest), y6] ∧ Own [sing p (.lst (cutV (ns.map V.int) none (some 63))), sing l (.lst (xs.map V.int)), H] H' ∧ Row (61 * i + 1 + j) xs)
          (fun H1 o => ⟨xs, rest, y6, rfl, o, hrow⟩) ?_ ?_
        · rintro j σ H' hj ⟨xs, rest, y6, rfl, o, hrow⟩
          have hl := hrow.len
          refine s_wh o (by wtm_at "ev") (fun hb H1 o => ?_) (fun hb H1 o => ?_)
          · refine q_app (j := 1) o rfl (by wtm_at "ev") (by wtm_at "ev") (by rw [List.length_map]; omega) fun H1 o => ?_
            rw [mapI_add] at o
            refine s_v o (by wtm_at "ev") fun H1 o => ?_
            exact ⟨_, _, _, rfl, o, hrow.add (by omega)⟩
          · exact ⟨xs, rest, _, rfl, o, hrow.mono (by omega)⟩
        · rintro σ H' ⟨xs, rest, y6, rfl, o, hrow⟩
          exact ⟨xs, seed', _, _, _, rfl, o, hrow.mono (by show 61 * i + 1 + 60 ≤ 61 * (i + 1); omega), hs1', hs2'⟩
    · rintro p σ H' ⟨xs, seed, y4, y5, y6, rfl, o, hrow, hs1, hs2⟩
      have hl : xs.length ≤ 3843 := by
        have h1 := hrow.len
        have h2 : (cutV (ns.map V.int) none (some 63)).length ≤ 63 := by
          rw [show cutV (ns.map V.int) none (some 63) = (ns.map V.int).take 63 from cutV_take 63, List.length_take]
          omega
        omega
      refine q_wl (fun q σ H' => ∃ xs seed, σ = [some (.ref a), some (.int m), some (.ref l), some (.int seed), y4, y5, y6] ∧ Own [sing p (.lst (cutV (ns.map V.int) none (some 63))), sing l (.lst (xs.map V.int)), H] H' ∧ Row 10000 xs ∧ 0 ≤ seed ∧ seed < 4294967296 ∧ q = 5000 - xs.length ∧ xs.length ≤ 5000) (5000 - xs.length) ⟨xs, seed, rfl, o, ⟨by omega, hrow.all⟩, hs1, hs2, rfl, by omega⟩ ?_
      rintro q σ H' ⟨xs, seed, rfl, o, hrow, hs1, hs2, hq, hl5⟩
      refine ⟨_, by wtm_at "ev", fun hb H1 e => ?_, fun hb H1 e => ?_⟩
      · have o := o.mono e
        have hb : ((xs.map V.int).length : Int) < m := of_decide_eq_true hb
        rw [List.length_map] at hb
        have hlm : (xs.map V.int).length = xs.length := List.length_map ..
        refine q_v o (by wtm_at "ev") fun H1 o => ?_
        have hs3 : 0 ≤ (seed * seed + 52774 * seed + 11 * (((xs.map V.int).length : Nat) : Int) + 3) % 2147483629 := Int.emod_nonneg _ (by decide)
        have hs4 : (seed * seed + 52774 * seed + 11 * (((xs.map V.int).length : Nat) : Int) + 3) % 2147483629 < 2147483629 := Int.emod_lt_of_pos _ (by decide)
        generalize ((seed * seed + 52774 * seed + 11 * (((xs.map V.int).length : Nat) : Int) + 3) % 2147483629) = seed' at hs3 hs4 ⊢
        refine s_app (j := 1) o rfl (by wtm_at "ev") (by wtm_at "ev") (by rw [List.length_map]; omega) fun H1 o => ?_
        rw [mapI_add] at o
        refine ⟨5000 - (xs.length + 1), by omega, _, _, rfl, o, ⟨?_, (hrow.add (by omega)).all⟩, hs3, by omega, ?_, ?_⟩
        · rw [List.length_append, List.length_singleton]; omega
        · rw [List.length_append, List.length_singleton]
        · rw [List.length_append, List.length_singleton]; omega
      · have hb : ¬ ((xs.map V.int).length : Int) < m := of_decide_eq_false hb
        rw [List.length_map] at hb
        obtain ⟨n, rfl⟩ : ∃ n : Nat, m = n := ⟨m.toNat, by omega⟩
        have o := o.mono e
        refine s_rn o (ep_l (by wtm_at "ev")) fun v H1 N o hp => o.ret k (i := 0) (j := 3) rfl rfl ?_
        obtain ⟨q, rfl, hp⟩ := hp
        rw [cutV_take, ← List.map_take] at hp
        refine ⟨q, xs.take n, rfl, hp, ?_, fun x hx => hrow.all x (List.mem_of_mem_take hx)⟩
        rw [List.length_take]
        omega
end
abbrev s__law_same : Stmt := topS 65
theorem sc__law_same : FnScope ["_law_found", "_law_due", "_law_one", "_law_other"] ["_law_found", "_law_due"] (defScope s__law_same) := ⟨rfl, rfl, rfl, by decide +kernel, rfl, by decide +kernel, by decide +kernel⟩
section
variable {P : Program} {w : World} {K : PySem.W.Frag} {mg : Str → Option Value} {base : Heap}
/-- two of the same data are found the same -/
def R__law_same (K : PySem.W.Frag) (n : Nat) : Rl := ⟨fun vs H r => ∃ (x y : V) (d : PyData), vs = [x, y] ∧ Dp K H x d ∧ Dp K H y d ∧ smD d ∧ d.depth < n ∧ r = .ok (is (.bl true)), fun e ⟨x, y, d, h1, h2, h3, h4⟩ => ⟨x, y, d, h1, dp_mono e h2, dp_mono e h3, h4⟩⟩
theorem Df.none {x : Str} {st : Stmt} {ps : List Str} {N : List Str} {S : Rl} (D : Df K mg x st ps) (sc : FnScope N ps (defScope st)) (h : ∀ vs H r, ¬ S.R vs H r) : Ok P w K mg base 0 x ps (S.sp mg) := by
  obtain ⟨f, fd, g, F, b⟩ := D.ex
  obtain ⟨oc, od, kV, doc, pm, an, cdv, ct, osl, hfd, lk, hcd⟩ := F.ex
  exact ⟨f, fd, g, F.kp, b, ⟨fun vs H Q E ⟨r, hr, _⟩ => absurd hr (h vs H r), fun _ _ _ _ _ _ _ _ _ _ _ _ _ ⟨r, hr, _⟩ => absurd hr (h _ _ r)⟩, oc, od, osl, lk⟩
theorem ok__law_same (B : Bt mg) (D : Df K mg "_law_same" s__law_same ["_law_found", "_law_due"]) : ∀ n, Ok P w K mg base n "_law_same" ["_law_found", "_law_due"] ((R__law_same K n).sp mg)
  | 0 => D.none sc__law_same fun vs H r ⟨_, _, d, _, _, _, _, h, _⟩ => absurd h (Nat.not_lt_zero _)
  | n + 1 => by
    have O__law_same := ok__law_same B D n
    refine D.ok sc__law_same (fun vs H Q E h => ?_) (fun f cdv A outer s H vs Q E hr h => ?_)
    · obtain ⟨r, ⟨x, y, d, rfl, _⟩, _⟩ := h
      rfl
    · obtain ⟨r, ⟨x, y, d, rfl, hx, hy, hsm, hd, rfl⟩, k⟩ := h
      refine ⟨_, (pss_cons (ps_if (pt_cmpR op_isN (pv 1) pe_non (nomark _))
        (pss_one (ps_ret (pe_cmpR op_isN (pv 0) pe_non (nomark _))))
        pss_nil)
      (pss_cons (ps_if (pt_val (pe_callB (call_isiK' K) (by rfl) B.isinstance boot_b_isinstance (pa_cons (pv 1) (pa_cons (pe_tup (pa_cons (pe_bltn (v := .ty "list") (by rfl) B.list boot_ty_list rfl) (pa_cons (pe_bltn (v := .ty "tuple") (by rfl) B.tuple boot_ty_tuple rfl) pa_nil))) pa_nil))))
        (pss_cons (ps_if (PW.pt (pw_or (pt_cmpR (op_neK K (hu65 hr)) (pe_callB (call_isiK' K) (by rfl) B.isinstance boot_b_isinstance (pa_cons (pv 0) (pa_cons (pe_bltn (v := .ty "list") (by rfl) B.list boot_ty_list rfl) pa_nil))) (pe_callB (call_isiK' K) (by rfl) B.isinstance boot_b_isinstance (pa_cons (pv 1) (pa_cons (pe_bltn (v := .ty "list") (by rfl) B.list boot_ty_list rfl) pa_nil))) (nomark _)) (pw_or1 (pt_cmpR (op_neK K (hu65 hr)) (pe_callB (call_isiK' K) (by rfl) B.isinstance boot_b_isinstance (pa_cons (pv 0) (pa_cons (pe_bltn (v := .ty "tuple") (by rfl) B.tuple boot_ty_tuple rfl) pa_nil))) (pe_callB (call_isiK' K) (by rfl) B.isinstance boot_b_isinstance (pa_cons (pv 1) (pa_cons (pe_bltn (v := .ty "tuple") (by rfl) B.tuple boot_ty_tuple rfl) pa_nil))) (nomark _)))))
          (pss_one (ps_ret pe_bl))
          pss_nil)
        (pss_one (ps_ret (pe_and (pe_cmpR (op_eqK K (hu65 hr)) (pe_callB (call_lenK K) (by rfl) B.len boot_b_len (pa_cons (pv 0) pa_nil)) (pe_callB (call_lenK K) (by rfl) B.len boot_b_len (pa_cons (pv 1) pa_nil)) (nomark _)) (pe_one (pe_callB (cr_allK K rfl) (by rfl) B.all boot_b_all (pa_cons (pe_lc (own := [("_law_one", 2), ("_law_other", 3)]) rfl sc__law_same.nd (pi_zipK K (by rfl) B.zip (pa_cons (pv 0) (pa_cons (pv 1) pa_nil))) (blkOk_by (N := ["_law_found", "_law_due", "_law_one", "_law_other"]) (sc := defScope s__law_same) (by decide +kernel)) (fun _ _ _ _ _ => (pg_tupK K (n := 2) rfl (pgs_cons (pg_name (i := 2) sc__law_same.nd rfl (.inl rfl)) (pgs_cons (pg_name (i := 3) sc__law_same.nd rfl (.inl rfl)) pgs_nil)))) (fun _ _ _ _ _ => pts_nil) (fun _ _ _ _ _ => (pe_callO O__law_same (hr.mono (by omega)) (by rfl) takes0 (pa_cons (pv 2) (pa_cons (pv 3) pa_nil))))) pa_nil)))))))
        pss_nil)
      (pss_cons (ps_if (PW.pt (pw_or (pt_cmpR (op_neK K (hu65 hr)) (pe_callB (call_isiK' K) (by rfl) B.isinstance boot_b_isinstance (pa_cons (pv 0) (pa_cons (pe_bltn (v := .ty "bool") (by rfl) B.bool boot_ty_bool rfl) pa_nil))) (pe_callB (call_isiK' K) (by rfl) B.isinstance boot_b_isinstance (pa_cons (pv 1) (pa_cons (pe_bltn (v := .ty "bool") (by rfl) B.bool boot_ty_bool rfl) pa_nil))) (nomark _)) (pw_or1 (pt_cmpR (op_neK K (hu65 hr)) (pe_callB (call_isiK' K) (by rfl) B.isinstance boot_b_isinstance (pa_cons (pv 0) (pa_cons (pe_bltn (v := .ty "str") (by rfl) B.str boot_ty_str rfl) pa_nil))) (pe_callB (call_isiK' K) (by rfl) B.isinstance boot_b_isinstance (pa_cons (pv 1) (pa_cons (pe_bltn (v := .ty "str") (by rfl) B.str boot_ty_str rfl) pa_nil))) (nomark _)))))
        (pss_one (ps_ret pe_bl))
        pss_nil)
      (pss_one (ps_ret (pe_and (pe_cmpR (op_eqK K (hu65 hr)) (pe_callB (call_isiK' K) (by rfl) B.isinstance boot_b_isinstance (pa_cons (pv 0) (pa_cons (pe_bltn (v := .ty "int") (by rfl) B.int boot_ty_int rfl) pa_nil))) (pe_callB (call_isiK' K) (by rfl) B.isinstance boot_b_isinstance (pa_cons (pv 1) (pa_cons (pe_bltn (v := .ty "int") (by rfl) B.int boot_ty_int rfl) pa_nil))) (nomark _)) (pe_one (pe_cmpR (op_eqK K (hu65 hr)) (pv 0) (pv 1) (nomark _))))))))), ?_⟩
      refine q_wh (Own.one H) (by wtm_at "ev") (fun hb H1 o => ?_) (fun hb H1 o => ?_)
      · have hb : y = .non := by simpa using hb
        subst hb
        cases hy
        cases hx
        exact s_rv o (by wtm_at "ev") fun H1 o => o.retV k (j := 0) rfl rfl
      · have hb : ¬ y = .non := by simpa using hb
        have hx1 := dp_mono o.e0 hx
        have hy1 := dp_mono o.e0 hy
        -- a list or a tuple; else a number, a text, a bool
        have cls : (∃ (ds : List PyData) (xs ys : List V) (a b : Addr), x = .ref a ∧ y = .ref b ∧ d.depth = PyData.depthAll ds + 1 ∧ DpAll K H xs ds ∧ DpAll K H ys ds ∧ ds.length ≤ 40000 ∧ (∀ z ∈ ds, smD z) ∧ (SqL K H a xs ∧ SqL K H b ys ∧ kindS d = "list" ∨ SqT K H a xs ∧ SqT K H b ys ∧ kindS d = "tuple")) ∨
            ((∃ i, x = .int i ∧ y = .int i ∧ kindS d = "int") ∨ (∃ i, x = .str i ∧ y = .str i ∧ kindS d = "str") ∨ ∃ i, x = .bl i ∧ y = .bl i ∧ kindS d = "bool") := by
          cases hx with
          | non => cases hy; exact absurd rfl hb
          | bl i => cases hy; exact .inr (.inr (.inr ⟨i, rfl, rfl, rfl⟩))
          | int i => cases hy; exact .inr (.inl ⟨i, rfl, rfl, rfl⟩)
          | str i => cases hy; exact .inr (.inr (.inl ⟨i, rfl, rfl, rfl⟩))
          | lst h1 h2 =>
            cases hy with
            | lst h3 h4 => exact .inl ⟨_, _, _, _, _, rfl, rfl, by simp only [PyData.depth], h2, h4, (smD_list.mp hsm).1, (smD_list.mp hsm).2, .inl ⟨h1, h3, rfl⟩⟩
          | tup h1 h2 =>
            cases hy with
            | tup h3 h4 => exact .inl ⟨_, _, _, _, _, rfl, rfl, by simp only [PyData.depth], h2, h4, (smD_tuple.mp hsm).1, (smD_tuple.mp hsm).2, .inr ⟨h1, h3, rfl⟩⟩
        rcases cls with ⟨ds, xs, ys, a, b, ex, ey, hdd, ha, hb2, hl40, hsa, hq⟩ | sc
        · subst ex ey
          have kd : ∃ b1 b2, kitB (kindS d) "list" = some b1 ∧ kitB (kindS d) "tuple" = some b2 ∧ (b1 || b2) = true := by
            rcases hq with ⟨_, _, e⟩ | ⟨_, _, e⟩
            · rw [e]; exact ⟨true, false, by decide +kernel, by decide +kernel, rfl⟩
            · rw [e]; exact ⟨false, true, by decide +kernel, by decide +kernel, rfl⟩
          obtain ⟨b1, b2, k1, k2, k12⟩ := kd
          have lx := dpa_len ha
          have ly := dpa_len hb2
          refine q_fi (b := true) o (et_is (et_B (ev_isi2 (ev_var rfl) hy1 k1 k2)) k12) (fun _ H1 o => ?_) (fun h => nomatch h)
          have hx1 := dp_mono o.e0 hx
          have hy1 := dp_mono o.e0 hy
          refine q_wh (b := false) o (et_is (et_or (et_test (ev_op (ev_isi (ev_var rfl) hx1 k1) (ev_isi (ev_var rfl) hy1 k1) (rv_neS (by cases b1 <;> rfl)))) fun _ => et_test (ev_op (ev_isi (ev_var rfl) hx1 k2) (ev_isi (ev_var rfl) hy1 k2) (rv_neS (by cases b2 <;> rfl)))) (by simp)) (fun h => nomatch h) (fun _ H1 o => ?_)
          have EZ : EvI (RZ.iZipA K (tCons (tVar 0) (tCons (tVar 1) tNil))) [some (.ref a), some (.ref b), none, none] H1 H1 xs.length (fun i x H' => ∃ T y z, x = .ref T ∧ H' T = some (.tup [y, z]) ∧ xs[i]? = some y ∧ ys[i]? = some z) := by
            rcases hq with ⟨q1, q2, _⟩ | ⟨q1, q2, _⟩
            · exact ei_zip (by wtm_at "ev") (ex_l o.e0 q1) (ex_l o.e0 q2) (by omega) (Ex.refl _)
            · exact ei_zipT (by wtm_at "ev") (ex_t o.e0 q1) (ex_t o.e0 q2) (by omega) (Ex.refl _)
          have LX : RC (rLenU K) [.ref a] H1 (.int (xs.length : Int)) ∧ RC (rLenU K) [.ref b] H1 (.int (ys.length : Int)) := by
            rcases hq with ⟨q1, q2, _⟩ | ⟨q1, q2, _⟩
            · exact ⟨rc_lenL (ex_l o.e0 q1), rc_lenL (ex_l o.e0 q2)⟩
            · exact ⟨rc_lenT (ex_t o.e0 q1), rc_lenT (ex_t o.e0 q2)⟩
          refine s_rv o (v := .bl true) (ev_is (ev_andV (b := true) (ev_op (ev_cb (by wtm_at "ev") LX.1) (ev_cb (by wtm_at "ev") LX.2) rv_eqI) fun _ => ev_cb1 (ep_l (el_lc (fun i => [some (.ref a), some (.ref b), xs[i]?.map id, ys[i]?.map id]) (fun _ => true) (fun _ => .bl true) EZ (Ex.refl _) (by omega) ?_ ?_ ?_ ?_)) (fun v N H2 e2 i2 ⟨p, ev, hp⟩ => ?_)) ?_) fun H1 o => o.retV k (j := 0) rfl rfl
          · rintro i x H' hi ⟨T, y, z, rfl, hT, g1, g2⟩ Q hQ
            refine ⟨T, [y, z], rfl, st_of hT, rfl, y, [z], rfl, z, [], rfl, rfl, ?_⟩
            rw [g1, g2] at hQ
            exact hQ
          · intro i hi
            rfl
          · intro i H2 e2 hi H3 e3 Q q
            exact q H3 (Ex.refl _)
          · intro i H2 e2 hi _
            obtain ⟨y, hy2⟩ : ∃ y, xs[i]? = some y := ⟨_, List.getElem?_eq_getElem hi⟩
            obtain ⟨z, hz2⟩ : ∃ z, ys[i]? = some z := ⟨_, List.getElem?_eq_getElem (by omega)⟩
            obtain ⟨d1, g1, p1⟩ := dpa_get ha hy2
            obtain ⟨d2, g2, p2⟩ := dpa_get hb2 hz2
            rw [g1] at g2
            cases g2
            have dl := depthAll_get g1
            refine ev_callO (vs := [y, z]) (ea_cons (ev_var (by rw [hy2]; rfl)) (ea_cons (ev_var (by rw [hz2]; rfl)) ea_nil)) ⟨y, z, d1, rfl, dp_mono (o.e0.trans e2) p1, dp_mono (o.e0.trans e2) p2, hsa _ (List.mem_of_getElem? g1), by omega, rfl⟩
          · subst ev
            have hp : N p = some (.lst (((picks xs.length fun _ => true).map fun _ => true).map V.bl)) := by
              rw [hp, List.map_map]
              rfl
            have z := rc_all (K := K) (sq_of (i2 _ _ hp))
            rw [all_true] at z
            exact z
          · rw [lx, ly]
            simp
        · have kd : x = y ∧ scal x y = true ∧ kitB (kindS d) "list" = some false ∧ kitB (kindS d) "tuple" = some false ∧ ∃ b3 b4 b5, kitB (kindS d) "bool" = some b3 ∧ kitB (kindS d) "str" = some b4 ∧ kitB (kindS d) "int" = some b5 := by
            rcases sc with ⟨i, rfl, rfl, e⟩ | ⟨i, rfl, rfl, e⟩ | ⟨i, rfl, rfl, e⟩
            · rw [e]; exact ⟨rfl, rfl, by decide +kernel, by decide +kernel, false, false, true, by decide +kernel, by decide +kernel, by decide +kernel⟩
            · rw [e]; exact ⟨rfl, rfl, by decide +kernel, by decide +kernel, false, true, false, by decide +kernel, by decide +kernel, by decide +kernel⟩
            · rw [e]; exact ⟨rfl, rfl, by decide +kernel, by decide +kernel, true, false, true, by decide +kernel, by decide +kernel, by decide +kernel⟩
          obtain ⟨rfl, hsc, k1, k2, b3, b4, b5, k3, k4, k5⟩ := kd
          refine q_wh (b := false) o (et_is (et_B (ev_isi2 (ev_var rfl) hy1 k1 k2)) rfl) (fun h => nomatch h) (fun _ H1 o => ?_)
          have hx1 := dp_mono o.e0 hx
          refine q_wh (b := false) o (et_is (et_or (et_test (ev_op (ev_isi (ev_var rfl) hx1 k3) (ev_isi (ev_var rfl) hx1 k3) (rv_neS (by cases b3 <;> rfl)))) fun _ => et_test (ev_op (ev_isi (ev_var rfl) hx1 k4) (ev_isi (ev_var rfl) hx1 k4) (rv_neS (by cases b4 <;> rfl)))) (by simp)) (fun h => nomatch h) (fun _ H1 o => ?_)
          have hx1 := dp_mono o.e0 hx
          exact s_rv o (v := .bl true) (ev_is (ev_andV (ev_op (ev_isi (ev_var rfl) hx1 k5) (ev_isi (ev_var rfl) hx1 k5) (rv_eqS (by cases b5 <;> rfl))) fun _ => ev_op (ev_var rfl) (ev_var rfl) (rv_eqS hsc)) (by simp)) fun H1 o => o.retV k (j := 0) rfl rfl
end
abbrev s_is_syllable : Stmt := topS 30
theorem sc_is_syllable : FnScope ["text", "sign"] ["text"] (defScope s_is_syllable) := ⟨rfl, rfl, rfl, by decide +kernel, rfl, by decide +kernel, by decide +kernel⟩
abbrev s_is_verse : Stmt := topS 31
theorem sc_is_verse : FnScope ["line", "text"] ["line"] (defScope s_is_verse) := ⟨rfl, rfl, rfl, by decide +kernel, rfl, by decide +kernel, by decide +kernel⟩
abbrev s_begins : Stmt := topS 32
theorem sc_begins : FnScope ["heard", "line"] ["heard", "line"] (defScope s_begins) := ⟨rfl, rfl, rfl, by decide +kernel, rfl, by decide +kernel, by decide +kernel⟩
abbrev s_alike : Stmt := topS 33
theorem sc_alike : FnScope ["one", "other"] ["one", "other"] (defScope s_alike) := ⟨rfl, rfl, rfl, by decide +kernel, rfl, by decide +kernel, by decide +kernel⟩
section
variable {P : Program} {w : World} {K : PySem.W.Frag} {mg : Str → Option Value} {base : Heap}
/-! ### texts and lists of texts -/
def LT : List Nat := ("abcdefghijklmnopqrstuvwxyz" : Str).cps.toList
def isSyl (s : Str) : Bool := (decide ((1 : Int) ≤ (s.length : Int)) && decide ((s.length : Int) ≤ 3)) && s.cps.toList.all fun c => decide (c ∈ LT)
def isVer (l : List Str) : Bool := (decide ((1 : Int) ≤ (l.length : Int)) && decide ((l.length : Int) ≤ 8)) && l.all isSyl
def begM (h l : List Str) : Bool := decide (l.take h.length = h)
def alikeM (a b : List Str) : Bool := begM a b || begM b a
def R_is_syllable : Rl := ⟨fun vs _ r => ∃ s : Str, vs = [.str s] ∧ s.length ≤ 1000 ∧ r = .ok (is (.bl (isSyl s))), fun _ h => h⟩
def inLT : V → Bool
  | .str s => s.cps.toList.all fun c => decide (c ∈ LT)
  | _ => false
theorem signs_in (z : Str) : (signs z).all inLT = z.cps.toList.all fun c => decide (c ∈ LT) := by
  unfold signs
  rw [List.all_map]
  congr 1
  funext c
  simp [inLT]
theorem ok_is_syllable (B : Bt mg) {t_LETTERS_books t_MOST_SIGNS_books : Tok} (c_LETTERS_books : mg "LETTERS_books" = some (.str "abcdefghijklmnopqrstuvwxyz" t_LETTERS_books)) (c_MOST_SIGNS_books : mg "MOST_SIGNS_books" = some (.int 3 t_MOST_SIGNS_books)) (D : Df K mg "is_syllable" s_is_syllable ["text"]) : Ok P w K mg base 1 "is_syllable" ["text"] (R_is_syllable.sp mg) := by
  refine D.ok sc_is_syllable (fun vs H Q E h => ?_) (fun f cdv A outer s H vs Q E hr h => ?_)
  · obtain ⟨r, ⟨s, rfl, _⟩, _⟩ := h
    rfl
  · obtain ⟨r, ⟨z, rfl, hz, rfl⟩, k⟩ := h
    refine ⟨_, (pss_one (ps_ret (pe_and (pe_chain op_le op_le pe_int (pe_callB (call_lenK K) (by rfl) B.len boot_b_len (pa_cons (pv 0) pa_nil)) (pe_glob (v := .int 3) (by rfl) c_MOST_SIGNS_books ⟨_, rfl⟩)) (pe_one (pe_callB (cr_allK K rfl) (by rfl) B.all boot_b_all (pa_cons (pe_lc (own := [("sign", 1)]) rfl sc_is_syllable.nd (pi_str (pv 0)) (blkOk_by (N := ["text", "sign"]) (sc := defScope s_is_syllable) (by decide +kernel)) (fun _ _ _ _ _ => (pg_name (i := 1) sc_is_syllable.nd rfl (.inl rfl))) (fun _ _ _ _ _ => pts_nil) (fun _ _ _ _ _ => (pe_cmpR (op_inK K (hu65 hr)) (pv 1) (pe_glob (v := .str "abcdefghijklmnopqrstuvwxyz") (by rfl) c_LETTERS_books ⟨_, rfl⟩) (by rfl)))) pa_nil)))))), ?_⟩
    refine s_rv (Own.one H) (ev_is (ev_andV (ev_chain ev_c (ev_cb (by wtm_at "ev") (rc_lenS (by omega))) ev_c) fun _ => ev_allX (fun x => [some (.str z), some x]) inLT (ei_strX (G := H) (ev_var rfl)) (Ex.refl _) (by rw [signs_len]; omega) (fun _ _ _ _ q => q) (fun _ => rfl) ?_) (by rw [signs_in]; rfl)) fun H1 o => o.retV k (j := 0) rfl rfl
    intro x H2 e2 hx
    obtain ⟨c, _, rfl⟩ := List.mem_map.mp hx
    exact ev_is (ev_op (ev_var rfl) ev_c rv_sign) (by simp [inLT, LT])
/-- a list of texts at p -/
def Ln (K : PySem.W.Frag) (H : Hp) (p : Addr) (l : List Str) : Prop := SqL K H p (l.map V.str) ∧ l.length ≤ 1000 ∧ ∀ s ∈ l, TxtOk s
theorem Ln.mono {H H' : Hp} {p : Addr} {l : List Str} (e : Ex H H') (h : Ln K H p l) : Ln K H' p l := ⟨ex_l e h.1, h.2⟩
def R_is_verse (K : PySem.W.Frag) : Rl := ⟨fun vs H r => ∃ (p : Addr) (l : List Str), vs = [.ref p] ∧ Ln K H p l ∧ r = .ok (is (.bl (isVer l))), fun e ⟨p, l, h1, h2, h3⟩ => ⟨p, l, h1, h2.mono e, h3⟩⟩
def sylV : V → Bool
  | .str s => isSyl s
  | _ => false
theorem ok_is_verse (B : Bt mg) {t_MOST_SYLLABLES : Tok} (c_MOST_SYLLABLES : mg "MOST_SYLLABLES" = some (.int 8 t_MOST_SYLLABLES)) (O_is_syllable : Ok P w K mg base 1 "is_syllable" ["text"] (R_is_syllable.sp mg)) (D : Df K mg "is_verse" s_is_verse ["line"]) : Ok P w K mg base 2 "is_verse" ["line"] ((R_is_verse K).sp mg) := by
  refine D.ok sc_is_verse (fun vs H Q E h => ?_) (fun f cdv A outer s H vs Q E hr h => ?_)
  · obtain ⟨r, ⟨p, l, rfl, _⟩, _⟩ := h
    rfl
  · obtain ⟨r, ⟨p, l, rfl, ⟨h1, hl, ht⟩, rfl⟩, k⟩ := h
    refine ⟨_, (pss_one (ps_ret (pe_and (pe_chain op_le op_le pe_int (pe_callB (call_lenK K) (by rfl) B.len boot_b_len (pa_cons (pv 0) pa_nil)) (pe_glob (v := .int 8) (by rfl) c_MOST_SYLLABLES ⟨_, rfl⟩)) (pe_one (pe_callB (cr_allK K rfl) (by rfl) B.all boot_b_all (pa_cons (pe_lc (own := [("text", 1)]) rfl sc_is_verse.nd (pi_listK K (pv 0)) (blkOk_by (N := ["line", "text"]) (sc := defScope s_is_verse) (by decide +kernel)) (fun _ _ _ _ _ => (pg_name (i := 1) sc_is_verse.nd rfl (.inl rfl))) (fun _ _ _ _ _ => pts_nil) (fun _ _ _ _ _ => (pe_callO O_is_syllable (hr.mono (by omega)) (by rfl) takes0 (pa_cons (pv 1) pa_nil)))) pa_nil)))))), ?_⟩
    refine s_rv (Own.one H) (ev_is (ev_andV (ev_chain ev_c (ev_cb (by wtm_at "ev") (rc_lenL h1)) ev_c) fun _ => ev_allX (fun x => [some (.ref p), some x]) sylV (ei_list (ev_var rfl) h1 (Ex.refl _)) (Ex.refl _) (by rw [List.length_map]; omega) (fun _ _ _ _ q => q) (fun _ => rfl) ?_) ?_) fun H1 o => o.retV k (j := 0) rfl rfl
    · intro x H2 e2 hx
      obtain ⟨z, hz, rfl⟩ := List.mem_map.mp hx
      exact ev_callO (S := R_is_syllable) (by wtm_at "ev") ⟨z, rfl, (ht z hz).1, rfl⟩
    · rw [List.length_map, List.all_map]
      rfl
theorem cut_line (l : List Str) (n : Nat) : cutV (l.map V.str) none (some (n : Int)) = (l.take n).map V.str := by rw [cutV_take, List.map_take]
def R_begins (K : PySem.W.Frag) : Rl := ⟨fun vs H r => ∃ (p q : Addr) (h l : List Str), vs = [.ref p, .ref q] ∧ Ln K H p h ∧ Ln K H q l ∧ r = .ok (is (.bl (begM h l))), fun e ⟨p, q, h, l, h1, h2, h3, h4⟩ => ⟨p, q, h, l, h1, h2.mono e, h3.mono e, h4⟩⟩
theorem ok_begins (B : Bt mg) (D : Df K mg "begins" s_begins ["heard", "line"]) : Ok P w K mg base 1 "begins" ["heard", "line"] ((R_begins K).sp mg) := by
  refine D.ok sc_begins (fun vs H Q E h => ?_) (fun f cdv A outer s H vs Q E hr h => ?_)
  · obtain ⟨r, ⟨p, q, h, l, rfl, _⟩, _⟩ := h
    rfl
  · obtain ⟨r, ⟨p, q, h, l, rfl, ⟨h1, hl, ht⟩, ⟨h2, hl2, ht2⟩, rfl⟩, k⟩ := h
    refine ⟨_, (pss_one (ps_ret (pe_cmpR (op_eqK K (hu65 hr)) (pe_slice (sl_K K) (pv 1) po_none (po_some (pe_callB (call_lenK K) (by rfl) B.len boot_b_len (pa_cons (pv 0) pa_nil)))) (pv 0) (nomark _)))), ?_⟩
    refine s_rv (Own.one H) (ev_op1 (ep_l (el_sl' (ev_var rfl) eo_none (eo_some (ev_cb (by wtm_at "ev") (rc_lenL h1))) h2)) (ev_var rfl) ?_) fun H1 o => o.retV k (j := 0) rfl rfl
    rintro v N H1 e i1 ⟨c, rfl, hc⟩
    rw [cut_line, List.length_map] at hc
    have z := rv_eqD (K := K) (H := H1) (dp_line.mpr ⟨c, rfl, sq_of (i1 _ _ hc)⟩) (dp_line.mpr ⟨p, rfl, ex_l e h1⟩) (shaped_line fun s hs => ht2 s (List.mem_of_mem_take hs)) (shaped_line ht)
    rw [eqv_line] at z
    exact z
def R_alike (K : PySem.W.Frag) : Rl := ⟨fun vs H r => ∃ (p q : Addr) (h l : List Str), vs = [.ref p, .ref q] ∧ Ln K H p h ∧ Ln K H q l ∧ r = .ok (is (.bl (alikeM h l))), fun e ⟨p, q, h, l, h1, h2, h3, h4⟩ => ⟨p, q, h, l, h1, h2.mono e, h3.mono e, h4⟩⟩
theorem ok_alike (B : Bt mg) (O_begins : Ok P w K mg base 1 "begins" ["heard", "line"] ((R_begins K).sp mg)) (D : Df K mg "alike" s_alike ["one", "other"]) : Ok P w K mg base 2 "alike" ["one", "other"] ((R_alike K).sp mg) := by
  refine D.ok sc_alike (fun vs H Q E h => ?_) (fun f cdv A outer s H vs Q E hr h => ?_)
  · obtain ⟨r, ⟨p, q, h, l, rfl, _⟩, _⟩ := h
    rfl
  · obtain ⟨r, ⟨p, q, h, l, rfl, h1, h2, rfl⟩, k⟩ := h
    refine ⟨_, (pss_one (ps_ret (pe_or (pe_callO O_begins (hr.mono (by omega)) (by rfl) (takes_of rfl rfl rfl rfl) (pa_cons (pv 0) (pa_cons (pv 1) pa_nil))) (pe_one (pe_callO O_begins (hr.mono (by omega)) (by rfl) (takes_of rfl rfl rfl rfl) (pa_cons (pv 1) (pa_cons (pv 0) pa_nil))))))), ?_⟩
    exact s_rv (Own.one H) (ev_orV (ev_callO (S := R_begins K) (by wtm_at "ev") ⟨p, q, h, l, rfl, h1, h2, rfl⟩) fun _ => ev_callO (S := R_begins K) (by wtm_at "ev") ⟨q, p, l, h, rfl, h2, h1, rfl⟩) fun H1 o => o.retV k (j := 0) rfl rfl
end
abbrev s_BadVersed__initd_ : Stmt := inClass (topS 23) 0
theorem sc_BadVersed__initd_ : FnScope ["self", "row"] ["self", "row"] (defScope s_BadVersed__initd_) := ⟨rfl, rfl, rfl, by decide +kernel, rfl, by decide +kernel, by decide +kernel⟩
abbrev s_Aliked__initd_ : Stmt := inClass (topS 24) 0
theorem sc_Aliked__initd_ : FnScope ["self", "one", "other"] ["self", "one", "other"] (defScope s_Aliked__initd_) := ⟨rfl, rfl, rfl, by decide +kernel, rfl, by decide +kernel, by decide +kernel⟩
abbrev s_need_verses : Stmt := topS 34
theorem sc_need_verses : FnScope ["verses", "row", "line", "other", "one"] ["verses"] (defScope s_need_verses) := ⟨rfl, rfl, rfl, by decide +kernel, rfl, by decide +kernel, by decide +kernel⟩
section
variable {P : Program} {w : World} {K : PySem.W.Frag} {mg : Str → Option Value} {base : Heap}
/-! ### what is refused of rows -/
def row1 (ls : List (List Str)) (i : Nat) : List Str := ls.getD i []
def badRow (ls : List (List Str)) : Option Nat := (List.range ls.length).find? fun i => !isVer (row1 ls i)
def badOne (ls : List (List Str)) (j : Nat) : Option Nat := (List.range j).find? fun i => alikeM (row1 ls i) (row1 ls j)
def badTwo (ls : List (List Str)) : Option Nat := (List.range ls.length).find? fun j => (badOne ls j).isSome
def needM (ls : List (List Str)) : Option (Str × List (Str × V)) :=
  if 1 ≤ ls.length ∧ ls.length ≤ 40 then
    match badRow ls with
    | some i => some ("BadVerse", [("row", .int (i : Nat))])
    | none => match badTwo ls with
      | some j => some ("Alike", [("other", .int (j : Nat)), ("one", .int (((badOne ls j).getD 0 : Nat)))])
      | none => none
  else some ("BadBook", [])
def needR (ls : List (List Str)) (P : Hp → V → Prop) : Res := match needM ls with
  | some (x, fs) => .err x fs
  | none => .ok P
/-- rows of texts at v -/
def Bk (K : PySem.W.Frag) (H : Hp) (v : Addr) (ls : List (List Str)) : Prop := Dp K H (.ref v) (eBook ls) ∧ ls.length ≤ 1000 ∧ ∀ l ∈ ls, l.length ≤ 1000 ∧ ∀ s ∈ l, TxtOk s
theorem Bk.mono {H H' : Hp} {v : Addr} {ls : List (List Str)} (e : Ex H H') (h : Bk K H v ls) : Bk K H' v ls := ⟨dp_mono e h.1, h.2⟩
theorem Bk.rows {H : Hp} {v : Addr} {ls : List (List Str)} (h : Bk K H v ls) : ∃ xs, SqL K H v xs ∧ Rows K H xs ls := by
  obtain ⟨q, xs, e, h1, h2⟩ := dp_book.mp h.1
  cases e
  exact ⟨xs, h1, h2⟩
theorem row1_get {ls : List (List Str)} {i : Nat} (h : i < ls.length) : ls[i]? = some (row1 ls i) := by
  unfold row1
  rw [List.getD_eq_getElem?_getD, List.getElem?_eq_getElem h]
  rfl
theorem row1_mem {ls : List (List Str)} {i : Nat} (h : i < ls.length) : row1 ls i ∈ ls := List.mem_of_getElem? (row1_get h)
/-- the i-th row, in whatever heap -/
theorem Bk.row {H : Hp} {v : Addr} {ls : List (List Str)} {xs : List V} {i : Nat} (h : Bk K H v ls) (r : Rows K H xs ls) (hi : i < ls.length) : ∃ q, xs[i]? = some (.ref q) ∧ Ln K H q (row1 ls i) := by
  obtain ⟨q, h1, h2⟩ := r.get (row1_get hi)
  exact ⟨q, h1, h2, h.2.2 _ (row1_mem hi)⟩
theorem okx_BadVerse {C : Addr} (T : OexC K C) (n1 : PySem.W.findIn K (.ref C) "row" = some none) {f : Addr} {fd : FuncData} (F : Fun K "__init__" "BadVerse.__init__" s_BadVersed__initd_ f fd) : FnOk P w K mg base (L2.CX P w) 1 f fd ["self", "row"] (spXi C ["row"]) := by
  refine F.okX sc_BadVersed__initd_ (fun vs H Q E h => ?_) (fun cdv A outer s H vs Q E hr h => ?_)
  · obtain ⟨a, us, G, rfl, hl, _⟩ := h
    simpa using hl
  · obtain ⟨a, us, G, rfl, hl, rfl, ha, k⟩ := h
    obtain ⟨y, rfl⟩ : ∃ y, us = [y] := by
      match us, hl with
      | [y], _ => exact ⟨y, rfl⟩
    refine ⟨_, (pss_one (ps_ostK K (pv 0) (pv 1))), ?_⟩
    refine ⟨y, rfl, .ref a, rfl, a, C, rfl, T, n1, .inl ⟨upd_same, fun dx hdx hne => ?_⟩⟩
    rw [upd_ne hne] at hdx
    exact k dx _ hdx hne upd_same (by rw [upd_ne hne, upd_same]; rfl) (fun b h1 h2 => by rw [upd_ne h1, upd_ne h2, upd_ne h1])
theorem okx_Alike {C : Addr} (T : OexC K C) (n1 : PySem.W.findIn K (.ref C) "one" = some none) (n2 : PySem.W.findIn K (.ref C) "other" = some none) {f : Addr} {fd : FuncData} (F : Fun K "__init__" "Alike.__init__" s_Aliked__initd_ f fd) : FnOk P w K mg base (L2.CX P w) 1 f fd ["self", "one", "other"] (spXi C ["one", "other"]) := by
  refine F.okX sc_Aliked__initd_ (fun vs H Q E h => ?_) (fun cdv A outer s H vs Q E hr h => ?_)
  · obtain ⟨a, us, G, rfl, hl, _⟩ := h
    simpa using hl
  · obtain ⟨a, us, G, rfl, hl, rfl, ha, k⟩ := h
    obtain ⟨y, z, rfl⟩ : ∃ y z, us = [y, z] := by
      match us, hl with
      | [y, z], _ => exact ⟨y, z, rfl⟩
    refine ⟨_, (pss_cons (ps_ostK K (pv 0) (pv 1))
      (pss_one (ps_ostK K (pv 0) (pv 2)))), ?_⟩
    refine ⟨y, rfl, .ref a, rfl, a, C, rfl, T, n1, .inl ⟨upd_same, fun dx hdx hne => ?_⟩⟩
    rw [upd_ne hne] at hdx
    refine ⟨z, rfl, .ref a, rfl, a, C, rfl, T, n2, .inr ⟨dx, [("one", y)], upd_same, by rw [upd_ne hne, upd_same], by show 1 ≤ 900; decide, ?_⟩⟩
    exact k dx _ hdx hne (by rw [upd_ne hne.symm, upd_same]) upd_same (fun b h1 h2 => by rw [upd_ne h2, upd_ne h1, upd_ne h2, upd_ne h1])
def R_need_verses (K : PySem.W.Frag) : Rl := ⟨fun vs H r => ∃ (v : Addr) (ls : List (List Str)), vs = [.ref v] ∧ Bk K H v ls ∧ r = needR ls (is .non), fun e ⟨v, ls, h1, h2, h3⟩ => ⟨v, ls, h1, h2.mono e, h3⟩⟩
theorem ok_need_verses (B : Bt mg) {t_MOST_VERSES : Tok} (c_MOST_VERSES : mg "MOST_VERSES" = some (.int 40 t_MOST_VERSES)) {C_BadBook C_BadVerse C_Alike : Addr} (X_BadBook : Xc K mg "BadBook" C_BadBook) (X_BadVerse : Xi P w K mg base "BadVerse" C_BadVerse ["row"]) (X_Alike : Xi P w K mg base "Alike" C_Alike ["one", "other"])
    (O_is_verse : Ok P w K mg base 2 "is_verse" ["line"] ((R_is_verse K).sp mg)) (O_alike : Ok P w K mg base 2 "alike" ["one", "other"] ((R_alike K).sp mg)) (D : Df K mg "need_verses" s_need_verses ["verses"]) : Ok P w K mg base 3 "need_verses" ["verses"] ((R_need_verses K).sp mg) := by
  refine D.ok sc_need_verses (fun vs H Q E h => ?_) (fun f cdv A outer s H vs Q E hr h => ?_)
  · obtain ⟨r, ⟨v, ls, rfl, _⟩, _⟩ := h
    rfl
  · obtain ⟨r, ⟨v, ls, rfl, hB, rfl⟩, k⟩ := h
    obtain ⟨xs, hS, hR⟩ := hB.rows
    have hlen := hR.len
    refine ⟨_, (pss_cons (ps_if (pt_not (pt_chain op_le op_le pe_int (pe_callB (call_lenK K) (by rfl) B.len boot_b_len (pa_cons (pv 0) pa_nil)) (pe_glob (v := .int 40) (by rfl) c_MOST_VERSES ⟨_, rfl⟩)))
        (pss_one (ps_raise rfl (takes_of rfl rfl rfl rfl) (pmk_ex X_BadBook (by rfl))))
        pss_nil)
      (pss_cons (ps_for (passes_of rfl) rfl (pi_enumK K (by rfl) B.enumerate (pa_cons (pv 0) pa_nil)) (pg_tupK K (n := 2) rfl (pgs_cons (pg_name (i := 1) sc_need_verses.nd rfl (.inl rfl)) (pgs_cons (pg_name (i := 2) sc_need_verses.nd rfl (.inl rfl)) pgs_nil)))
        (pss_one (ps_if (pt_not (pt_val (pe_callO O_is_verse (hr.mono (by omega)) (by rfl) (takes_of rfl rfl rfl rfl) (pa_cons (pv 2) pa_nil))))
          (pss_one (ps_raise rfl (takes_of rfl rfl rfl rfl) (pmk_exI X_BadVerse hr (by omega) (by rfl) (pa_cons (pv 1) pa_nil))))
          pss_nil)))
      (pss_one (ps_for (passes_of rfl) rfl (pi_range1 (by rfl) B.range (pa_cons (pe_callB (call_lenK K) (by rfl) B.len boot_b_len (pa_cons (pv 0) pa_nil)) pa_nil)) (pg_name (i := 3) sc_need_verses.nd rfl (.inl rfl))
        (pss_one (ps_for (passes_of rfl) rfl (pi_range1 (by rfl) B.range (pa_cons (pv 3) pa_nil)) (pg_name (i := 4) sc_need_verses.nd rfl (.inl rfl))
          (pss_one (ps_if (pt_val (pe_callO O_alike (hr.mono (by omega)) (by rfl) (takes_of rfl rfl rfl rfl) (pa_cons (pe_ix (ix_seqK K) (pv 0) (pv 4) (fun _ _ => rfl)) (pa_cons (pe_ix (ix_seqK K) (pv 0) (pv 3) (fun _ _ => rfl)) pa_nil))))
            (pss_one (ps_raise rfl (takes_of rfl rfl rfl rfl) (pmk_exI X_Alike hr (by omega) (by rfl) (pa_cons (pv 4) (pa_cons (pv 3) pa_nil)))))
            pss_nil)))))))), ?_⟩
    have hl2 := hB.2.1
    refine q_wh (Own.one H) (et_not (et_test (ev_chain ev_c (ev_cb (by wtm_at "ev") (rc_lenL hS)) ev_c))) (fun hb H1 o => ?_) (fun hb H1 o => ?_)
    · have hb : ¬ (1 ≤ ls.length ∧ ls.length ≤ 40) := by
        rw [hlen] at hb
        intro ⟨z1, z2⟩
        rw [decide_eq_true (show (1 : Int) ≤ ((ls.length : Nat) : Int) by omega), decide_eq_true (show ((ls.length : Nat) : Int) ≤ 40 by omega)] at hb
        cases hb
      have e : needR ls (is .non) = .err "BadBook" [] := by
        unfold needR needM
        rw [if_neg hb]
      rw [e] at k
      exact k H1 C_BadBook none (o.ix (i := 0) rfl) X_BadBook.g (.inl ⟨rfl, rfl⟩)
    · have hb : 1 ≤ ls.length ∧ ls.length ≤ 40 := by
        rw [hlen] at hb
        by_cases z1 : (1 : Int) ≤ ((ls.length : Nat) : Int)
        · by_cases z2 : ((ls.length : Nat) : Int) ≤ 40
          · omega
          · rw [decide_eq_false z2, Bool.and_false] at hb
            cases hb
        · rw [decide_eq_false z1, Bool.false_and] at hb
          cases hb
      -- the rows one by one
      refine q_for (G := H) o (ei_enum (by wtm_at "ev") hS o.e0) (fun i σ H' => ∃ y1 y2, σ = [some (.ref v), y1, y2, none, none] ∧ Own [H] H' ∧ ∀ j, j < i → isVer (row1 ls j) = true) (fun H1 o => ⟨_, _, rfl, o, fun j hj => absurd hj (Nat.not_lt_zero _)⟩) (fun i σ H' _ ⟨_, _, _, o, _⟩ => o.e0) ?_ ?_
      · rintro i x σ H1 H2 hi ⟨y1, y2, rfl, o, ha⟩ e ⟨T, y, rfl, hT, hy⟩
        obtain ⟨q, hq, hLn⟩ := hB.row hR (i := i) (by omega)
        rw [hq] at hy
        cases hy
        have o := o.mono e
        refine ⟨T, _, rfl, st_of hT, rfl, _, _, rfl, _, _, rfl, rfl, ?_⟩
        refine s_wh o (et_not (et_B (ev_callO (S := R_is_verse K) (vs := [.ref q]) (by wtm_at "ev") ⟨q, _, rfl, hLn.mono o.e0, rfl⟩))) (fun hb2 H3 o => ?_) (fun hb2 H3 o => ?_)
        · have hv : isVer (row1 ls i) = false := by simpa using hb2
          have er : badRow ls = some i := List.find?_range_eq_some.mpr ⟨by rw [hv]; rfl, List.mem_range.mpr (by omega), fun j hj => by rw [ha j hj]; rfl⟩
          have e : needR ls (is .non) = .err "BadVerse" [("row", .int (i : Nat))] := by
            unfold needR needM
            rw [if_pos hb, er]
          rw [e] at k
          exact raise_xi (j := 0) (vs := [.int (i : Nat)]) o rfl (by wtm_at "ev") rfl (by show 1 ≤ 1000; decide) (by decide) X_BadVerse.g k
        · have hv : isVer (row1 ls i) = true := by simpa using hb2
          exact ⟨_, _, rfl, o, fun j hj => by
            rcases Nat.lt_succ_iff_lt_or_eq.mp hj with z | z
            · exact ha j z
            · rw [z]; exact hv⟩
      · rintro σ H1 ⟨y1, y2, rfl, o, ha⟩
        have er : badRow ls = none := by
          unfold badRow
          rw [List.find?_range_eq_none]
          intro j hj
          rw [ha j (by rw [hlen]; exact hj)]
          rfl
        have hS1 := ex_l o.e0 hS
        refine s_forN (G := H) o (ei_rng1 (ea_cons (ev_cb (by wtm_at "ev") (rc_lenL hS1)) ea_nil) (by omega)) (fun i σ H' => ∃ y3 y4, σ = [some (.ref v), y1, y2, y3, y4] ∧ Own [H] H' ∧ ∀ j, j < i → badOne ls j = none) (fun H1 o => ⟨_, _, rfl, o, fun j hj => absurd hj (Nat.not_lt_zero _)⟩) (fun i σ H' _ ⟨_, _, _, o, _⟩ => o.e0) ?_ ?_
        · rintro j x σ H1 H2 hj ⟨y3, y4, rfl, o, hb1⟩ e rfl
          have hj : j < ls.length := by omega
          have o := o.mono e
          refine s_forN (G := H) o (ei_rng1 (by wtm_at "ev") (by omega)) (fun i σ H' => ∃ y4, σ = [some (.ref v), y1, y2, some (.int (j : Nat)), y4] ∧ Own [H] H' ∧ ∀ i', i' < i → alikeM (row1 ls i') (row1 ls j) = false) (fun H1 o => ⟨_, rfl, o, fun j hj => absurd hj (Nat.not_lt_zero _)⟩) (fun i σ H' _ ⟨_, _, o, _⟩ => o.e0) ?_ ?_
          · rintro i x σ H3 H4 hi ⟨y4, rfl, o, hb2⟩ e rfl
            have hi : i < j := by omega
            have o := o.mono e
            obtain ⟨q1, hq1, hL1⟩ := hB.row hR (i := i) (by omega)
            obtain ⟨q2, hq2, hL2⟩ := hB.row hR (i := j) (by omega)
            have a1 : atI xs ((i : Nat) : Int) = some (.ref q1) := atI_nat hq1
            have a2 : atI xs ((j : Nat) : Int) = some (.ref q2) := atI_nat hq2
            have ix1 : Ev (tOp (rIx K) (tVar 0) (tVar 4)) [some (.ref v), y1, y2, some (.int (j : Nat)), some (.int (i : Nat))] H4 (.ref q1) := ev_op (ev_var rfl) (ev_var rfl) (rv_ixLs (ex_l o.e0 hS) a1)
            have ix2 : Ev (tOp (rIx K) (tVar 0) (tVar 3)) [some (.ref v), y1, y2, some (.int (j : Nat)), some (.int (i : Nat))] H4 (.ref q2) := ev_op (ev_var rfl) (ev_var rfl) (rv_ixLs (ex_l o.e0 hS) a2)
            refine s_wh o (et_B (ev_callO (S := R_alike K) (vs := [.ref q1, .ref q2]) (ea_cons ix1 (ea_cons ix2 ea_nil)) ⟨q1, q2, _, _, rfl, hL1.mono o.e0, hL2.mono o.e0, rfl⟩)) (fun hb3 H5 o => ?_) (fun hb3 H5 o => ?_)
            · have e1 : badOne ls j = some i := List.find?_range_eq_some.mpr ⟨hb3, List.mem_range.mpr hi, fun i' hi' => by rw [hb2 i' hi']; rfl⟩
              have e2 : badTwo ls = some j := List.find?_range_eq_some.mpr ⟨by rw [e1]; rfl, List.mem_range.mpr hj, fun j' hj' => by rw [hb1 j' hj']; rfl⟩
              have e : needR ls (is .non) = .err "Alike" [("other", .int (j : Nat)), ("one", .int (i : Nat))] := by
                unfold needR needM
                rw [if_pos hb, er, e2]
                simp only [e1, Option.getD_some]
              rw [e] at k
              exact raise_xi (j := 0) (vs := [.int (i : Nat), .int (j : Nat)]) o rfl (by wtm_at "ev") rfl (by show 2 ≤ 1000; decide) (by decide) X_Alike.g k
            · exact ⟨_, rfl, o, fun i' hi' => by
                rcases Nat.lt_succ_iff_lt_or_eq.mp hi' with z | z
                · exact hb2 i' z
                · rw [z]; exact hb3⟩
          · rintro σ H3 ⟨y4, rfl, o, hb2⟩
            refine ⟨_, _, rfl, o, fun j' hj' => ?_⟩
            rcases Nat.lt_succ_iff_lt_or_eq.mp hj' with z | z
            · exact hb1 j' z
            · rw [z]
              unfold badOne
              rw [List.find?_range_eq_none]
              intro i hi
              rw [hb2 i (by omega)]
              rfl
        · rintro σ H1 ⟨y3, y4, rfl, o, hb1⟩
          have e2 : badTwo ls = none := by
            unfold badTwo
            rw [List.find?_range_eq_none]
            intro j hj
            rw [hb1 j (by omega)]
            rfl
          have e : needR ls (is .non) = .ok (is .non) := by
            unfold needR needM
            rw [if_pos hb, er, e2]
          rw [e] at k
          exact o.retV k (j := 0) rfl rfl
abbrev s_Bookd__initd_ : Stmt := inClass (topS 35) 0
theorem sc_Bookd__initd_ : FnScope ["self", "verses", "line"] ["self", "verses"] (defScope s_Bookd__initd_) := ⟨rfl, rfl, rfl, by decide +kernel, rfl, by decide +kernel, by decide +kernel⟩
abbrev s_Book_many : Stmt := inClass (topS 35) 1
theorem sc_Book_many : FnScope ["self"] ["self"] (defScope s_Book_many) := ⟨rfl, rfl, rfl, by decide +kernel, rfl, by decide +kernel, by decide +kernel⟩
abbrev s_Book_verse : Stmt := inClass (topS 35) 2
theorem sc_Book_verse : FnScope ["self", "number"] ["self", "number"] (defScope s_Book_verse) := ⟨rfl, rfl, rfl, by decide +kernel, rfl, by decide +kernel, by decide +kernel⟩
abbrev s_Book_verses : Stmt := inClass (topS 35) 3
theorem sc_Book_verses : FnScope ["self", "line"] ["self"] (defScope s_Book_verses) := ⟨rfl, rfl, rfl, by decide +kernel, rfl, by decide +kernel, by decide +kernel⟩
/-! ### books -/
/-- a book: its verses lie in lists of its own -/
def BookAt (K : PySem.W.Frag) (C : Addr) (H : Hp) (b : Addr) (ls : List (List Str)) : Prop := (∃ dx p, H b = some (.ins C dx [("lines", .ref p)]) ∧ Bk K H p ls) ∧ needM ls = none
theorem BookAt.mono {C : Addr} {H H' : Hp} {b : Addr} {ls : List (List Str)} (e : Ex H H') (h : BookAt K C H b ls) : BookAt K C H' b ls := by
  obtain ⟨⟨dx, p, h1, h2⟩, h3⟩ := h
  exact ⟨⟨dx, p, e _ _ h1, h2.mono e⟩, h3⟩
abbrev pBook (K : PySem.W.Frag) (C : Addr) (ls : List (List Str)) : Hp → V → Prop := fun N v => ∃ b, v = .ref b ∧ BookAt K C N b ls
/-- what the class of books has -/
structure TBook (K : PySem.W.Frag) (mg : Str → Option Value) (C : Addr) : Prop where
  cl : Cls K C
  g : mg "Book" = some (.ref C)
  n_lines : NoAttr K C "lines"
def R_Book (K : PySem.W.Frag) (C : Addr) : Rl := ⟨fun vs H r => ∃ (v : Addr) (ls : List (List Str)), vs = [.ref v] ∧ Bk K H v ls ∧ r = needR ls (pBook K C ls), fun e ⟨v, ls, h1, h2, h3⟩ => ⟨v, ls, h1, h2.mono e, h3⟩⟩
/-- a copy of rows: new lists -/
def Cells (N : Hp) (p : Addr) (ls : List (List Str)) : Prop := ∃ xs, N p = some (.lst xs) ∧ Paired (fun x l => ∃ q, x = V.ref q ∧ N q = some (.lst (l.map V.str))) xs ls
abbrev pRows (K : PySem.W.Frag) (ls : List (List Str)) : Hp → V → Prop := fun N v => ∃ p, v = .ref p ∧ Bk K N p ls ∧ Cells N p ls
theorem ep_list {σ : L2.St} {H : Hp} {te : TE} {p : Addr} {xs : List V} (h : Ev te σ H (.ref p)) (hs : SqL K H p xs ∨ SqT K H p xs) : EvP (tCB (rListS K) (tCons te tNil)) σ H (pLst xs) := fun H1 e Q q =>
  h H1 e _ fun H2 e2 => ⟨p, xs, rfl, hs.imp (ex_l (e.trans e2)) (ex_t (e.trans e2)), fun l hl => q (.ref l) _ (sing l (.lst xs)) (e2.trans (Ex.new hl)) (sing_ex upd_same) (sing_fr (fresh_back e2 hl)) ⟨l, rfl, sing_at⟩⟩
/-- [list(line) for line in rows]; S: the slots with the row at hand -/
theorem ep_copy {σ : L2.St} {H : Hp} {tl : TE} {p : Addr} {ls : List (List Str)} {j : Nat} {vs : List Nat} (S : V → L2.St) (h : Ev tl σ H (.ref p)) (hB : Bk K H p ls) (hg : ∀ x, (wipe σ vs).set j (some x) = S x) (hw : ∀ x, wipe (S x) vs = wipe σ vs) (hj : ∀ x, (S x)[j]? = some (some x)) :
    EvP (tLc (iList K tl) (gName j) tYes (tCB (rListS K) (tCons (tVar j) tNil)) vs) σ H (pRows K ls) := by
  obtain ⟨xs, hS, hR⟩ := hB.rows
  have hl := hR.len
  have hl2 := hB.2.1
  refine ep_imp (ep_lc (n := xs.length) (fun i => S (xs.getD i .non)) (fun _ => true) (fun i N y => ∃ p, y = .ref p ∧ N p = some (.lst ((row1 ls i).map V.str))) (fun i N N' v e ⟨p, h3, h4⟩ => ⟨p, h3, e _ _ h4⟩) (ei_list h hS (Ex.refl _)) (Ex.refl _) (by omega) (fun i x H' _ hx Q q => by rw [getD_of hx, ← hg] at q; exact q) (fun _ _ => hw _) (fun _ _ _ _ => et_yes) (fun i H1 e hlt _ => ?_)) ?_
  · obtain ⟨q, hq, hL⟩ := hB.row hR (i := i) (by omega)
    rw [getD_of hq]
    exact ep_list (ev_var (hj _)) (.inl (ex_l e hL.1))
  · rintro N v ⟨p', ys, rfl, hp, hpr⟩
    rw [picks_all] at hpr
    have hly := Paired.length hpr
    rw [List.length_range] at hly
    suffices z : Paired (fun x l => ∃ q, x = V.ref q ∧ N q = some (.lst (l.map V.str))) ys ls by
      exact ⟨p', rfl, ⟨dp_book.mpr ⟨p', ys, rfl, sq_of hp, paired_imp (fun _ _ ⟨q, h1, h2⟩ => ⟨q, h1, sq_of h2⟩) z⟩, hB.2⟩, ys, hp, z⟩
    refine paired_of (by omega) fun i y l h1 h2 => ?_
    have hi : i < ls.length := (List.getElem?_eq_some_iff.mp h2).1
    obtain ⟨y', h3, p, h4, h5⟩ := paired_get hpr (i := i) (x := i) (List.getElem?_range (by omega))
    rw [h1] at h3
    cases h3
    rw [row1_get hi] at h2
    cases h2
    exact ⟨p, h4, h5⟩
theorem ok_Bookd__initd_ (B : Bt mg) {C_Book : Addr} (T : TBook K mg C_Book) (O_need_verses : Ok P w K mg base 3 "need_verses" ["verses"] ((R_need_verses K).sp mg)) (D : Dm K C_Book "__init__" "Book.__init__" s_Bookd__initd_ ["self", "verses"]) : OkM P w K mg base 4 C_Book "__init__" ["self", "verses"] ((R_Book K C_Book).spI mg C_Book) := by
  refine D.ok sc_Bookd__initd_ (fun vs H Q E h => ?_) (fun f cdv A outer s H vs Q E hr h => ?_)
  · obtain ⟨x, dx, us, G, r, rfl, _, _, _, _, ⟨v, ls, rfl, _⟩, _⟩ := h
    rfl
  · obtain ⟨x, dx, us, G, r, rfl, rfl, hx, hdx, hne, ⟨v, ls, rfl, hB, rfl⟩, k⟩ := h
    refine ⟨_, (pss_cons (ps_expr (pe_callO O_need_verses (hr.mono (by omega)) (by rfl) (takes_of rfl rfl rfl rfl) (pa_cons (pv 1) pa_nil)))
      (pss_one (ps_fldK K (pv 0) (pe_lc (own := [("line", 2)]) rfl sc_Bookd__initd_.nd (pi_listK K (pv 1)) (blkOk_by (N := ["self", "verses", "line"]) (sc := defScope s_Bookd__initd_) (by decide +kernel)) (fun _ _ _ _ _ => (pg_name (i := 2) sc_Bookd__initd_.nd rfl (.inl rfl))) (fun _ _ _ _ _ => pts_nil) (fun _ _ _ _ _ => (pe_callTy (call_listK K) (by rfl) B.list boot_ty_list (pa_cons (pv 2) pa_nil))))))), ?_⟩
    have o : Own [sing x (.ins C_Book dx []), G] _ := own_init hx hdx hne
    cases hn : needM ls with
    | some z =>
      obtain ⟨xn, fs⟩ := z
      have e : needR ls (pBook K C_Book ls) = .err xn fs := by unfold needR; rw [hn]
      rw [e] at k
      exact q_der (er_call (S := R_need_verses K) (by wtm_at "ev") ⟨v, ls, rfl, hB.mono o.e1, by unfold needR; rw [hn]⟩) (k.fwd o.e1)
    | none =>
      have e : needR ls (pBook K C_Book ls) = .ok (pBook K C_Book ls) := by unfold needR; rw [hn]
      rw [e] at k
      refine q_dv o (ep_call (S := R_need_verses K) (P := is .non) (by wtm_at "ev") ⟨v, ls, rfl, hB.mono o.e1, by unfold needR; rw [hn]⟩) fun H1 o => ?_
      refine s_fld (j := 0) o rfl (ev_var rfl) (ep_copy (fun x' => [some (.ref x), some (.ref v), some x']) (ev_var rfl) (hB.mono o.e1) (fun _ => rfl) (fun _ => rfl) (fun _ => rfl)) T.cl T.n_lines (by show 0 < 1000; decide) fun v2 H1 N o hp => ?_
      obtain ⟨p, rfl, hp, _⟩ := hp
      have o : Own [N, sing x (.ins C_Book dx [("lines", .ref p)]), G] H1 := o
      exact k H1 (uni (sing x (.ins C_Book dx [("lines", .ref p)])) N) o.e2 o.merge.e0 (o.merge.dj (i := 0) (j := 1) (by decide) rfl rfl) ⟨x, rfl, ⟨dx, p, uni_l (o.dj (i := 0) (j := 1) (by decide) rfl rfl) _ _ sing_at, hp.mono uni_r⟩, hn⟩
end
section
variable {P : Program} {w : World} {K : PySem.W.Frag} {mg : Str → Option Value} {base : Heap}
abbrev pLine (l : List Str) : Hp → V → Prop := pLst (l.map V.str)
def R_Book_many (K : PySem.W.Frag) (C : Addr) : Rl := ⟨fun vs H r => ∃ (b : Addr) (ls : List (List Str)), vs = [.ref b] ∧ BookAt K C H b ls ∧ r = .ok (is (.int (ls.length : Nat))), fun e ⟨b, ls, h1, h2, h3⟩ => ⟨b, ls, h1, h2.mono e, h3⟩⟩
theorem ok_Book_many (B : Bt mg) {C_Book : Addr} (T : TBook K mg C_Book) (D : Dm K C_Book "many" "Book.many" s_Book_many ["self"]) : OkM P w K mg base 1 C_Book "many" ["self"] ((R_Book_many K C_Book).sp mg) := by
  refine D.ok sc_Book_many (fun vs H Q E h => ?_) (fun f cdv A outer s H vs Q E hr h => ?_)
  · obtain ⟨r, ⟨b, ls, rfl, _⟩, _⟩ := h
    rfl
  · obtain ⟨r, ⟨b, ls, rfl, ⟨⟨dx, p, hb, hB⟩, hn⟩, rfl⟩, k⟩ := h
    refine ⟨_, (pss_one (ps_ret (pe_callB (call_lenK K) (by rfl) B.len boot_b_len (pa_cons (pe_fldK K (pv 0)) pa_nil)))), ?_⟩
    obtain ⟨xs, hS, hR⟩ := hB.rows
    refine s_rv (Own.one H) (ev_cb (ea_cons (ev_fld (ev_var rfl) hb T.cl T.n_lines rfl) ea_nil) (rc_lenL hS)) fun H1 o => o.retV k (j := 0) rfl ?_
    rw [hR.len]
def verseR (ls : List (List Str)) (i : Int) : Res := if 0 ≤ i ∧ i < ls.length then .ok (pLine (row1 ls i.toNat)) else .err "NoVerse" []
def R_Book_verse (K : PySem.W.Frag) (C : Addr) : Rl := ⟨fun vs H r => ∃ (b : Addr) (ls : List (List Str)) (i : Int), vs = [.ref b, .int i] ∧ BookAt K C H b ls ∧ r = verseR ls i, fun e ⟨b, ls, i, h1, h2, h3⟩ => ⟨b, ls, i, h1, h2.mono e, h3⟩⟩
theorem ok_Book_verse (B : Bt mg) {C_Book C_NoVerse : Addr} (T : TBook K mg C_Book) (X_NoVerse : Xc K mg "NoVerse" C_NoVerse) (D : Dm K C_Book "verse" "Book.verse" s_Book_verse ["self", "number"]) : OkM P w K mg base 1 C_Book "verse" ["self", "number"] ((R_Book_verse K C_Book).sp mg) := by
  refine D.ok sc_Book_verse (fun vs H Q E h => ?_) (fun f cdv A outer s H vs Q E hr h => ?_)
  · obtain ⟨r, ⟨b, ls, i, rfl, _⟩, _⟩ := h
    rfl
  · obtain ⟨r, ⟨b, ls, i, rfl, ⟨⟨dx, p, hb, hB⟩, hn⟩, rfl⟩, k⟩ := h
    refine ⟨_, (pss_cons (ps_if (pt_not (pt_chain op_le op_lt pe_int (pv 1) (pe_callB (call_lenK K) (by rfl) B.len boot_b_len (pa_cons (pe_fldK K (pv 0)) pa_nil))))
        (pss_one (ps_raise rfl (takes_of rfl rfl rfl rfl) (pmk_ex X_NoVerse (by rfl))))
        pss_nil)
      (pss_one (ps_ret (pe_callTy (call_listK K) (by rfl) B.list boot_ty_list (pa_cons (pe_ix (ix_seqK K) (pe_fldK K (pv 0)) (pv 1) (fun _ _ => rfl)) pa_nil))))), ?_⟩
    obtain ⟨xs, hS, hR⟩ := hB.rows
    have hl := hR.len
    refine q_wh (Own.one H) (et_not (et_test (ev_chain ev_c (ev_var rfl) (ev_cb (ea_cons (ev_fld (ev_var rfl) hb T.cl T.n_lines rfl) ea_nil) (rc_lenL hS))))) (fun h0 H1 o => ?_) (fun h0 H1 o => ?_)
    · have h0 : ¬ (0 ≤ i ∧ i < ls.length) := fun ⟨z1, z2⟩ => by
        rw [hl, decide_eq_true z1, decide_eq_true z2] at h0
        cases h0
      unfold verseR at k
      rw [if_neg h0] at k
      exact k H1 C_NoVerse none (o.ix (i := 0) rfl) X_NoVerse.g (.inl ⟨rfl, rfl⟩)
    · have h0 : 0 ≤ i ∧ i < ls.length := by
        rw [hl] at h0
        by_cases z1 : 0 ≤ i
        · by_cases z2 : i < ls.length
          · exact ⟨z1, z2⟩
          · rw [decide_eq_false z2, Bool.and_false] at h0
            cases h0
        · rw [decide_eq_false z1, Bool.false_and] at h0
          cases h0
      unfold verseR at k
      rw [if_pos h0] at k
      obtain ⟨n, rfl⟩ : ∃ n : Nat, i = n := ⟨i.toNat, by omega⟩
      obtain ⟨q, hq, hL⟩ := hB.row hR (i := n) (by omega)
      refine s_rn o (ep_list (K := K) (ev_op (ev_fld (ev_var rfl) (o.e0 _ _ hb) T.cl T.n_lines rfl) (ev_var rfl) (rv_ixLs (ex_l o.e0 hS) (atI_nat hq))) (.inl (ex_l o.e0 hL.1))) fun v H1 N o p => o.ret k (i := 0) (j := 1) rfl rfl p
def R_Book_verses (K : PySem.W.Frag) (C : Addr) : Rl := ⟨fun vs H r => ∃ (b : Addr) (ls : List (List Str)), vs = [.ref b] ∧ BookAt K C H b ls ∧ r = .ok (pRows K ls), fun e ⟨b, ls, h1, h2, h3⟩ => ⟨b, ls, h1, h2.mono e, h3⟩⟩
theorem ok_Book_verses (B : Bt mg) {C_Book : Addr} (T : TBook K mg C_Book) (D : Dm K C_Book "verses" "Book.verses" s_Book_verses ["self"]) : OkM P w K mg base 1 C_Book "verses" ["self"] ((R_Book_verses K C_Book).sp mg) := by
  refine D.ok sc_Book_verses (fun vs H Q E h => ?_) (fun f cdv A outer s H vs Q E hr h => ?_)
  · obtain ⟨r, ⟨b, ls, rfl, _⟩, _⟩ := h
    rfl
  · obtain ⟨r, ⟨b, ls, rfl, ⟨⟨dx, p, hb, hB⟩, hn⟩, rfl⟩, k⟩ := h
    refine ⟨_, (pss_one (ps_ret (pe_lc (own := [("line", 1)]) rfl sc_Book_verses.nd (pi_listK K (pe_fldK K (pv 0))) (blkOk_by (N := ["self", "line"]) (sc := defScope s_Book_verses) (by decide +kernel)) (fun _ _ _ _ _ => (pg_name (i := 1) sc_Book_verses.nd rfl (.inl rfl))) (fun _ _ _ _ _ => pts_nil) (fun _ _ _ _ _ => (pe_callTy (call_listK K) (by rfl) B.list boot_ty_list (pa_cons (pv 1) pa_nil)))))), ?_⟩
    exact s_rn (Own.one H) (ep_copy (fun x => [some (.ref b), some x]) (ev_fld (ev_var rfl) hb T.cl T.n_lines rfl) hB (fun _ => rfl) (fun _ => rfl) (fun _ => rfl)) fun v H1 N o p => o.ret k (i := 0) (j := 1) rfl rfl p
end
abbrev s__law_sound : Stmt := topS 66
theorem sc__law_sound : FnScope ["_law_number", "_law_letters", "_law_k"] ["_law_number"] (defScope s__law_sound) := ⟨rfl, rfl, rfl, by decide +kernel, rfl, by decide +kernel, by decide +kernel⟩
abbrev s__law_pool : Stmt := topS 67
theorem sc__law_pool : FnScope ["_law_d", "_law_k"] ["_law_d"] (defScope s__law_pool) := ⟨rfl, rfl, rfl, by decide +kernel, rfl, by decide +kernel, by decide +kernel⟩
abbrev s__law_alike : Stmt := topS 68
theorem sc__law_alike : FnScope ["_law_one", "_law_other", "_law_size"] ["_law_one", "_law_other"] (defScope s__law_alike) := ⟨rfl, rfl, rfl, by decide +kernel, rfl, by decide +kernel, by decide +kernel⟩
section
variable {P : Program} {w : World} {K : PySem.W.Frag} {mg : Str → Option Value} {base : Heap}
theorem LT_lt {c : Nat} (h : c ∈ LT) : c < 128 := by
  have z : LT.all (fun c => decide (c < 128)) = true := by decide +kernel
  exact of_decide_eq_true (List.all_eq_true.mp z c h)
theorem syl_ok {s : Str} (h : isSyl s = true) : TxtOk s := by
  unfold isSyl at h
  simp only [Bool.and_eq_true, decide_eq_true_eq, List.all_eq_true] at h
  exact ⟨by omega, fun c hc => LT_lt (h.2 c hc)⟩
theorem join1 (a : Nat) : Txt.join ("" : Str) [⟨#[a]⟩] = ⟨#[a]⟩ := by rw [TL.join_eq]; rfl
theorem join2 (a b : Nat) : Txt.join ("" : Str) [⟨#[a]⟩, ⟨#[b]⟩] = ⟨#[a, b]⟩ := by rw [TL.join_eq]; rfl
theorem join3 (a b c : Nat) : Txt.join ("" : Str) [⟨#[a]⟩, ⟨#[b]⟩, ⟨#[c]⟩] = ⟨#[a, b, c]⟩ := by rw [TL.join_eq]; rfl
abbrev pStr (C : Str → Prop) : Hp → V → Prop := fun _ v => ∃ s, v = .str s ∧ C s
def R__law_sound : Rl := ⟨fun vs _ r => ∃ n : Int, vs = [.int n] ∧ 0 ≤ n ∧ n < 10000 ∧ r = .ok (pStr fun s => isSyl s = true), fun _ h => h⟩
def soundC (n : Int) (k : Int) : Nat := LT.getD ((n / 3 + k * (n / 79)) % 26).toNat 0
theorem sound_at (n k : Int) : atI LT ((n / 3 + k * (n / 79)) % 26) = some (soundC n k) ∧ soundC n k ∈ LT := by
  have h0 : 0 ≤ (n / 3 + k * (n / 79)) % 26 := Int.emod_nonneg _ (by decide)
  have h1 : (n / 3 + k * (n / 79)) % 26 < 26 := Int.emod_lt_of_pos _ (by decide)
  unfold soundC
  generalize (n / 3 + k * (n / 79)) % 26 = z at *
  obtain ⟨m, rfl⟩ : ∃ m : Nat, z = m := ⟨z.toNat, by omega⟩
  have hl : LT.length = 26 := by decide +kernel
  have hm : m < LT.length := by omega
  have e : LT.getD m 0 = LT[m] := by rw [List.getD_eq_getElem?_getD, List.getElem?_eq_getElem hm]; rfl
  rw [show ((m : Nat) : Int).toNat = m from rfl, e]
  exact ⟨atI_nat (List.getElem?_eq_getElem hm), List.getElem_mem hm⟩
theorem isSyl_of {l : List Nat} (h1 : 1 ≤ l.length) (h3 : l.length ≤ 3) (h : ∀ c ∈ l, c ∈ LT) : isSyl ⟨l.toArray⟩ = true := by
  unfold isSyl
  have e : (⟨l.toArray⟩ : Str).length = l.length := by simp [Str.length]
  rw [e]
  simp only [Bool.and_eq_true, decide_eq_true_eq, List.all_eq_true]
  exact ⟨⟨by omega, by omega⟩, fun c hc => h c (by simpa using hc)⟩
theorem mt_join_ev {σ : L2.St} {H : Hp} {te : TE} {ys : List Str} {a : Str} (h : EvL te σ H (ys.map V.str)) (hz : (ys.map (·.length)).sum + ys.length * a.length ≤ 16777216) : Ev (tBM K "str" (rJoin K) (tC (.str a)) (tCons te tNil)) σ H (.str (Txt.join a ys)) := fun H1 e Q q =>
  ⟨rfl, h H1 e _ fun p H2 hp e2 h2 => ⟨a, p, ys, rfl, rfl, .inl (sq_of h2), hz, q H2 e2⟩⟩
theorem ok__law_sound (B : Bt mg) (D : Df K mg "_law_sound" s__law_sound ["_law_number"]) : Ok P w K mg base 1 "_law_sound" ["_law_number"] (R__law_sound.sp mg) := by
  refine D.ok sc__law_sound (fun vs H Q E h => ?_) (fun f cdv A outer s H vs Q E hr h => ?_)
  · obtain ⟨r, ⟨n, rfl, _⟩, _⟩ := h
    rfl
  · obtain ⟨r, ⟨n, rfl, h0, h1, rfl⟩, k⟩ := h
    refine ⟨_, (pss_cons (ps_set (i := 1) sc__law_sound.nd rfl (.inr rfl) pe_str)
      (pss_one (ps_ret (pe_bmK K PySem.F.plainAttrs_str PySem.F.slot_str_join PySem.F.type_str_join (mt_joinK K) pe_str (pa_cons (pe_lc (own := [("_law_k", 2)]) rfl sc__law_sound.nd (pi_range1 (by rfl) B.range (pa_cons (pe_op (op_addK K) pe_int (pe_op op_mod (pv 0) pe_int)) pa_nil)) (blkOk_by (N := ["_law_number", "_law_letters", "_law_k"]) (sc := defScope s__law_sound) (by decide +kernel)) (fun _ _ _ _ _ => (pg_name (i := 2) sc__law_sound.nd rfl (.inl rfl))) (fun _ _ _ _ _ => pts_nil) (fun _ _ _ _ _ => (pe_ix (ix_seqK K) (pv 1) (pe_op op_mod (pe_op (op_addK K) (pe_op op_fdiv (pv 0) pe_int) (pe_op op_mulU (pv 2) (pe_op op_fdiv (pv 0) pe_int))) pe_int) (fun _ _ => rfl)))) pa_nil))))), ?_⟩
    refine q_v (Own.one H) ev_c fun H1 o => ?_
    have hnn : -100 ≤ n / 79 ∧ n / 79 ≤ 1000 := by omega
    have hm : n % 3 = 0 ∨ n % 3 = 1 ∨ n % 3 = 2 := by omega
    have fin : isSyl (Txt.join ("" : Str) ((List.range (1 + n % 3).toNat).map fun i => (⟨#[soundC n (i : Nat)]⟩ : Str))) = true ∧ (((List.range (1 + n % 3).toNat).map fun i => (⟨#[soundC n (i : Nat)]⟩ : Str)).map (·.length)).sum ≤ 3 ∧ ((List.range (1 + n % 3).toNat).map fun i => (⟨#[soundC n (i : Nat)]⟩ : Str)).length ≤ 3 := by
      have m : ∀ k : Int, soundC n k ∈ LT := fun k => (sound_at n k).2
      rcases hm with hm | hm | hm
      · rw [hm]
        refine ⟨?_, Nat.le_of_ble_eq_true rfl, Nat.le_of_ble_eq_true rfl⟩
        show isSyl (Txt.join ("" : Str) [⟨#[soundC n 0]⟩]) = true
        rw [join1]
        exact isSyl_of (l := [_]) (Nat.le_of_ble_eq_true rfl) (Nat.le_of_ble_eq_true rfl) (by simp [m])
      · rw [hm]
        refine ⟨?_, Nat.le_of_ble_eq_true rfl, Nat.le_of_ble_eq_true rfl⟩
        show isSyl (Txt.join ("" : Str) [⟨#[soundC n 0]⟩, ⟨#[soundC n 1]⟩]) = true
        rw [join2]
        exact isSyl_of (l := [_, _]) (Nat.le_of_ble_eq_true rfl) (Nat.le_of_ble_eq_true rfl) (by simp [m])
      · rw [hm]
        refine ⟨?_, Nat.le_of_ble_eq_true rfl, Nat.le_of_ble_eq_true rfl⟩
        show isSyl (Txt.join ("" : Str) [⟨#[soundC n 0]⟩, ⟨#[soundC n 1]⟩, ⟨#[soundC n 2]⟩]) = true
        rw [join3]
        exact isSyl_of (l := [_, _, _]) (Nat.le_of_ble_eq_true rfl) (Nat.le_of_ble_eq_true rfl) (by simp [m])
    refine s_rv o (mt_join_ev (ys := (List.range (1 + n % 3).toNat).map fun i => (⟨#[soundC n (i : Nat)]⟩ : Str)) (el_is (el_lcX (fun x => [some (.int n), some (.str "abcdefghijklmnopqrstuvwxyz"), some x]) (fun _ => true) (fun x => match x with | .int i => .str ⟨#[soundC n i]⟩ | _ => .non) (ei_rngX (G := H1) (by wtm_at "ev") (by omega)) (Ex.refl _) (by rw [rngV_len]; omega) (fun _ _ _ _ q => q) (fun _ => rfl) (fun _ _ _ _ => et_yes) ?_) ?_) ?_) fun H1 o => o.retV k (j := 0) rfl ⟨_, rfl, fin.1⟩
    · intro x H2 e2 hx _
      obtain ⟨i, hi, rfl⟩ := List.mem_map.mp hx
      have hi := List.mem_range.mp hi
      exact ev_op (ev_var rfl) (by wtm_at "ev") (rv_ixSs (by decide) (sound_at n (i : Nat)).1)
    · rw [filter_all]
      unfold rngV
      rw [List.map_map, List.map_map]
      rfl
    · have h2 := fin.2.1
      have h3 : ("" : Str).length = 0 := by decide +kernel
      rw [h3]
      omega
/-- drawn numbers at p -/
def Nm (K : PySem.W.Frag) (H : Hp) (p : Addr) (ns : List Int) : Prop := SqL K H p (ns.map V.int) ∧ ∀ n ∈ ns, 0 ≤ n ∧ n < 9967
theorem Nm.mono {H H' : Hp} {p : Addr} {ns : List Int} (e : Ex H H') (h : Nm K H p ns) : Nm K H' p ns := ⟨ex_l e h.1, h.2⟩
theorem strs_of {C : Str → Prop} {α : Type} : ∀ {xs : List α} {ys : List V}, Paired (fun _ y => ∃ s, y = V.str s ∧ C s) xs ys → ∃ l : List Str, ys = l.map V.str ∧ l.length = xs.length ∧ ∀ s ∈ l, C s
  | _, _, .nil => ⟨[], rfl, rfl, fun _ h => nomatch h⟩
  | _, _, .cons ⟨s, e, h⟩ r => by
    obtain ⟨l, e2, h2, h3⟩ := strs_of r
    subst e e2
    exact ⟨s :: l, rfl, by simp [h2], fun t ht => by
      rcases List.mem_cons.mp ht with z | z
      · rw [z]; exact h
      · exact h3 t z⟩
abbrev pPool (n : Nat) : Hp → V → Prop := fun N v => ∃ (p : Addr) (l : List Str), v = .ref p ∧ N p = some (.lst (l.map V.str)) ∧ l.length = n ∧ ∀ s ∈ l, isSyl s = true
def R__law_pool (K : PySem.W.Frag) : Rl := ⟨fun vs H r => ∃ (p : Addr) (ns : List Int), vs = [.ref p] ∧ Nm K H p ns ∧ 7 ≤ ns.length ∧ r = .ok (pPool 6), fun e ⟨p, ns, h1, h2, h3⟩ => ⟨p, ns, h1, h2.mono e, h3⟩⟩
theorem atI_map {ns : List Int} {j : Nat} (h : j < ns.length) : atI (ns.map V.int) (j : Int) = some (V.int ns[j]) := atI_nat (by rw [List.getElem?_map, List.getElem?_eq_getElem h]; rfl)
theorem ok__law_pool (B : Bt mg) (O__law_sound : Ok P w K mg base 1 "_law_sound" ["_law_number"] (R__law_sound.sp mg)) (D : Df K mg "_law_pool" s__law_pool ["_law_d"]) : Ok P w K mg base 2 "_law_pool" ["_law_d"] ((R__law_pool K).sp mg) := by
  refine D.ok sc__law_pool (fun vs H Q E h => ?_) (fun f cdv A outer s H vs Q E hr h => ?_)
  · obtain ⟨r, ⟨p, ns, rfl, _⟩, _⟩ := h
    rfl
  · obtain ⟨r, ⟨p, ns, rfl, ⟨hS, hall⟩, hl, rfl⟩, k⟩ := h
    refine ⟨_, (pss_cons (ps_if (pt_cmpR (op_eqK K (hu65 hr)) (pe_op op_mod (pe_ix (ix_seqK K) (pv 0) pe_int (fun _ _ => rfl)) pe_int) pe_int (nomark _))
        (pss_one (ps_ret (pe_lst (pa_cons pe_str (pa_cons pe_str (pa_cons pe_str (pa_cons pe_str (pa_cons pe_str (pa_cons pe_str pa_nil)))))))))
        pss_nil)
      (pss_cons (ps_if (pt_cmpR (op_eqK K (hu65 hr)) (pe_op op_mod (pe_ix (ix_seqK K) (pv 0) pe_int (fun _ _ => rfl)) pe_int) pe_int (nomark _))
        (pss_one (ps_ret (pe_lst (pa_cons pe_str (pa_cons pe_str (pa_cons pe_str (pa_cons pe_str (pa_cons pe_str (pa_cons pe_str pa_nil)))))))))
        pss_nil)
      (pss_one (ps_ret (pe_lc (own := [("_law_k", 1)]) rfl sc__law_pool.nd (pi_range2 (by rfl) B.range (pa_cons pe_int (pa_cons pe_int pa_nil))) (blkOk_by (N := ["_law_d", "_law_k"]) (sc := defScope s__law_pool) (by decide +kernel)) (fun _ _ _ _ _ => (pg_name (i := 1) sc__law_pool.nd rfl (.inl rfl))) (fun _ _ _ _ _ => pts_nil) (fun _ _ _ _ _ => (pe_callO O__law_sound (hr.mono (by omega)) (by rfl) takes0 (pa_cons (pe_ix (ix_seqK K) (pv 0) (pv 1) (fun _ _ => rfl)) pa_nil)))))))), ?_⟩
    have a0 := atI_map (ns := ns) (j := 0) (by omega)
    refine q_wh (Own.one H) (by wtm_at "ev") (fun hb H1 o => ?_) (fun hb H1 o => ?_)
    · exact s_rn o (ep_lst (by wtm_at "ev")) fun v H1 N o ⟨q, e, hq⟩ => o.ret k (i := 0) (j := 1) rfl rfl ⟨q, ["a", "b", "ab", "ba", "aa", "bab"], e, hq, rfl, by decide +kernel⟩
    · refine q_wh o (by wtm_at "ev") (fun hb H1 o => ?_) (fun hb H1 o => ?_)
      · exact s_rn o (ep_lst (by wtm_at "ev")) fun v H1 N o ⟨q, e, hq⟩ => o.ret k (i := 0) (j := 1) rfl rfl ⟨q, ["ka", "ki", "k", "i", "kik", "ma"], e, hq, rfl, by decide +kernel⟩
      · refine s_rn o (ep_lcX (fun x => [some (.ref p), some x]) (fun _ => true) (fun x N v => ∃ s, v = .str s ∧ isSyl s = true) (fun _ _ _ _ _ h => h) (ei_rngX2 (G := H1) (by wtm_at "ev") (by decide) (by decide)) (Ex.refl _) (by rw [rngV2_len]; decide) (fun _ _ _ _ q => q) (fun _ => rfl) (fun _ _ _ _ => et_yes) ?_) fun v H1 N o hp => o.ret k (i := 0) (j := 1) rfl rfl ?_
        · intro x H2 e2 hx _
          obtain ⟨i, hi, rfl⟩ := List.mem_map.mp hx
          have hi : i < 6 := List.mem_range.mp hi
          have hi1 : 1 + i < ns.length := by omega
          have ai : atI (ns.map V.int) (1 + ((i : Nat) : Int)) = some (V.int ns[1 + i]) := atI_map (j := 1 + i) hi1
          have hn := hall _ (List.getElem_mem hi1)
          exact ep_call (S := R__law_sound) (vs := [.int ns[1 + i]]) (ea_cons (ev_op (ev_var rfl) (ev_var rfl) (rv_ixLs (ex_l (o.e0.trans e2) hS) ai)) ea_nil) ⟨_, rfl, hn.1, by omega, rfl⟩
        · obtain ⟨q, ys, rfl, hq, hpr⟩ := hp
          obtain ⟨l, rfl, h2, h3⟩ := strs_of hpr
          rw [filter_all, rngV2_len] at h2
          exact ⟨q, l, rfl, hq, h2, h3⟩
theorem take_min (a b : List Str) : decide (a.take (min a.length b.length) = b.take (min a.length b.length)) = alikeM a b := by
  unfold alikeM begM
  rcases Nat.le_total a.length b.length with h | h
  · rw [Nat.min_eq_left h, List.take_length]
    by_cases h2 : b.take a.length = a
    · rw [decide_eq_true h2.symm, decide_eq_true h2]; rfl
    · rw [decide_eq_false (fun z => h2 z.symm), decide_eq_false h2, Bool.false_or, Eq.comm]
      refine decide_eq_false fun z => ?_
      have hl : b.length ≤ a.length := by
        have := congrArg List.length z
        rw [List.length_take] at this
        omega
      have e : a.length = b.length := by omega
      rw [← e, List.take_length] at z
      exact h2 (by rw [e, List.take_length]; exact z.symm)
  · rw [Nat.min_eq_right h, List.take_length]
    by_cases h2 : a.take b.length = b
    · rw [decide_eq_true h2, Bool.or_true]
    · rw [decide_eq_false h2, Bool.or_false, Eq.comm]
      refine decide_eq_false fun z => ?_
      have hl : a.length ≤ b.length := by
        have := congrArg List.length z
        rw [List.length_take] at this
        omega
      have e : a.length = b.length := by omega
      rw [e, List.take_length] at z
      exact h2 (by rw [← e, List.take_length]; exact z.symm)
theorem rc_min2 {H : Hp} {i j : Int} : RC (fun xs H Q => ∃ i j, xs = [.int i, .int j] ∧ Q (.int (if j < i then j else i)) H) [.int i, .int j] H (.int (min i j)) := fun H1 _ _ q => ⟨i, j, rfl, by
  have e : (if j < i then j else i) = min i j := by
    split <;> omega
  rw [e]
  exact q H1 (Ex.refl H1)⟩
theorem ok__law_alike (B : Bt mg) (D : Df K mg "_law_alike" s__law_alike ["_law_one", "_law_other"]) : Ok P w K mg base 1 "_law_alike" ["_law_one", "_law_other"] ((R_alike K).sp mg) := by
  refine D.ok sc__law_alike (fun vs H Q E h => ?_) (fun f cdv A outer s H vs Q E hr h => ?_)
  · obtain ⟨r, ⟨p, q, h, l, rfl, _⟩, _⟩ := h
    rfl
  · obtain ⟨r, ⟨p, q, h, l, rfl, ⟨h1, hl1, ht1⟩, ⟨h2, hl2, ht2⟩, rfl⟩, k⟩ := h
    refine ⟨_, (pss_cons (ps_set (i := 2) sc__law_alike.nd rfl (.inl rfl) (pe_callB (call_min2 rfl) (by rfl) B.min boot_b_min (pa_cons (pe_callB (call_lenK K) (by rfl) B.len boot_b_len (pa_cons (pv 0) pa_nil)) (pa_cons (pe_callB (call_lenK K) (by rfl) B.len boot_b_len (pa_cons (pv 1) pa_nil)) pa_nil))))
      (pss_one (ps_ret (pe_cmpR (op_eqK K (hu65 hr)) (pe_slice (sl_K K) (pv 0) po_none (po_some (pv 2))) (pe_slice (sl_K K) (pv 1) po_none (po_some (pv 2))) (nomark _))))), ?_⟩
    refine q_v (Own.one H) (ev_cb (ea_cons (ev_cb (by wtm_at "ev") (rc_lenL h1)) (ea_cons (ev_cb (by wtm_at "ev") (rc_lenL h2)) ea_nil)) rc_min2) fun H1 o => ?_
    have e : min (((h.map V.str).length : Nat) : Int) (((l.map V.str).length : Nat) : Int) = ((min h.length l.length : Nat) : Int) := by
      rw [List.length_map, List.length_map]
      omega
    rw [e]
    refine s_rv o (ev_opN (ep_l (el_sl' (ev_var rfl) eo_none (eo_some (ev_var rfl)) (ex_l o.e0 h1))) (ep_l (el_sl' (ev_var rfl) eo_none (eo_some (ev_var rfl)) (ex_l o.e0 h2))) ?_) fun H1 o => o.retV k (j := 0) rfl rfl
    rintro v1 v2 N1 N2 H2 e2 i1 i2 ⟨c1, rfl, g1⟩ ⟨c2, rfl, g2⟩
    rw [cut_line] at g1 g2
    have z := rv_eqD (K := K) (H := H2) (dp_line.mpr ⟨c1, rfl, sq_of (i1 _ _ g1)⟩) (dp_line.mpr ⟨c2, rfl, sq_of (i2 _ _ g2)⟩) (shaped_line fun s hs => ht1 s (List.mem_of_mem_take hs)) (shaped_line fun s hs => ht2 s (List.mem_of_mem_take hs))
    rw [eqv_line, take_min] at z
    exact z
end
abbrev s__law_verse : Stmt := topS 69
theorem sc__law_verse : FnScope ["_law_verses", "_law_pool_here", "_law_d", "_law_line", "_law_ahead", "_law_k"] ["_law_verses", "_law_pool_here", "_law_d"] (defScope s__law_verse) := ⟨rfl, rfl, rfl, by decide +kernel, rfl, by decide +kernel, by decide +kernel⟩
abbrev s__law_wide : Stmt := topS 70
theorem sc__law_wide : FnScope ["_law_d", "_law_size", "_law_verses", "_law_k", "_law_at", "_law_line"] ["_law_d", "_law_size"] (defScope s__law_wide) := ⟨rfl, rfl, rfl, by decide +kernel, rfl, by decide +kernel, by decide +kernel⟩
abbrev s__law_book : Stmt := topS 71
theorem sc__law_book : FnScope ["_law_d", "_law_most", "_law_pool_here", "_law_verses", "_law_k", "_law_line", "_law_one"] ["_law_d", "_law_most"] (defScope s__law_book) := ⟨rfl, rfl, rfl, by decide +kernel, rfl, by decide +kernel, by decide +kernel⟩
abbrev s__law_copy : Stmt := topS 72
theorem sc__law_copy : FnScope ["_law_rows", "_law_row"] ["_law_rows"] (defScope s__law_copy) := ⟨rfl, rfl, rfl, by decide +kernel, rfl, by decide +kernel, by decide +kernel⟩
section
variable {P : Program} {w : World} {K : PySem.W.Frag} {mg : Str → Option Value} {base : Heap}
theorem cut_ints (ns : List Int) (n : Nat) : cutV (ns.map V.int) (some (n : Int)) none = (ns.drop n).map V.int := by rw [cutV_drop, List.map_drop]
theorem cutV_mid {xs : List V} (a b : Nat) (h : a ≤ b) : cutV xs (some (a : Int)) (some (b : Int)) = (xs.drop a).take (b - a) := by
  unfold cutV
  rw [HT.sIx_nat, HT.sIx_nat]
  by_cases h1 : a ≤ xs.length
  · rw [Nat.min_eq_left h1]
    by_cases h2 : b ≤ xs.length
    · rw [Nat.min_eq_left h2]
    · rw [Nat.min_eq_right (by omega)]
      have e1 : (xs.drop a).take (xs.length - a) = xs.drop a := List.take_of_length_le (by rw [List.length_drop]; omega)
      have e2 : (xs.drop a).take (b - a) = xs.drop a := List.take_of_length_le (by rw [List.length_drop]; omega)
      rw [e1, e2]
  · rw [Nat.min_eq_right (show xs.length ≤ a by omega), Nat.min_eq_right (show xs.length ≤ b by omega), List.drop_length, List.drop_of_length_le (by omega)]
    simp
theorem cut_mid (ns : List Int) (a b : Nat) (h : a ≤ b) : cutV (ns.map V.int) (some (a : Int)) (some (b : Int)) = ((ns.drop a).take (b - a)).map V.int := by rw [cutV_mid a b h, List.map_take, List.map_drop]
abbrev pVer : Hp → V → Prop := fun N v => ∃ (p : Addr) (l : List Str), v = .ref p ∧ N p = some (.lst (l.map V.str)) ∧ isVer l = true
def SylL (l : List Str) : Prop := ∀ s ∈ l, isSyl s = true
theorem isVer_iff {l : List Str} : isVer l = true ↔ 1 ≤ l.length ∧ l.length ≤ 8 ∧ SylL l := by
  unfold isVer SylL
  simp only [Bool.and_eq_true, decide_eq_true_eq, List.all_eq_true]
  constructor
  · rintro ⟨⟨h1, h2⟩, h3⟩
    exact ⟨by omega, by omega, h3⟩
  · rintro ⟨h1, h2, h3⟩
    exact ⟨⟨by omega, by omega⟩, h3⟩
/-- rows that are verses, at v; ps: where the rows lie -/
def Vs (K : PySem.W.Frag) (H : Hp) (v : Addr) (ls : List (List Str)) : Prop := Bk K H v ls ∧ ∀ l ∈ ls, isVer l = true
theorem Vs.mono {H H' : Hp} {v : Addr} {ls : List (List Str)} (e : Ex H H') (h : Vs K H v ls) : Vs K H' v ls := ⟨h.1.mono e, h.2⟩
def R__law_verse (K : PySem.W.Frag) : Rl := ⟨fun vs H r => ∃ (v p q : Addr) (ls : List (List Str)) (pool : List Str) (ns : List Int), vs = [.ref v, .ref p, .ref q] ∧ Vs K H v ls ∧ SqL K H p (pool.map V.str) ∧ 1 ≤ pool.length ∧ pool.length ≤ 1000 ∧ SylL pool ∧ Nm K H q ns ∧ 6 ≤ ns.length ∧ r = .ok pVer,
  fun e ⟨v, p, q, ls, pool, ns, h1, h2, h3, h4, h5, h6, h7, h8⟩ => ⟨v, p, q, ls, pool, ns, h1, h2.mono e, ex_l e h3, h4, h5, h6, h7.mono e, h8⟩⟩
theorem eqv_book_nil (ls : List (List Str)) : PyData.eqv (eBook ls) (.list []) = decide (ls = []) := by
  have h := eqv_book ls []
  exact h
theorem ok__law_verse (B : Bt mg) (D : Df K mg "_law_verse" s__law_verse ["_law_verses", "_law_pool_here", "_law_d"]) : Ok P w K mg base 1 "_law_verse" ["_law_verses", "_law_pool_here", "_law_d"] ((R__law_verse K).sp mg) := by
  refine D.ok sc__law_verse (fun vs H Q E h => ?_) (fun f cdv A outer s H vs Q E hr h => ?_)
  · obtain ⟨r, ⟨v, p, q, ls, pool, ns, rfl, _⟩, _⟩ := h
    rfl
  · obtain ⟨r, ⟨v, p, q, ls, pool, ns, rfl, ⟨hB, hV⟩, hP, hp1, hp2, hsyl, ⟨hN, hall⟩, hl, rfl⟩, k⟩ := h
    refine ⟨_, (pss_cons (ps_set (i := 3) sc__law_verse.nd rfl (.inl rfl) (pe_lst pa_nil))
      (Evl.pss_cut (ps_if (PW.pt (pw_and (pt_cmpR (op_neK K (hu65 hr)) (pv 0) (pe_lst pa_nil) (nomark _)) (pw_and1 (pt_cmpR op_gt (pe_op op_mod (pe_ix (ix_seqK K) (pv 2) pe_int (fun _ _ => rfl)) pe_int) pe_int (nomark _)))))
        (pss_cons (ps_set (i := 4) sc__law_verse.nd rfl (.inl rfl) (pe_ix (ix_seqK K) (pv 0) (pe_op op_mod (pe_ix (ix_seqK K) (pv 2) pe_int (fun _ _ => rfl)) (pe_callB (call_lenK K) (by rfl) B.len boot_b_len (pa_cons (pv 0) pa_nil))) (fun _ _ => rfl)))
        (pss_one (ps_set (i := 3) sc__law_verse.nd rfl (.inl rfl) (pe_slice (sl_K K) (pv 4) po_none (po_some (pe_op op_mod (pe_op op_fdiv (pe_ix (ix_seqK K) (pv 2) pe_int (fun _ _ => rfl)) pe_int) (pe_op (op_addK K) (pe_callB (call_lenK K) (by rfl) B.len boot_b_len (pa_cons (pv 4) pa_nil)) pe_int)))))))
        pss_nil)
      (pss_cons (ps_set (i := 3) sc__law_verse.nd rfl (.inl rfl) (pe_op (op_addK K) (pv 3) (pe_lc (own := [("_law_k", 5)]) rfl sc__law_verse.nd (pi_range1 (by rfl) B.range (pa_cons (pe_op (op_addK K) pe_int (pe_op op_mod (pe_ix (ix_seqK K) (pv 2) pe_int (fun _ _ => rfl)) pe_int)) pa_nil)) (blkOk_by (N := ["_law_verses", "_law_pool_here", "_law_d", "_law_line", "_law_ahead", "_law_k"]) (sc := defScope s__law_verse) (by decide +kernel)) (fun _ _ _ _ _ => (pg_name (i := 5) sc__law_verse.nd rfl (.inl rfl))) (fun _ _ _ _ _ => pts_nil) (fun _ _ _ _ _ => (pe_ix (ix_seqK K) (pv 1) (pe_op op_mod (pe_ix (ix_seqK K) (pv 2) (pe_op (op_addK K) pe_int (pv 5)) (fun _ _ => rfl)) (pe_callB (call_lenK K) (by rfl) B.len boot_b_len (pa_cons (pv 1) pa_nil))) (fun _ _ => rfl))))))
      (pss_one (ps_ret (pe_slice (sl_K K) (pv 3) po_none (po_some pe_int))))))), ?_⟩
    have a0 := atI_map (ns := ns) (j := 0) (by omega)
    have a1 := atI_map (ns := ns) (j := 1) (by omega)
    have a2 := atI_map (ns := ns) (j := 2) (by omega)
    have n0 := hall _ (List.getElem_mem (show 0 < ns.length by omega))
    have n1 := hall _ (List.getElem_mem (show 1 < ns.length by omega))
    obtain ⟨xs, hS, hR⟩ := hB.rows
    have hlen := hR.len
    have hl2 := hB.2.1
    refine q_l (Own.one H) (by wtm_at "ev") fun l0 H1 o => ?_
    refine q_cut (M := fun σ H' => ∃ l y4 N line, σ = [some (.ref v), some (.ref p), some (.ref q), some (.ref l), y4, none] ∧ Own [N, H] H' ∧ N l = some (.lst (line.map V.str)) ∧ line.length ≤ 8 ∧ SylL line) ?_ ?_
    · have hne : EvT (tTest (tOp (rNeU K) (tVar 0) (tLst tNil))) [some (.ref v), some (.ref p), some (.ref q), some (.ref l0), none, none] H1 (!decide (ls = [])) := et_test (ev_opN (ep_v (ev_var rfl)) (ep_lst ea_nil) fun v1 v2 N1 N2 H2 e2 i1 i2 hv1 ⟨c, hc, g⟩ => by
        have hv1 : v1 = .ref v := hv1
        subst hv1 hc
        have z := rv_neD (K := K) (H := H2) (dp_mono (o.e1.trans e2) hB.1) (Dp.lst (sq_of (i2 _ _ g)) .nil) (shaped_book fun l hl s hs => (hB.2.2 l hl).2 s hs) (by decide)
        rw [eqv_book_nil] at z
        exact z)
      refine s_wh o (et_and hne fun _ => by wtm_at "ev") (fun hb H1 o => ?_) (fun hb H1 o => ⟨l0, _, _, [], rfl, o, sing_at, by simp, fun _ h => nomatch h⟩)
      have hb1 : ls ≠ [] := by
        rw [Bool.and_eq_true] at hb
        simpa using hb.1
      have hpos : 0 < ls.length := List.length_pos_iff.mpr hb1
      -- ahead = verses[d[1] % len(verses)]
      obtain ⟨i, hi⟩ : ∃ i : Nat, ns[1] % ((xs.length : Nat) : Int) = i := ⟨(ns[1] % ((xs.length : Nat) : Int)).toNat, by have := Int.emod_nonneg ns[1] (show ((xs.length : Nat) : Int) ≠ 0 by omega); omega⟩
      have hi2 : i < ls.length := by
        have := Int.emod_lt_of_pos ns[1] (show 0 < ((xs.length : Nat) : Int) by omega)
        omega
      obtain ⟨c, hc, hL⟩ := hB.row hR hi2
      have hv := isVer_iff.mp (hV _ (row1_mem hi2))
      have hS1 := ex_l o.e1 hS
      have hN1 := ex_l o.e1 hN
      refine q_v (v := .ref c) o (ev_op (ev_var rfl) (ev_is (ev_op (ev_op (ev_var rfl) ev_c (rv_ixLs hN1 a1)) (ev_cb (by wtm_at "ev") (rc_lenL hS1)) (rv_I (show (0 : Int) < _ by omega))) (by rw [hi])) (rv_ixLs hS1 (atI_nat hc))) fun H1 o => ?_
      have hL1 := ex_l o.e1 hL.1
      have hN1 := ex_l o.e1 hN
      obtain ⟨m, hm⟩ : ∃ m : Nat, (ns[0] / 4) % ((((row1 ls i).map V.str).length : Nat) + 1 : Int) = m := ⟨((ns[0] / 4) % ((((row1 ls i).map V.str).length : Nat) + 1 : Int)).toNat, by have := Int.emod_nonneg (ns[0] / 4) (show ((((row1 ls i).map V.str).length : Nat) + 1 : Int) ≠ 0 by omega); omega⟩
      refine s_n (P := pLst (((row1 ls i).take m).map V.str)) o (ep_imp (ep_l (el_sl' (ev_var rfl) eo_none (eo_some (ev_is (ev_op (ev_op (ev_op (ev_var rfl) ev_c (rv_ixLs hN1 a0)) ev_c (rv_I ⟨by decide, by decide⟩)) (ev_op (ev_cb (by wtm_at "ev") (rc_lenL hL1)) ev_c rv_addI) (rv_I (show (0 : Int) < _ by omega))) (by rw [hm]))) hL1)) fun N v h => by rw [cut_line] at h; exact h) fun v2 H1 N o hp => ?_
      obtain ⟨c2, rfl, hc2⟩ := hp
      exact ⟨c2, _, N, (row1 ls i).take m, rfl, ⟨o.1, fun M hM => o.2.1 M (List.mem_cons_of_mem _ hM), o.2.2.2.2⟩, hc2, by rw [List.length_take]; omega, fun s hs => hv.2.2 s (List.mem_of_mem_take hs)⟩
    · rintro σ H2 ⟨l, y4, N, line, rfl, o, hl1, hl8, hsl⟩
      have n2 := hall _ (List.getElem_mem (show 2 < ns.length by omega))
      -- line + [pool[d[3 + k] % len(pool)] for k in range(1 + d[2] % 3)]
      refine q_n (P := fun N v => ∃ (c : Addr) (more : List Str), v = .ref c ∧ N c = some (.lst ((line ++ more).map V.str)) ∧ 1 ≤ more.length ∧ more.length ≤ 3 ∧ SylL more) o (ep_cat (xs := line.map V.str) (P2 := fun N v => ∃ (c : Addr) (more : List Str), v = .ref c ∧ N c = some (.lst (more.map V.str)) ∧ 1 ≤ more.length ∧ more.length ≤ 3 ∧ SylL more) (ev_var rfl) (o.e0 _ _ hl1) (ep_imp (ep_lcX (fun x => [some (.ref v), some (.ref p), some (.ref q), some (.ref l), y4, some x]) (fun _ => true) (fun x N v => ∃ s, v = .str s ∧ isSyl s = true) (fun _ _ _ _ _ h => h) (ei_rngX (G := H2) (ea_cons (ev_op ev_c (ev_op (ev_op (ev_var rfl) ev_c (rv_ixLs (ex_l o.e1 hN) a2)) ev_c (rv_I (by decide))) rv_addI) ea_nil) (by omega)) (Ex.refl _) (by rw [rngV_len]; omega) (fun _ _ _ _ q => q) (fun _ => rfl) (fun _ _ _ _ => et_yes) ?_) ?_) ?_) fun v2 H1 N2 o hp => ?_
      · intro x H3 e3 hx _
        obtain ⟨i, hi, rfl⟩ := List.mem_map.mp hx
        have hi : i < (1 + ns[2] % 3).toNat := List.mem_range.mp hi
        have hi3 : 3 + i < ns.length := by omega
        have ai : atI (ns.map V.int) (3 + ((i : Nat) : Int)) = some (V.int ns[3 + i]) := atI_map (j := 3 + i) hi3
        have e := (o.e1.trans e3)
        obtain ⟨m, hm⟩ : ∃ m : Nat, ns[3 + i] % (((pool.map V.str).length : Nat) : Int) = m := ⟨(ns[3 + i] % (((pool.map V.str).length : Nat) : Int)).toNat, by have := Int.emod_nonneg ns[3 + i] (show (((pool.map V.str).length : Nat) : Int) ≠ 0 by rw [List.length_map]; omega); omega⟩
        have hm2 : m < pool.length := by
          have := Int.emod_lt_of_pos ns[3 + i] (show 0 < (((pool.map V.str).length : Nat) : Int) by rw [List.length_map]; omega)
          rw [List.length_map] at this
          rw [List.length_map] at hm
          omega
        have am : atI (pool.map V.str) ((m : Nat) : Int) = some (.str pool[m]) := atI_nat (by rw [List.getElem?_map, List.getElem?_eq_getElem hm2]; rfl)
        exact ep_imp (ep_v (ev_op (ev_var rfl) (ev_is (ev_op (ev_op (ev_var rfl) (ev_op ev_c (ev_var rfl) rv_addI) (rv_ixLs (ex_l e hN) ai)) (ev_cb (by wtm_at "ev") (rc_lenL (ex_l e hP))) (rv_I (show (0 : Int) < _ by rw [List.length_map]; omega))) (by rw [hm])) (rv_ixLs (ex_l e hP) am))) fun N v h => ⟨_, h, hsyl _ (List.getElem_mem hm2)⟩
      · rintro N v ⟨c, ys, rfl, hc, hpr⟩
        obtain ⟨more, rfl, h2, h3⟩ := strs_of hpr
        rw [filter_all, rngV_len] at h2
        exact ⟨c, more, rfl, hc, by omega, by omega, h3⟩
      · rintro N v ⟨c, more, rfl, hc, hm1, hm2, hm3⟩
        refine ⟨c, more.map V.str, rfl, hc, by rw [List.length_map, List.length_map]; omega, fun p => ⟨p, more, rfl, ?_, hm1, hm2, hm3⟩⟩
        rw [sing_at, List.map_append]
      · obtain ⟨c, more, rfl, hc, hm1, hm2, hm3⟩ := hp
        refine s_rn o (ep_l (el_sl' (ev_var rfl) eo_none (eo_some ev_c) (sq_of (o.e0 _ _ hc)))) fun v H1 N o hp => o.ret k (i := 0) (j := 3) rfl rfl ?_
        obtain ⟨d, rfl, hd⟩ := hp
        rw [show cutV ((line ++ more).map V.str) none (some 8) = ((line ++ more).take 8).map V.str from cut_line _ 8] at hd
        refine ⟨d, _, rfl, hd, isVer_iff.mpr ⟨?_, ?_, fun s hs => ?_⟩⟩
        · rw [List.length_take, List.length_append]; omega
        · rw [List.length_take]; omega
        · rcases List.mem_append.mp (List.mem_of_mem_take hs) with z | z
          · exact hsl s z
          · exact hm3 s z
/-! ### good books -/
theorem alikeM_comm (a b : List Str) : alikeM a b = alikeM b a := Bool.or_comm _ _
def Apart (ls : List (List Str)) : Prop := ls.Pairwise fun a b => alikeM a b = false
structure GB (n : Nat) (ls : List (List Str)) : Prop where
  pos : 1 ≤ ls.length
  len : ls.length ≤ n
  ver : ∀ l ∈ ls, isVer l = true
  apart : Apart ls
theorem ver_txt {l : List Str} (h : isVer l = true) : l.length ≤ 1000 ∧ ∀ s ∈ l, TxtOk s := by
  obtain ⟨h1, h2, h3⟩ := isVer_iff.mp h
  exact ⟨by omega, fun s hs => syl_ok (h3 s hs)⟩
theorem vs_of {H : Hp} {v : Addr} {xs : List V} {ls : List (List Str)} (h : SqL K H v xs) (r : Rows K H xs ls) (hl : ls.length ≤ 1000) (hv : ∀ l ∈ ls, isVer l = true) : Vs K H v ls := ⟨⟨dp_book.mpr ⟨v, xs, rfl, h, r⟩, hl, fun l hl => ver_txt (hv l hl)⟩, hv⟩
abbrev pGood (K : PySem.W.Frag) (n : Nat) : Hp → V → Prop := fun N v => ∃ (p : Addr) (ls : List (List Str)), v = .ref p ∧ Vs K N p ls ∧ GB n ls ∧ Cells N p ls
/-- rows that lie in the heap itself -/
def CR (N : Hp) (xs : List V) (ls : List (List Str)) : Prop := Paired (fun x l => ∃ q, x = V.ref q ∧ N q = some (.lst (l.map V.str))) xs ls
theorem CR.rows {N : Hp} {xs : List V} {ls : List (List Str)} (h : CR N xs ls) : Rows K N xs ls := paired_imp (fun _ _ ⟨q, h1, h2⟩ => ⟨q, h1, sq_of h2⟩) h
theorem CR.mono {N M : Hp} {xs : List V} {ls : List (List Str)} (e : Ex N M) (h : CR N xs ls) : CR M xs ls := paired_imp (fun _ _ ⟨q, h1, h2⟩ => ⟨q, h1, e _ _ h2⟩) h
theorem cr_snoc {H : Hp} {xs : List V} {ls : List (List Str)} {c : Addr} {l : List Str} (r : CR H xs ls) (h : H c = some (.lst (l.map V.str))) : CR H (xs ++ [.ref c]) (ls ++ [l]) := paired_snoc r ⟨c, rfl, h⟩
theorem Nm.drop {H : Hp} {p : Addr} {ns : List Int} {a b : Nat} (h : ∀ n ∈ ns, 0 ≤ n ∧ n < 9967) (hp : H p = some (.lst (((ns.drop a).take b).map V.int))) : Nm K H p ((ns.drop a).take b) := ⟨sq_of hp, fun n hn => h n (List.mem_of_mem_drop (List.mem_of_mem_take hn))⟩
end
section
variable {P : Program} {w : World} {K : PySem.W.Frag} {mg : Str → Option Value} {base : Heap}
/-! ### wide books -/
def wA : List Str := ["a", "b", "ab", "ba"]
def wB : List Str := ["a", "aa", "ba", "b"]
def wC : List Str := ["ka", "k", "a", "ki"]
def wT : List Str := ["ma", "a", "bab", "a", "b"]
def wN (a : Nat) : List Str := [wA.getD (a / 16) "", wB.getD (a / 4 % 4) "", wC.getD (a % 4) ""]
theorem wN_all : ((List.range 64).all fun a => (wN a).all isSyl && (List.range 64).all fun b => decide (a = b) || !decide (wN a = wN b)) = true := by decide +kernel
theorem wN_syl {a : Nat} (h : a < 64) : SylL (wN a) := by
  have z := List.all_eq_true.mp wN_all a (List.mem_range.mpr h)
  simp only [Bool.and_eq_true] at z
  exact List.all_eq_true.mp z.1
theorem wN_inj {a b : Nat} (h : a < 64) (h2 : b < 64) (hab : a ≠ b) : wN a ≠ wN b := by
  have z := List.all_eq_true.mp wN_all a (List.mem_range.mpr h)
  simp only [Bool.and_eq_true] at z
  have z2 := List.all_eq_true.mp z.2 b (List.mem_range.mpr h2)
  simp only [Bool.or_eq_true, decide_eq_true_eq] at z2
  rcases z2 with z2 | z2
  · exact absurd z2 hab
  · simpa using z2
theorem wT_syl : SylL wT := by
  have z : wT.all isSyl = true := by decide +kernel
  exact List.all_eq_true.mp z
theorem odd64 : ((List.range 32).all fun m => (List.range 64).all fun x => decide (x = 0) || !decide (x * (1 + 2 * m) % 64 = 0)) = true := by decide +kernel
theorem odd_ne {m x : Nat} (hm : m < 32) (hx : x < 64) (h0 : x ≠ 0) : x * (1 + 2 * m) % 64 ≠ 0 := by
  have z := List.all_eq_true.mp odd64 m (List.mem_range.mpr hm)
  have z2 := List.all_eq_true.mp z x (List.mem_range.mpr hx)
  simp only [Bool.or_eq_true, decide_eq_true_eq] at z2
  rcases z2 with z2 | z2
  · exact absurd z2 h0
  · simpa using z2
def atW (d0 d1 : Int) (k : Nat) : Nat := ((d0 + (k : Int) * (1 + 2 * (d1 % 32))) % 64).toNat
theorem atW_lt (d0 d1 : Int) (k : Nat) : atW d0 d1 k < 64 := by
  unfold atW
  have h1 := Int.emod_nonneg (d0 + (k : Int) * (1 + 2 * (d1 % 32))) (show (64 : Int) ≠ 0 by decide)
  have h2 := Int.emod_lt_of_pos (d0 + (k : Int) * (1 + 2 * (d1 % 32))) (show (0 : Int) < 64 by decide)
  omega
theorem atW_inj {d0 d1 : Int} {i j : Nat} (hij : i < j) (hj : j < 64) : atW d0 d1 i ≠ atW d0 d1 j := by
  intro h
  unfold atW at h
  obtain ⟨m, hm⟩ : ∃ m : Nat, d1 % 32 = m := ⟨(d1 % 32).toNat, by omega⟩
  have hm2 : m < 32 := by omega
  rw [hm] at h
  have e : ((j : Int) * (1 + 2 * (m : Int))) = (i : Int) * (1 + 2 * (m : Int)) + ((j - i : Nat) : Int) * (1 + 2 * (m : Int)) := by
    rw [← Int.add_mul]
    congr 1
    omega
  rw [e] at h
  have key : (((j - i : Nat) : Int) * (1 + 2 * (m : Int))) % 64 = 0 := by
    generalize (i : Int) * (1 + 2 * (m : Int)) = u at h
    generalize ((j - i : Nat) : Int) * (1 + 2 * (m : Int)) = t at h
    omega
  have z := odd_ne hm2 (show j - i < 64 by omega) (by omega)
  apply z
  have c : (((j - i) * (1 + 2 * m) : Nat) : Int) = ((j - i : Nat) : Int) * (1 + 2 * (m : Int)) := by
    rw [Int.natCast_mul, Int.natCast_add, Int.natCast_mul]
    rfl
  rw [← c] at key
  omega
theorem alike_head {a b s t : List Str} (hl : a.length = b.length) (hne : a ≠ b) : alikeM (a ++ s) (b ++ t) = false := by
  unfold alikeM begM
  have key : ∀ {a b s t : List Str}, a.length = b.length → a ≠ b → decide ((b ++ t).take (a ++ s).length = a ++ s) = false := by
    intro a b s t hl hne
    refine decide_eq_false fun z => hne ?_
    have z2 := congrArg (List.take a.length) z
    rw [List.take_take, List.length_append, Nat.min_eq_left (by omega), List.take_left', List.take_left'] at z2
    · exact z2.symm
    · rfl
    · exact hl.symm
  rw [key hl hne, key hl.symm (fun z => hne z.symm)]
  rfl
def lineW (d0 d1 d2 d3 : Int) (k : Nat) : List Str := wN (atW d0 d1 k) ++ wT.take ((d2 + (k : Int) * d3) % 6).toNat
theorem lineW_ver (d0 d1 d2 d3 : Int) (k : Nat) : isVer (lineW d0 d1 d2 d3 k) = true := by
  refine isVer_iff.mpr ⟨?_, ?_, fun s hs => ?_⟩
  · unfold lineW; rw [List.length_append]; show 1 ≤ 3 + _; omega
  · unfold lineW
    rw [List.length_append, List.length_take]
    have : wT.length = 5 := rfl
    show 3 + _ ≤ 8
    omega
  · rcases List.mem_append.mp hs with z | z
    · exact wN_syl (atW_lt d0 d1 k) s z
    · exact wT_syl s (List.mem_of_mem_take z)
theorem wide_good (d0 d1 d2 d3 : Int) {n : Nat} (h1 : 1 ≤ n) (h2 : n ≤ 40) : GB n ((List.range n).map (lineW d0 d1 d2 d3)) where
  pos := by simpa using h1
  len := by simp
  ver := fun l hl => by
    obtain ⟨k, _, rfl⟩ := List.mem_map.mp hl
    exact lineW_ver d0 d1 d2 d3 k
  apart := by
    unfold Apart
    rw [List.pairwise_iff_getElem]
    intro i j hi hj hij
    simp only [List.getElem_map, List.getElem_range]
    simp at hi hj
    exact alike_head rfl (wN_inj (atW_lt d0 d1 i) (atW_lt d0 d1 j) (atW_inj hij (by omega)))
def R__law_wide (K : PySem.W.Frag) : Rl := ⟨fun vs H r => ∃ (p : Addr) (ns : List Int) (n : Int), vs = [.ref p, .int n] ∧ Nm K H p ns ∧ 4 ≤ ns.length ∧ 1 ≤ n ∧ n ≤ 40 ∧ r = .ok (pGood K n.toNat), fun e ⟨p, ns, n, h1, h2, h3⟩ => ⟨p, ns, n, h1, h2.mono e, h3⟩⟩
theorem at4 {l : List Str} (hl : l.length = 4) {i : Nat} (hi : i < 4) : atI (l.map V.str) ((i : Nat) : Int) = some (.str (l.getD i "")) := atI_nat (by
  rw [List.getElem?_map, List.getElem?_eq_getElem (by omega), List.getD_eq_getElem?_getD, List.getElem?_eq_getElem (by omega)]
  rfl)
theorem ok__law_wide (B : Bt mg) (D : Df K mg "_law_wide" s__law_wide ["_law_d", "_law_size"]) : Ok P w K mg base 1 "_law_wide" ["_law_d", "_law_size"] ((R__law_wide K).sp mg) := by
  refine D.ok sc__law_wide (fun vs H Q E h => ?_) (fun f cdv A outer s H vs Q E hr h => ?_)
  · obtain ⟨r, ⟨p, ns, n, rfl, _⟩, _⟩ := h
    rfl
  · obtain ⟨r, ⟨p, ns, n, rfl, ⟨hN, hall⟩, hl, hn1, hn2, rfl⟩, k⟩ := h
    refine ⟨_, (pss_cons (ps_set (i := 2) sc__law_wide.nd rfl (.inl rfl) (pe_lst pa_nil))
      (pss_cons (ps_for (passes_of rfl) rfl (pi_range1 (by rfl) B.range (pa_cons (pv 1) pa_nil)) (pg_name (i := 3) sc__law_wide.nd rfl (.inl rfl))
        (pss_cons (ps_set (i := 4) sc__law_wide.nd rfl (.inl rfl) (pe_op op_mod (pe_op (op_addK K) (pe_ix (ix_seqK K) (pv 0) pe_int (fun _ _ => rfl)) (pe_op op_mulU (pv 3) (pe_op (op_addK K) pe_int (pe_op op_mulU pe_int (pe_op op_mod (pe_ix (ix_seqK K) (pv 0) pe_int (fun _ _ => rfl)) pe_int))))) pe_int))
        (pss_cons (ps_set (i := 5) sc__law_wide.nd rfl (.inl rfl) (pe_lst (pa_cons (pe_ix (ix_seqK K) (pe_lst (pa_cons pe_str (pa_cons pe_str (pa_cons pe_str (pa_cons pe_str pa_nil))))) (pe_op op_fdiv (pv 4) pe_int) (fun _ _ => rfl)) (pa_cons (pe_ix (ix_seqK K) (pe_lst (pa_cons pe_str (pa_cons pe_str (pa_cons pe_str (pa_cons pe_str pa_nil))))) (pe_op op_mod (pe_op op_fdiv (pv 4) pe_int) pe_int) (fun _ _ => rfl)) (pa_cons (pe_ix (ix_seqK K) (pe_lst (pa_cons pe_str (pa_cons pe_str (pa_cons pe_str (pa_cons pe_str pa_nil))))) (pe_op op_mod (pv 4) pe_int) (fun _ _ => rfl)) pa_nil)))))
        (pss_one (ps_expr (pe_bmK K PySem.F.plainAttrs_list PySem.F.slot_list_append PySem.F.type_list_append mt_append (pv 2) (pa_cons (pe_op (op_addK K) (pv 5) (pe_slice (sl_K K) (pe_lst (pa_cons pe_str (pa_cons pe_str (pa_cons pe_str (pa_cons pe_str (pa_cons pe_str pa_nil)))))) po_none (po_some (pe_op op_mod (pe_op (op_addK K) (pe_ix (ix_seqK K) (pv 0) pe_int (fun _ _ => rfl)) (pe_op op_mulU (pv 3) (pe_ix (ix_seqK K) (pv 0) pe_int (fun _ _ => rfl)))) pe_int)))) pa_nil)))))))
      (pss_one (ps_ret (pv 2))))), ?_⟩
    have a0 := atI_map (ns := ns) (j := 0) (by omega)
    have a1 := atI_map (ns := ns) (j := 1) (by omega)
    have a2 := atI_map (ns := ns) (j := 2) (by omega)
    have a3 := atI_map (ns := ns) (j := 3) (by omega)
    have n0 := hall _ (List.getElem_mem (show 0 < ns.length by omega))
    have n1 := hall _ (List.getElem_mem (show 1 < ns.length by omega))
    have n2 := hall _ (List.getElem_mem (show 2 < ns.length by omega))
    have n3 := hall _ (List.getElem_mem (show 3 < ns.length by omega))
    refine q_l (Own.one H) (by wtm_at "ev") fun l H1 o => ?_
    refine q_forN (G := emp) o (ei_rng1 (by wtm_at "ev") (by omega)) (fun i σ H' => ∃ xs N y3 y4 y5, σ = [some (.ref p), some (.int n), some (.ref l), y3, y4, y5] ∧ Own [sing l (.lst xs), N, H] H' ∧ CR N xs ((List.range i).map (lineW ns[0] ns[1] ns[2] ns[3]))) (fun H1 o => ⟨[], emp, _, _, _, rfl, ⟨o.1, fun M hM => ?_, emp_ex, (fun _ _ a ha => absurd rfl ha), o.2.2⟩, .nil⟩) (fun i σ H' _ _ => emp_ex) ?_ ?_
    · rcases List.mem_cons.mp hM with z | z
      · subst z; exact fun _ _ => rfl
      · exact o.2.1 M z
    · rintro i x σ H2 H3 hi ⟨xs, N, y3, y4, y5, rfl, o, hC⟩ e rfl
      have o := o.mono e
      have hR : Rows K N xs _ := hC.rows
      have hlen := hR.len
      rw [List.length_map, List.length_range] at hlen
      have hN1 := ex_l o.e2 hN
      -- at
      refine q_v (v := .int (atW ns[0] ns[1] i : Nat)) o (ev_is (ev_op (ev_op (ev_op (ev_var rfl) ev_c (rv_ixLs hN1 a0)) (ev_op (ev_var rfl) (ev_op ev_c (ev_op ev_c (ev_op (ev_op (ev_var rfl) ev_c (rv_ixLs hN1 a1)) ev_c (rv_I (by decide))) (rv_mulI (cmul_small (by decide) (by omega)))) rv_addI) (rv_mulI (cmul_small (by omega) (by omega)))) rv_addI) ev_c (rv_I (by decide))) (by
        have h1 : 0 ≤ (ns[0] + (i : Int) * (1 + 2 * (ns[1] % 32))) % 64 := Int.emod_nonneg _ (by decide)
        unfold atW
        congr 1
        exact (Int.toNat_of_nonneg h1).symm)) fun H1 o => ?_
      have ha := atW_lt ns[0] ns[1] i
      generalize hat : atW ns[0] ns[1] i = at' at ha ⊢
      have q16 : ((at' : Nat) : Int) / 16 = ((at' / 16 : Nat) : Int) := by omega
      have q4 : ((at' : Nat) : Int) / 4 % 4 = ((at' / 4 % 4 : Nat) : Int) := by omega
      have q1 : ((at' : Nat) : Int) % 4 = ((at' % 4 : Nat) : Int) := by omega
      have c16 : CDiv ((at' : Nat) : Int) 16 := ⟨by decide, by decide⟩
      have c4 : CDiv ((at' : Nat) : Int) 4 := ⟨by decide, by decide⟩
      refine q_n (P := pLst ((wN at').map V.str)) o (ep_lst (vs := (wN at').map V.str) (ea_cons (ev_op1 (P := pLst (wA.map V.str)) (ep_lst (by wtm_at "ev")) (ev_is (ev_op (ev_var rfl) ev_c (rv_I c16)) (by rw [q16])) fun v N H1 _ i1 ⟨c, e, hc⟩ => by subst e; exact rv_ixLs (sq_of (i1 _ _ hc)) (at4 rfl (by omega)))
        (ea_cons (ev_op1 (P := pLst (wB.map V.str)) (ep_lst (by wtm_at "ev")) (ev_is (ev_op (ev_op (ev_var rfl) ev_c (rv_I c4)) ev_c (rv_I (by decide))) (by rw [q4])) fun v N H1 _ i1 ⟨c, e, hc⟩ => by subst e; exact rv_ixLs (sq_of (i1 _ _ hc)) (at4 rfl (by omega)))
        (ea_cons (ev_op1 (P := pLst (wC.map V.str)) (ep_lst (by wtm_at "ev")) (ev_is (ev_op (ev_var rfl) ev_c (rv_I (by decide))) (by rw [q1])) fun v N H1 _ i1 ⟨c, e, hc⟩ => by subst e; exact rv_ixLs (sq_of (i1 _ _ hc)) (at4 rfl (by omega))) ea_nil)))) fun v2 H1 N2 o hp => ?_
      obtain ⟨c, rfl, hc⟩ := hp
      have hN1 := ex_l o.e3 hN
      obtain ⟨m, hm⟩ : ∃ m : Nat, (ns[2] + (i : Int) * ns[3]) % 6 = m := ⟨((ns[2] + (i : Int) * ns[3]) % 6).toNat, by have := Int.emod_nonneg (ns[2] + (i : Int) * ns[3]) (show (6 : Int) ≠ 0 by decide); omega⟩
      have el : lineW ns[0] ns[1] ns[2] ns[3] i = wN at' ++ wT.take m := by unfold lineW; rw [hat, hm]; rfl
      refine s_appN (P := pLst ((lineW ns[0] ns[1] ns[2] ns[3] i).map V.str)) (j := 1) o rfl (ev_var rfl) (ep_catN (P1 := is (.ref c)) (P2 := pLst ((wT.take m).map V.str)) (ep_v (ev_var rfl)) (ep_slN (xs := wT.map V.str) (ep_lst (by wtm_at "ev")) eo_none (eo_some (ev_is (ev_op (ev_op (ev_op (ev_var rfl) ev_c (rv_ixLs hN1 a2)) (ev_op (ev_var rfl) (ev_op (ev_var rfl) ev_c (rv_ixLs hN1 a3)) (rv_mulI (cmul_small (by omega) (by omega)))) rv_addI) ev_c (rv_I (by decide))) (by rw [hm]))) (cut_line wT m)) fun N1 N2 H1 v1 v2 e i1 i2 p1 ⟨b, e2, hb⟩ => ⟨c, b, _, _, p1, e2, e _ _ (o.e0 _ _ hc), i2 _ _ hb, ?_, fun p => ⟨p, rfl, ?_⟩⟩) (by omega) fun v2 H1 N3 o hp => ?_
      · rw [List.length_map, List.length_map, List.length_take]
        have : wT.length = 5 := rfl
        show 3 + _ ≤ _
        omega
      · rw [sing_at, el, List.map_append]
      · obtain ⟨b, rfl, hb⟩ := hp
        have o : Own [N3, N2, sing l (.lst (xs ++ [.ref b])), N, H] H1 := o
        have o2 : Own [sing l (.lst (xs ++ [.ref b])), N3, N, H] H1 := by
          have z : Own [sing l (.lst (xs ++ [.ref b])), N3, N2, N, H] H1 := o.pull (i := 2) rfl
          have z2 : Own [N2, sing l (.lst (xs ++ [.ref b])), N3, N, H] H1 := z.pull (i := 2) rfl
          exact z2.tail
        have dN : ∀ a, N3 a ≠ none → N a = none := o2.dj (i := 1) (j := 2) (by decide) rfl rfl
        refine ⟨xs ++ [.ref b], uni N N3, _, _, _, rfl, ?_, ?_⟩
        · exact own_merge2 o2
        · rw [List.range_succ, List.map_append]
          exact cr_snoc (hC.mono (uni_l dN)) (uni_r _ _ hb)
    · rintro σ H2 ⟨xs, N, y3, y4, y5, rfl, o, hC⟩
      have hR : Rows K N xs _ := hC.rows
      refine s_rv o (ev_var rfl) fun H1 o => ?_
      have o2 : Own [uni N (sing l (.lst xs)), H] H1 := o.merge
      have dN : ∀ a, sing l (.lst xs) a ≠ none → N a = none := o.dj (i := 0) (j := 1) (by decide) rfl rfl
      obtain ⟨m, rfl⟩ : ∃ m : Nat, n = m := ⟨n.toNat, by omega⟩
      exact o2.ret k (i := 0) (j := 1) rfl rfl ⟨l, _, rfl, vs_of (sq_of (uni_r _ _ sing_at)) (hR.mono (uni_l dN)) (by simp; omega) (fun l hl => (wide_good _ _ _ _ (n := m) (by omega) (by omega)).ver l hl), wide_good _ _ _ _ (by omega) (by omega), xs, uni_r _ _ sing_at, hC.mono (uni_l dN)⟩
end
section
variable {P : Program} {w : World} {K : PySem.W.Frag} {mg : Str → Option Value} {base : Heap}
def R__law_book (K : PySem.W.Frag) : Rl := ⟨fun vs H r => ∃ (p : Addr) (ns : List Int) (n : Int), vs = [.ref p, .int n] ∧ Nm K H p ns ∧ 9 + 6 * n ≤ ns.length ∧ 1 ≤ n ∧ n ≤ 40 ∧ r = .ok (pGood K n.toNat), fun e ⟨p, ns, n, h1, h2, h3⟩ => ⟨p, ns, n, h1, h2.mono e, h3⟩⟩
theorem apart_snoc {ls : List (List Str)} {l : List Str} (h : Apart ls) (ha : (List.range ls.length).all (fun i => !alikeM l (row1 ls i)) = true) : Apart (ls ++ [l]) := by
  unfold Apart at *
  rw [List.pairwise_append]
  refine ⟨h, List.pairwise_singleton _ _, fun a ha2 b hb => ?_⟩
  have e : b = l := by simpa using hb
  subst e
  obtain ⟨i, hi, rfl⟩ := List.getElem_of_mem ha2
  have z := List.all_eq_true.mp ha i (List.mem_range.mpr hi)
  have e1 : row1 ls i = ls[i] := by unfold row1; rw [List.getD_eq_getElem?_getD, List.getElem?_eq_getElem hi]; rfl
  rw [e1] at z
  rw [alikeM_comm]
  simpa using z
theorem GB.le {n m : Nat} {ls : List (List Str)} (h : GB n ls) (hm : n ≤ m) : GB m ls := ⟨h.pos, Nat.le_trans h.len hm, h.ver, h.apart⟩
theorem ok__law_book (B : Bt mg) (O__law_pool : Ok P w K mg base 2 "_law_pool" ["_law_d"] ((R__law_pool K).sp mg)) (O__law_verse : Ok P w K mg base 1 "_law_verse" ["_law_verses", "_law_pool_here", "_law_d"] ((R__law_verse K).sp mg)) (O__law_wide : Ok P w K mg base 1 "_law_wide" ["_law_d", "_law_size"] ((R__law_wide K).sp mg)) (O__law_alike : Ok P w K mg base 1 "_law_alike" ["_law_one", "_law_other"] ((R_alike K).sp mg)) (D : Df K mg "_law_book" s__law_book ["_law_d", "_law_most"]) : Ok P w K mg base 3 "_law_book" ["_law_d", "_law_most"] ((R__law_book K).sp mg) := by
  refine D.ok sc__law_book (fun vs H Q E h => ?_) (fun f cdv A outer s H vs Q E hr h => ?_)
  · obtain ⟨r, ⟨p, ns, n, rfl, _⟩, _⟩ := h
    rfl
  · obtain ⟨r, ⟨p, ns, n, rfl, ⟨hN, hall⟩, hl, hn1, hn2, rfl⟩, k⟩ := h
    refine ⟨_, (pss_cons (ps_if (pt_cmpR (op_eqK K (hu65 hr)) (pe_op op_mod (pe_op op_fdiv (pe_ix (ix_seqK K) (pv 0) pe_int (fun _ _ => rfl)) pe_int) pe_int) pe_int (nomark _))
        (pss_one (ps_ret (pe_callO O__law_wide (hr.mono (by omega)) (by rfl) (takes_of rfl rfl rfl rfl) (pa_cons (pe_slice (sl_K K) (pv 0) (po_some pe_int) (po_some pe_int)) (pa_cons (pe_op (op_addK K) pe_int (pe_op op_mod (pe_ix (ix_seqK K) (pv 0) pe_int (fun _ _ => rfl)) (pv 1))) pa_nil)))))
        pss_nil)
      (pss_cons (ps_set (i := 2) sc__law_book.nd rfl (.inl rfl) (pe_slice (sl_K K) (pe_callO O__law_pool (hr.mono (by omega)) (by rfl) (takes_of rfl rfl rfl rfl) (pa_cons (pe_slice (sl_K K) (pv 0) (po_some pe_int) (po_some pe_int)) pa_nil)) po_none (po_some (pe_op (op_addK K) pe_int (pe_op op_mod (pe_ix (ix_seqK K) (pv 0) pe_int (fun _ _ => rfl)) pe_int)))))
      (pss_cons (ps_set (i := 3) sc__law_book.nd rfl (.inl rfl) (pe_lst pa_nil))
      (pss_cons (ps_for (passes_of rfl) rfl (pi_range1 (by rfl) B.range (pa_cons (pe_op (op_addK K) pe_int (pe_op op_mod (pe_ix (ix_seqK K) (pv 0) pe_int (fun _ _ => rfl)) (pv 1))) pa_nil)) (pg_name (i := 4) sc__law_book.nd rfl (.inl rfl))
        (pss_cons (ps_set (i := 5) sc__law_book.nd rfl (.inr rfl) (pe_callO O__law_verse (hr.mono (by omega)) (by rfl) (takes_of rfl rfl rfl rfl) (pa_cons (pv 3) (pa_cons (pv 2) (pa_cons (pe_slice (sl_K K) (pv 0) (po_some (pe_op (op_addK K) pe_int (pe_op op_mulU pe_int (pv 4)))) (po_some (pe_op (op_addK K) pe_int (pe_op op_mulU pe_int (pv 4))))) pa_nil)))))
        (pss_one (ps_if (pt_val (pe_callB (cr_allK K rfl) (by rfl) B.all boot_b_all (pa_cons (pe_lc (own := [("_law_one", 6)]) rfl sc__law_book.nd (pi_listK K (pv 3)) (blkOk_by (N := ["_law_d", "_law_most", "_law_pool_here", "_law_verses", "_law_k", "_law_line", "_law_one"]) (sc := defScope s__law_book) (by decide +kernel)) (fun _ _ _ _ _ => (pg_name (i := 6) sc__law_book.nd rfl (.inl rfl))) (fun _ _ _ _ _ => pts_nil) (fun _ _ _ _ _ => (pe_not (pe_callO O__law_alike (hr.mono (by omega)) (by rfl) takes0 (pa_cons (pv 5) (pa_cons (pv 6) pa_nil)))))) pa_nil)))
          (pss_one (ps_expr (pe_bmK K PySem.F.plainAttrs_list PySem.F.slot_list_append PySem.F.type_list_append mt_append (pv 3) (pa_cons (pv 5) pa_nil))))
          pss_nil))))
      (pss_one (ps_ret (pv 3))))))), ?_⟩
    have a0 := atI_map (ns := ns) (j := 0) (by omega)
    have a8 := atI_map (ns := ns) (j := 8) (by omega)
    have n0 := hall _ (List.getElem_mem (show 0 < ns.length by omega))
    have n8 := hall _ (List.getElem_mem (show 8 < ns.length by omega))
    have hm0 := Int.emod_nonneg ns[0] (show n ≠ 0 by omega)
    have hm1 := Int.emod_lt_of_pos ns[0] (show 0 < n by omega)
    have c5 : CDiv ns[8] 5 := ⟨by decide, by decide⟩
    refine q_wh (Own.one H) (et_test (ev_op (ev_op (ev_op (ev_op (ev_var rfl) ev_c (rv_ixLs hN a8)) ev_c (rv_I c5)) ev_c (rv_I (by decide))) ev_c rv_eqI)) (fun hb H1 o => ?_) (fun hb H1 o => ?_)
    · have hN1 := ex_l o.e0 hN
      refine s_rn o (P := pGood K n.toNat) (ep_imp (ep_callN (S := R__law_wide K) (P := pGood K (1 + ns[0] % n).toNat) (eps_cons (P := pLst (((ns.drop 1).take 4).map V.int)) (ep_l (el_is (el_sl' (ev_var rfl) (eo_some ev_c) (eo_some ev_c) hN1) (cut_mid ns 1 5 (by decide)))) (eps_cons (ep_v (ev_op ev_c (ev_op (ev_op (ev_var rfl) ev_c (rv_ixLs hN1 a0)) (ev_var rfl) (rv_I (show (0 : Int) < n by omega))) rv_addI)) eps_nil)) fun vs H2 e2 ha => ?_) fun N v ⟨p, ls, h1, h2, h3, h4⟩ => ⟨p, ls, h1, h2, h3.le (by omega), h4⟩) fun v H1 N o hp => o.ret k (i := 0) (j := 1) rfl rfl hp
      cases ha with
      | cons h1 hr =>
        cases hr with
        | cons h2 hr =>
          cases hr
          obtain ⟨N1, i1, c, rfl, hc⟩ := h1
          obtain ⟨N2, i2, h2⟩ := h2
          have h2 : _ = V.int (1 + ns[0] % n) := h2
          subst h2
          refine ⟨c, _, _, rfl, Nm.drop hall (i1 _ _ hc), ?_, by omega, by omega, rfl⟩
          rw [List.length_take, List.length_drop]; omega
    · have hN1 := ex_l o.e0 hN
      obtain ⟨m, hm⟩ : ∃ m : Nat, (2 : Int) + ns[8] % 5 = (m : Int) := ⟨(2 + ns[8] % 5).toNat, by omega⟩
      refine q_n (P := fun N v => ∃ (c : Addr) (l : List Str), v = .ref c ∧ N c = some (.lst (l.map V.str)) ∧ 1 ≤ l.length ∧ l.length ≤ 1000 ∧ SylL l) o (ep_slP (P := pPool 6) (ep_callN (S := R__law_pool K) (eps_cons (P := pLst (((ns.drop 1).take 7).map V.int)) (ep_l (el_is (el_sl' (ev_var rfl) (eo_some ev_c) (eo_some ev_c) hN1) (cut_mid ns 1 8 (by decide)))) eps_nil) fun vs H2 e2 ha => ?_) eo_none (eo_some (i := (m : Int)) (ev_is (ev_op ev_c (ev_op (ev_op (ev_var rfl) ev_c (rv_ixLs hN1 a8)) ev_c (rv_I (by decide))) rv_addI) (congrArg V.int hm))) ?_) fun v H1 Np o hp => ?_
      · cases ha with
        | cons h1 hr =>
          cases hr
          obtain ⟨N1, i1, c, rfl, hc⟩ := h1
          refine ⟨c, _, rfl, Nm.drop hall (i1 _ _ hc), ?_, rfl⟩
          rw [List.length_take, List.length_drop]; omega
      · rintro N v ⟨c, l, rfl, hc, hlen, hs⟩
        refine ⟨c, _, rfl, hc, fun p => ⟨p, l.take m, rfl, ?_, ?_, ?_, fun s hs2 => hs s (List.mem_of_mem_take hs2)⟩⟩
        · rw [sing_at, cut_line]
        · rw [List.length_take]; omega
        · rw [List.length_take]; omega
      obtain ⟨pp, pool, rfl, hP, hp1, hp2, hsyl⟩ := hp
      refine q_l o (by wtm_at "ev") fun l H1 o => ?_
      have hN2 := ex_l o.e2 hN
      refine q_forN (G := emp) o (ei_rng1 (m := 1 + ns[0] % n) (ea_cons (ev_op ev_c (ev_op (ev_op (ev_var rfl) ev_c (rv_ixLs hN2 a0)) (ev_var rfl) (rv_I (show (0 : Int) < n by omega))) rv_addI) ea_nil) (by omega)) (fun i σ H' => ∃ xs N ls y4 y5, σ = [some (.ref p), some (.int n), some (.ref pp), some (.ref l), y4, y5, none] ∧ Own [sing l (.lst xs), N, Np, H] H' ∧ CR N xs ls ∧ ls.length ≤ i ∧ (1 ≤ i → 1 ≤ ls.length) ∧ (∀ l ∈ ls, isVer l = true) ∧ Apart ls) (fun H1 o => ⟨[], emp, [], _, _, rfl, own_emp o, .nil, Nat.le_refl _, (fun h => absurd h (by decide)), (fun _ h => nomatch h), List.Pairwise.nil⟩) (fun i σ H' _ _ => emp_ex) ?_ ?_
      · rintro i x σ H2 H3 hi ⟨xs, N, ls, y4, y5, rfl, o, hC, hli, hl1, hver, hap⟩ e rfl
        have o := o.mono e
        have hR : Rows K N xs ls := hC.rows
        have hlen := hR.len
        have hN3 := ex_l o.e3 hN
        have hV : Vs K H3 l ls := vs_of (sq_of (o.e0 _ _ sing_at)) (hR.mono o.e1) (by omega) hver
        have hPo := o.e2 _ _ hP
        refine q_n (P := pVer) o (ep_callN (S := R__law_verse K) (eps_cons (ep_v (ev_var rfl)) (eps_cons (ep_v (ev_var rfl)) (eps_cons (P := pLst (((ns.drop (9 + 6 * i)).take 6).map V.int)) (ep_l (el_is (el_sl' (lo := some ((9 + 6 * i : Nat) : Int)) (hi := some ((15 + 6 * i : Nat) : Int)) (ev_var rfl) (eo_some (ev_is (ev_op ev_c (ev_op ev_c (ev_var rfl) (rv_mulI (cmul_small (by decide) (by omega)))) rv_addI) (by congr 1))) (eo_some (ev_is (ev_op ev_c (ev_op ev_c (ev_var rfl) (rv_mulI (cmul_small (by decide) (by omega)))) rv_addI) (by congr 1))) hN3) (by rw [cut_mid ns _ _ (by omega), show 15 + 6 * i - (9 + 6 * i) = 6 by omega]))) eps_nil))) fun vs H4 e4 ha => ?_) fun v H1 Nl o hp => ?_
        · cases ha with
          | cons h1 hr => cases hr with
            | cons h2 hr => cases hr with
              | cons h3 hr =>
                cases hr
                obtain ⟨_, _, h1⟩ := h1
                obtain ⟨_, _, h2⟩ := h2
                have h1 : _ = V.ref l := h1
                have h2 : _ = V.ref pp := h2
                subst h1 h2
                obtain ⟨N1, i1, c, rfl, hc⟩ := h3
                refine ⟨l, pp, c, ls, pool, _, rfl, hV.mono e4, sq_of (e4 _ _ hPo), hp1, hp2, hsyl, Nm.drop hall (i1 _ _ hc), ?_, rfl⟩
                rw [List.length_take, List.length_drop]; omega
        obtain ⟨c, line, rfl, hc, hline⟩ := hp
        have hV : Vs K H1 l ls := vs_of (sq_of (o.e1 _ _ sing_at)) (hR.mono o.e2) (by omega) hver
        have hln : Ln K H1 c line := ⟨sq_of (o.e0 _ _ hc), ver_txt hline⟩
        have hRr := hR.mono o.e2
        refine s_wh o (et_test (ev_allI (n := xs.length) (fun j => [some (.ref p), some (.int n), some (.ref pp), some (.ref l), some (.int (i : Nat)), some (.ref c), some (xs.getD j .non)]) (fun j => !alikeM line (row1 ls j)) (ei_list (ev_var rfl) (sq_of (o.e1 _ _ sing_at)) (Ex.refl _)) (Ex.refl _) (by omega) (fun j x H' _ hx Q q => by rw [getD_of hx] at q; exact q) (fun _ _ => rfl) (fun j H4 e4 hj => ?_))) (fun hb H1 o => ?_) (fun hb H1 o => ?_)
        · obtain ⟨q, hq, hL⟩ := hV.1.row hRr (i := j) (by omega)
          refine ev_notV ((ev_callO (S := R_alike K) (vs := [.ref c, .ref q]) (ea_cons (ev_var rfl) (ea_cons (ev_var (by rw [getD_of hq]; rfl)) ea_nil)) ⟨c, q, line, row1 ls j, rfl, hln.mono e4, hL.mono e4, rfl⟩))
        · refine s_app (j := 1) o rfl (ev_var rfl) (ev_var rfl) (by omega) fun H1 o => ?_
          have o : Own [Nl, sing l (.lst (xs ++ [.ref c])), N, Np, H] H1 := o
          have o2 : Own [sing l (.lst (xs ++ [.ref c])), Nl, N, Np, H] H1 := o.swap
          have dN : ∀ a, Nl a ≠ none → N a = none := o2.dj (i := 1) (j := 2) (by decide) rfl rfl
          refine ⟨xs ++ [.ref c], uni N Nl, ls ++ [line], _, _, rfl, own_merge2 o2, cr_snoc (hC.mono (uni_l dN)) (uni_r _ _ hc), ?_, ?_, ?_, ?_⟩
          · rw [List.length_append, List.length_singleton]; omega
          · intro _; rw [List.length_append, List.length_singleton]; omega
          · intro l hl
            rcases List.mem_append.mp hl with z | z
            · exact hver l z
            · rw [List.mem_singleton.mp z]; exact hline
          · rw [hlen] at hb
            exact apart_snoc hap hb
        · refine ⟨xs, N, ls, _, _, rfl, o.tail, hC, by omega, fun _ => ?_, hver, hap⟩
          rcases Nat.eq_zero_or_pos ls.length with z | z
          · rw [hlen, z] at hb
            cases hb
          · exact z
      · rintro σ H2 ⟨xs, N, ls, y4, y5, rfl, o, hC, hli, hl1, hver, hap⟩
        have hR : Rows K N xs ls := hC.rows
        refine s_rv o (ev_var rfl) fun H1 o => ?_
        have o2 : Own [uni N (sing l (.lst xs)), Np, H] H1 := o.merge
        have dN : ∀ a, sing l (.lst xs) a ≠ none → N a = none := o.dj (i := 0) (j := 1) (by decide) rfl rfl
        exact o2.ret k (i := 0) (j := 2) rfl rfl ⟨l, ls, rfl, vs_of (sq_of (uni_r _ _ sing_at)) (hR.mono (uni_l dN)) (by omega) hver, ⟨hl1 (by omega), by omega, hver, hap⟩, xs, uni_r _ _ sing_at, hC.mono (uni_l dN)⟩
end
section
variable {P : Program} {w : World} {K : PySem.W.Frag} {mg : Str → Option Value} {base : Heap}
def R__law_copy (K : PySem.W.Frag) : Rl := ⟨fun vs H r => ∃ (v : Addr) (ls : List (List Str)), vs = [.ref v] ∧ Bk K H v ls ∧ r = .ok (pRows K ls), fun e ⟨v, ls, h1, h2, h3⟩ => ⟨v, ls, h1, h2.mono e, h3⟩⟩
theorem Bk.sm {H : Hp} {v : Addr} {ls : List (List Str)} (h : Bk K H v ls) : smD (eBook ls) := smD_book (by have := h.2.1; omega) fun l hl => by have := (h.2.2 l hl).1; omega
theorem needR_ok {ls : List (List Str)} {P : Hp → V → Prop} (h : needM ls = none) : needR ls P = .ok P := by unfold needR; rw [h]
theorem depth_book (ls : List (List Str)) : (eBook ls).depth < 3 := by
  have := depth_rows ls
  simp only [PyData.depth]
  omega
theorem depth_line (l : List Str) : (eLine l).depth < 3 := by
  simp only [PyData.depth, depth_strs]
  omega
theorem depth_int (i : Int) : (PyData.int i).depth < 3 := by simp only [PyData.depth]; omega
end
abbrev s__law_book_told : Stmt := topS 73
theorem sc__law_book_told : FnScope ["_law_book_here", "_law_verses", "_law_verse_here"] ["_law_book_here", "_law_verses"] (defScope s__law_book_told) := ⟨rfl, rfl, rfl, by decide +kernel, rfl, by decide +kernel, by decide +kernel⟩
section
variable {P : Program} {w : World} {K : PySem.W.Frag} {mg : Str → Option Value} {base : Heap}
def R__law_book_told (K : PySem.W.Frag) (C : Addr) : Rl := ⟨fun vs H r => ∃ (b v : Addr) (ls : List (List Str)), vs = [.ref b, .ref v] ∧ BookAt K C H b ls ∧ Bk K H v ls ∧ r = .ok (is (.bl true)), fun e ⟨b, v, ls, h1, h2, h3, h4⟩ => ⟨b, v, ls, h1, h2.mono e, h3.mono e, h4⟩⟩
theorem ok__law_book_told (B : Bt mg) {C_Book : Addr} (O_Book_many : OkM P w K mg base 1 C_Book "many" ["self"] ((R_Book_many K C_Book).sp mg)) (O_Book_verse : OkM P w K mg base 1 C_Book "verse" ["self", "number"] ((R_Book_verse K C_Book).sp mg)) (O_Book_verses : OkM P w K mg base 1 C_Book "verses" ["self"] ((R_Book_verses K C_Book).sp mg)) (O__law_same : ∀ n, Ok P w K mg base n "_law_same" ["_law_found", "_law_due"] ((R__law_same K n).sp mg)) (D : Df K mg "_law_book_told" s__law_book_told ["_law_book_here", "_law_verses"]) : Ok P w K mg base 4 "_law_book_told" ["_law_book_here", "_law_verses"] ((R__law_book_told K C_Book).sp mg) := by
  have O__law_same := O__law_same 3
  refine D.ok sc__law_book_told (fun vs H Q E h => ?_) (fun f cdv A outer s H vs Q E hr h => ?_)
  · obtain ⟨r, ⟨b, v, ls, rfl, _⟩, _⟩ := h
    rfl
  · obtain ⟨r, ⟨b, v, ls, rfl, hBk, hB, rfl⟩, k⟩ := h
    refine ⟨_, (pss_cons (ps_if (PW.pt (pw_or (pt_not (pt_val (pe_callO O__law_same (hr.mono (by omega)) (by rfl) (takes_of rfl rfl rfl rfl) (pa_cons (pe_methO0 O_Book_many (pv 0) (hr.mono (by omega)) (takes_of rfl rfl rfl rfl)) (pa_cons (pe_callB (call_lenK K) (by rfl) B.len boot_b_len (pa_cons (pv 1) pa_nil)) pa_nil))))) (pw_or1 (pt_not (pt_val (pe_callO O__law_same (hr.mono (by omega)) (by rfl) (takes_of rfl rfl rfl rfl) (pa_cons (pe_methO0 O_Book_verses (pv 0) (hr.mono (by omega)) (takes_of rfl rfl rfl rfl)) (pa_cons (pv 1) pa_nil))))))))
        (pss_one (ps_ret pe_bl))
        pss_nil)
      (pss_one (ps_ret (pe_callB (cr_allK K rfl) (by rfl) B.all boot_b_all (pa_cons (pe_lc (own := [("_law_verse_here", 2)]) rfl sc__law_book_told.nd (pi_range1 (by rfl) B.range (pa_cons (pe_callB (call_lenK K) (by rfl) B.len boot_b_len (pa_cons (pv 1) pa_nil)) pa_nil)) (blkOk_by (N := ["_law_book_here", "_law_verses", "_law_verse_here"]) (sc := defScope s__law_book_told) (by decide +kernel)) (fun _ _ _ _ _ => (pg_name (i := 2) sc__law_book_told.nd rfl (.inl rfl))) (fun _ _ _ _ _ => pts_nil) (fun _ _ _ _ _ => (pe_callO O__law_same (hr.mono (by omega)) (by rfl) takes0 (pa_cons (pe_methO O_Book_verse (pv 0) (hr.mono (by omega)) takes0 (pa_cons (pv 2) pa_nil)) (pa_cons (pe_ix (ix_seqK K) (pv 1) (pv 2) (fun _ _ => rfl)) pa_nil))))) pa_nil))))), ?_⟩
    obtain ⟨⟨dx, p, hb, hBp⟩, hn⟩ := hBk
    have hBk : BookAt K C_Book H b ls := ⟨⟨dx, p, hb, hBp⟩, hn⟩
    obtain ⟨xs, hS, hR⟩ := hB.rows
    have hl := hR.len
    have hl2 := hB.2.1
    refine q_wh (b := false) (Own.one H) (et_or (et_not (et_B (ev_callO (S := R__law_same K 3) (vs := [.int (ls.length : Nat), .int (ls.length : Nat)]) (ea_cons (ev_p (ep_meth (S := R_Book_many K C_Book) (ev_var rfl) hb rfl ea_nil ⟨b, ls, rfl, hBk, rfl⟩)) (ea_cons (ev_is (ev_cb (by wtm_at "ev") (rc_lenL hS)) (by rw [hl])) ea_nil)) ⟨_, _, .int _, rfl, .int _, .int _, trivial, depth_int _, rfl⟩))) fun _ => et_not (et_B (ev_callN (v := .bl true) (S := R__law_same K 3) (eps_cons (P := pRows K ls) (ep_meth (S := R_Book_verses K C_Book) (ev_var rfl) hb rfl ea_nil ⟨b, ls, rfl, hBk, rfl⟩) (eps_cons (ep_v (ev_var rfl)) eps_nil)) fun vs H2 e2 ha => ?_))) (fun h => nomatch h) (fun _ H1 o => ?_)
    · cases ha with
      | cons h1 hr => cases hr with
        | cons h2 hr =>
          cases hr
          obtain ⟨N1, i1, c, rfl, hc, _⟩ := h1
          obtain ⟨_, _, h2⟩ := h2
          have h2 : _ = V.ref v := h2
          subst h2
          exact ⟨_, _, eBook ls, rfl, dp_mono i1 hc.1, dp_mono e2 hB.1, hB.sm, depth_book ls, rfl⟩
    · have hBk := hBk.mono o.e0
      have hB := hB.mono o.e0
      have hS := ex_l o.e0 hS
      have hR := hR.mono o.e0
      have hb := o.e0 _ _ hb
      refine s_rv o (ev_allI (n := ls.length) (fun i => [some (.ref b), some (.ref v), some (.int (i : Nat))]) (fun _ => true) (ei_rng1 (m := (ls.length : Nat)) (ea_cons (ev_is (ev_cb (by wtm_at "ev") (rc_lenL hS)) (by rw [hl])) ea_nil) (by omega)) (Ex.refl _) (by omega) (fun i x H' _ hx Q q => by rw [hx]; exact q) (fun _ _ => rfl) (fun i H2 e2 hi => ?_)) fun H1 o => o.retV k (j := 0) rfl ?_
      · obtain ⟨q, hq, hL⟩ := hB.row hR (i := i) hi
        refine ev_callN (S := R__law_same K 3) (eps_cons (P := pLine (row1 ls i)) (ep_meth (S := R_Book_verse K C_Book) (ev_var rfl) (e2 _ _ hb) rfl (ea_cons (ev_var rfl) ea_nil) ⟨b, ls, (i : Nat), rfl, hBk.mono e2, ?_⟩) (eps_cons (ep_v (ev_op (ev_var rfl) (ev_var rfl) (rv_ixLs (ex_l e2 hS) (atI_nat hq)))) eps_nil)) fun vs H3 e3 ha => ?_
        · unfold verseR
          rw [if_pos ⟨by omega, by omega⟩]
          rfl
        · cases ha with
          | cons h1 hr => cases hr with
            | cons h2 hr =>
              cases hr
              obtain ⟨N1, i1, c, rfl, hc⟩ := h1
              obtain ⟨_, _, h2⟩ := h2
              have h2 : _ = V.ref q := h2
              subst h2
              exact ⟨_, _, eLine (row1 ls i), rfl, dp_line.mpr ⟨c, rfl, sq_of (i1 _ _ hc)⟩, dp_line.mpr ⟨q, rfl, ex_l (e2.trans e3) hL.1⟩, smD_line (by have := hL.2.1; omega), depth_line _, rfl⟩
      · exact congrArg V.bl (List.all_eq_true.mpr fun _ _ => rfl)
/-! ### rows that are spoiled -/
end
abbrev s__law_is_line : Stmt := topS 74
theorem sc__law_is_line : FnScope ["_law_line", "_law_text", "_law_sign"] ["_law_line"] (defScope s__law_is_line) := ⟨rfl, rfl, rfl, by decide +kernel, rfl, by decide +kernel, by decide +kernel⟩
abbrev s__law_book_bad : Stmt := topS 75
theorem sc__law_book_bad : FnScope ["_law_verses", "_law_row", "_law_other", "_law_one"] ["_law_verses"] (defScope s__law_book_bad) := ⟨rfl, rfl, rfl, by decide +kernel, rfl, by decide +kernel, by decide +kernel⟩
section
variable {P : Program} {w : World} {K : PySem.W.Frag} {mg : Str → Option Value} {base : Heap}
theorem not_tB {b : Bool} (h : (!b) = true) : b = false := by cases b <;> trivial
theorem not_fB {b : Bool} (h : (!b) = false) : b = true := by cases b <;> trivial
theorem ok__law_is_line (B : Bt mg) (D : Df K mg "_law_is_line" s__law_is_line ["_law_line"]) : Ok P w K mg base 1 "_law_is_line" ["_law_line"] ((R_is_verse K).sp mg) := by
  refine D.ok sc__law_is_line (fun vs H Q E h => ?_) (fun f cdv A outer s H vs Q E hr h => ?_)
  · obtain ⟨r, ⟨p, l, rfl, _⟩, _⟩ := h
    rfl
  · obtain ⟨r, ⟨p, l, rfl, ⟨h1, hl, ht⟩, rfl⟩, k⟩ := h
    refine ⟨_, (pss_cons (ps_if (pt_not (pt_chain op_le op_le pe_int (pe_callB (call_lenK K) (by rfl) B.len boot_b_len (pa_cons (pv 0) pa_nil)) pe_int))
        (pss_one (ps_ret pe_bl))
        pss_nil)
      (pss_cons (ps_for (passes_of rfl) rfl (pi_listK K (pv 0)) (pg_name (i := 1) sc__law_is_line.nd rfl (.inl rfl))
        (pss_one (ps_if (PW.pt (pw_or (pt_not (pt_chain op_le op_le pe_int (pe_callB (call_lenK K) (by rfl) B.len boot_b_len (pa_cons (pv 1) pa_nil)) pe_int)) (pw_or1 (pt_not (pt_val (pe_callB (cr_allK K rfl) (by rfl) B.all boot_b_all (pa_cons (pe_lc (own := [("_law_sign", 2)]) rfl sc__law_is_line.nd (pi_str (pv 1)) (blkOk_by (N := ["_law_line", "_law_text", "_law_sign"]) (sc := defScope s__law_is_line) (by decide +kernel)) (fun _ _ _ _ _ => (pg_name (i := 2) sc__law_is_line.nd rfl (.inl rfl))) (fun _ _ _ _ _ => pts_nil) (fun _ _ _ _ _ => (pe_cmpR (op_inK K (hu65 hr)) (pv 2) pe_str (by rfl)))) pa_nil)))))))
          (pss_one (ps_ret pe_bl))
          pss_nil)))
      (pss_one (ps_ret pe_bl)))), ?_⟩
    refine q_wh (Own.one H) (et_not (et_test (ev_chain ev_c (ev_cb (by wtm_at "ev") (rc_lenL h1)) ev_c))) (fun hb H1 o => ?_) (fun hb H1 o => ?_)
    · rw [List.length_map] at hb
      refine s_rv o ev_c fun H1 o => o.retV k (j := 0) rfl ?_
      unfold isVer
      rw [not_tB hb, Bool.false_and]
    · rw [List.length_map] at hb
      have hb := not_fB hb
      refine q_forN (G := H) o (ei_list (ev_var rfl) h1 o.e0) (fun i σ H' => ∃ y1, σ = [some (.ref p), y1, none] ∧ Own [H] H' ∧ ∀ (j : Nat) (s : Str), j < i → l[j]? = some s → isSyl s = true) (fun H1 o => ⟨_, rfl, o, fun j s hj => absurd hj (Nat.not_lt_zero _)⟩) (fun i σ H' _ ⟨_, _, o, _⟩ => o.e0) ?_ ?_
      · rintro i x σ H1 H2 hi ⟨y1, rfl, o, ha⟩ e hx
        have o := o.mono e
        rw [List.length_map] at hi
        have hx : (l.map V.str)[i]? = some x := hx
        rw [List.getElem?_map, List.getElem?_eq_getElem hi] at hx
        obtain rfl : V.str l[i] = x := Option.some.inj hx
        have hz := (ht _ (List.getElem_mem hi)).1
        refine s_wh (b := !isSyl l[i]) o (et_is (et_or (et_not (et_test (ev_chain ev_c (ev_cb (by wtm_at "ev") (rc_lenS (by omega))) ev_c))) fun _ => et_not (et_B (ev_allX (fun x => [some (.ref p), some (.str l[i]), some x]) inLT (ei_strX (G := H2) (ev_var rfl)) (Ex.refl _) (by rw [signs_len]; omega) (fun _ _ _ _ q => q) (fun _ => rfl) (fun x H2 e2 hx => by
            obtain ⟨c, _, rfl⟩ := List.mem_map.mp hx
            exact ev_is (ev_op (ev_var rfl) ev_c rv_sign) (by simp [inLT, LT]))))) (by rw [signs_in]; unfold isSyl; rw [← Bool.not_and])) (fun hb2 H3 o => ?_) (fun hb2 H3 o => ?_)
        · refine s_rv o ev_c fun H1 o => o.retV k (j := 0) rfl ?_
          have hb2 : isSyl l[i] = false := by simpa using hb2
          have : l.all isSyl = false := List.all_eq_false.mpr ⟨_, List.getElem_mem hi, by rw [hb2]; decide⟩
          unfold isVer
          rw [this, Bool.and_false]
        · have hb2 : isSyl l[i] = true := by simpa using hb2
          exact ⟨_, rfl, o, fun j s hj hs => by
            rcases Nat.lt_succ_iff_lt_or_eq.mp hj with z | z
            · exact ha j s z hs
            · rw [z, List.getElem?_eq_getElem hi] at hs
              rw [← Option.some.inj hs]
              exact hb2⟩
      · rintro σ H1 ⟨y1, rfl, o, ha⟩
        refine s_rv o ev_c fun H1 o => o.retV k (j := 0) rfl ?_
        have : l.all isSyl = true := List.all_eq_true.mpr fun s hs => by
          obtain ⟨j, hj, rfl⟩ := List.getElem_of_mem hs
          exact ha j _ (by rw [List.length_map]; exact hj) (List.getElem?_eq_getElem hj)
        unfold isVer
        rw [hb, this]
        rfl
/-! ### the refusal as a tuple -/
def badT (ls : List (List Str)) : Str × Nat × Nat :=
  if 1 ≤ ls.length ∧ ls.length ≤ 40 then
    match badRow ls with
    | some i => ("BadVerse", i, 0)
    | none => match badTwo ls with
      | some j => ("Alike", (badOne ls j).getD 0, j)
      | none => ("", 0, 0)
  else ("BadBook", 0, 0)
abbrev pT3 (t : Str × Nat × Nat) : Hp → V → Prop := pTup [.str t.1, .int (t.2.1 : Nat), .int (t.2.2 : Nat)]
def R__law_book_bad (K : PySem.W.Frag) : Rl := ⟨fun vs H r => ∃ (v : Addr) (ls : List (List Str)), vs = [.ref v] ∧ Bk K H v ls ∧ r = .ok (pT3 (badT ls)), fun e ⟨v, ls, h1, h2, h3⟩ => ⟨v, ls, h1, h2.mono e, h3⟩⟩
theorem ok__law_book_bad (B : Bt mg) (O__law_is_line : Ok P w K mg base 1 "_law_is_line" ["_law_line"] ((R_is_verse K).sp mg)) (O__law_alike : Ok P w K mg base 1 "_law_alike" ["_law_one", "_law_other"] ((R_alike K).sp mg)) (D : Df K mg "_law_book_bad" s__law_book_bad ["_law_verses"]) : Ok P w K mg base 2 "_law_book_bad" ["_law_verses"] ((R__law_book_bad K).sp mg) := by
  refine D.ok sc__law_book_bad (fun vs H Q E h => ?_) (fun f cdv A outer s H vs Q E hr h => ?_)
  · obtain ⟨r, ⟨v, ls, rfl, _⟩, _⟩ := h
    rfl
  · obtain ⟨r, ⟨v, ls, rfl, hB, rfl⟩, k⟩ := h
    obtain ⟨xs, hS, hR⟩ := hB.rows
    have hlen := hR.len
    refine ⟨_, (pss_cons (ps_if (pt_not (pt_chain op_le op_le pe_int (pe_callB (call_lenK K) (by rfl) B.len boot_b_len (pa_cons (pv 0) pa_nil)) pe_int))
        (pss_one (ps_ret (pe_tup (pa_cons pe_str (pa_cons pe_int (pa_cons pe_int pa_nil))))))
        pss_nil)
      (pss_cons (ps_for (passes_of rfl) rfl (pi_range1 (by rfl) B.range (pa_cons (pe_callB (call_lenK K) (by rfl) B.len boot_b_len (pa_cons (pv 0) pa_nil)) pa_nil)) (pg_name (i := 1) sc__law_book_bad.nd rfl (.inl rfl))
        (pss_one (ps_if (pt_not (pt_val (pe_callO O__law_is_line (hr.mono (by omega)) (by rfl) (takes_of rfl rfl rfl rfl) (pa_cons (pe_ix (ix_seqK K) (pv 0) (pv 1) (fun _ _ => rfl)) pa_nil))))
          (pss_one (ps_ret (pe_tup (pa_cons pe_str (pa_cons (pv 1) (pa_cons pe_int pa_nil))))))
          pss_nil)))
      (pss_cons (ps_for (passes_of rfl) rfl (pi_range1 (by rfl) B.range (pa_cons (pe_callB (call_lenK K) (by rfl) B.len boot_b_len (pa_cons (pv 0) pa_nil)) pa_nil)) (pg_name (i := 2) sc__law_book_bad.nd rfl (.inl rfl))
        (pss_one (ps_for (passes_of rfl) rfl (pi_range1 (by rfl) B.range (pa_cons (pv 2) pa_nil)) (pg_name (i := 3) sc__law_book_bad.nd rfl (.inl rfl))
          (pss_one (ps_if (pt_val (pe_callO O__law_alike (hr.mono (by omega)) (by rfl) (takes_of rfl rfl rfl rfl) (pa_cons (pe_ix (ix_seqK K) (pv 0) (pv 3) (fun _ _ => rfl)) (pa_cons (pe_ix (ix_seqK K) (pv 0) (pv 2) (fun _ _ => rfl)) pa_nil))))
            (pss_one (ps_ret (pe_tup (pa_cons pe_str (pa_cons (pv 3) (pa_cons (pv 2) pa_nil))))))
            pss_nil)))))
      (pss_one (ps_ret (pe_tup (pa_cons pe_str (pa_cons pe_int (pa_cons pe_int pa_nil))))))))), ?_⟩
    have hl2 := hB.2.1
    refine q_wh (Own.one H) (et_not (et_test (ev_chain ev_c (ev_cb (by wtm_at "ev") (rc_lenL hS)) ev_c))) (fun hb H1 o => ?_) (fun hb H1 o => ?_)
    · have hb : ¬ (1 ≤ ls.length ∧ ls.length ≤ 40) := by
        rw [hlen] at hb
        intro ⟨z1, z2⟩
        rw [decide_eq_true (show (1 : Int) ≤ ((ls.length : Nat) : Int) by omega), decide_eq_true (show ((ls.length : Nat) : Int) ≤ 40 by omega)] at hb
        cases hb
      have e : badT ls = (("BadBook" : Str), 0, 0) := by
        unfold badT
        rw [if_neg hb]
      rw [e] at k
      exact s_rn o (ep_tup (vs := [.str "BadBook", .int 0, .int 0]) (by wtm_at "ev")) fun v H1 N o p => o.ret k (i := 0) (j := 1) rfl rfl p
    · have hb : 1 ≤ ls.length ∧ ls.length ≤ 40 := by
        rw [hlen] at hb
        by_cases z1 : (1 : Int) ≤ ((ls.length : Nat) : Int)
        · by_cases z2 : ((ls.length : Nat) : Int) ≤ 40
          · omega
          · rw [decide_eq_false z2, Bool.and_false] at hb
            cases hb
        · rw [decide_eq_false z1, Bool.false_and] at hb
          cases hb
      refine q_forN (G := H) o (ei_rng1 (ea_cons (ev_cb (by wtm_at "ev") (rc_lenL (ex_l o.e0 hS))) ea_nil) (by omega)) (fun i σ H' => ∃ y1, σ = [some (.ref v), y1, none, none] ∧ Own [H] H' ∧ ∀ j, j < i → isVer (row1 ls j) = true) (fun H1 o => ⟨_, rfl, o, fun j hj => absurd hj (Nat.not_lt_zero _)⟩) (fun i σ H' _ ⟨_, _, o, _⟩ => o.e0) ?_ ?_
      · rintro i x σ H1 H2 hi ⟨y1, rfl, o, ha⟩ e rfl
        obtain ⟨q, hq, hLn⟩ := hB.row hR (i := i) (by omega)
        have o := o.mono e
        refine s_wh o (et_not (et_B (ev_callO (S := R_is_verse K) (vs := [.ref q]) (ea_cons (ev_op (ev_var rfl) (ev_var rfl) (rv_ixLs (ex_l o.e0 hS) (atI_nat hq))) ea_nil) ⟨q, _, rfl, hLn.mono o.e0, rfl⟩))) (fun hb2 H3 o => ?_) (fun hb2 H3 o => ?_)
        · have hv : isVer (row1 ls i) = false := by simpa using hb2
          have er : badRow ls = some i := List.find?_range_eq_some.mpr ⟨by rw [hv]; rfl, List.mem_range.mpr (by omega), fun j hj => by rw [ha j hj]; rfl⟩
          have e : badT ls = (("BadVerse" : Str), i, 0) := by
            unfold badT
            rw [if_pos hb, er]
          rw [e] at k
          exact s_rn o (ep_tup (vs := [.str "BadVerse", .int (i : Nat), .int 0]) (by wtm_at "ev")) fun v H1 N o p => o.ret k (i := 0) (j := 1) rfl rfl p
        · have hv : isVer (row1 ls i) = true := by simpa using hb2
          exact ⟨_, rfl, o, fun j hj => by
            rcases Nat.lt_succ_iff_lt_or_eq.mp hj with z | z
            · exact ha j z
            · rw [z]; exact hv⟩
      · rintro σ H1 ⟨y1, rfl, o, ha⟩
        have er : badRow ls = none := by
          unfold badRow
          rw [List.find?_range_eq_none]
          intro j hj
          rw [ha j (by omega)]
          rfl
        have hS1 := ex_l o.e0 hS
        refine q_forN (G := H) o (ei_rng1 (ea_cons (ev_cb (by wtm_at "ev") (rc_lenL hS1)) ea_nil) (by omega)) (fun i σ H' => ∃ y3 y4, σ = [some (.ref v), y1, y3, y4] ∧ Own [H] H' ∧ ∀ j, j < i → badOne ls j = none) (fun H1 o => ⟨_, _, rfl, o, fun j hj => absurd hj (Nat.not_lt_zero _)⟩) (fun i σ H' _ ⟨_, _, _, o, _⟩ => o.e0) ?_ ?_
        · rintro j x σ H1 H2 hj ⟨y3, y4, rfl, o, hb1⟩ e rfl
          have hj : j < ls.length := by omega
          have o := o.mono e
          refine s_forN (G := H) o (ei_rng1 (by wtm_at "ev") (by omega)) (fun i σ H' => ∃ y4, σ = [some (.ref v), y1, some (.int (j : Nat)), y4] ∧ Own [H] H' ∧ ∀ i', i' < i → alikeM (row1 ls i') (row1 ls j) = false) (fun H1 o => ⟨_, rfl, o, fun j hj => absurd hj (Nat.not_lt_zero _)⟩) (fun i σ H' _ ⟨_, _, o, _⟩ => o.e0) ?_ ?_
          · rintro i x σ H3 H4 hi ⟨y4, rfl, o, hb2⟩ e rfl
            have hi : i < j := by omega
            have o := o.mono e
            obtain ⟨q1, hq1, hL1⟩ := hB.row hR (i := i) (by omega)
            obtain ⟨q2, hq2, hL2⟩ := hB.row hR (i := j) (by omega)
            refine s_wh o (et_B (ev_callO (S := R_alike K) (vs := [.ref q1, .ref q2]) (ea_cons (ev_op (ev_var rfl) (ev_var rfl) (rv_ixLs (ex_l o.e0 hS) (atI_nat hq1))) (ea_cons (ev_op (ev_var rfl) (ev_var rfl) (rv_ixLs (ex_l o.e0 hS) (atI_nat hq2))) ea_nil)) ⟨q1, q2, _, _, rfl, hL1.mono o.e0, hL2.mono o.e0, rfl⟩)) (fun hb3 H5 o => ?_) (fun hb3 H5 o => ?_)
            · have e1 : badOne ls j = some i := List.find?_range_eq_some.mpr ⟨hb3, List.mem_range.mpr hi, fun i' hi' => by rw [hb2 i' hi']; rfl⟩
              have e2 : badTwo ls = some j := List.find?_range_eq_some.mpr ⟨by rw [e1]; rfl, List.mem_range.mpr hj, fun j' hj' => by rw [hb1 j' hj']; rfl⟩
              have e : badT ls = (("Alike" : Str), i, j) := by
                unfold badT
                rw [if_pos hb, er, e2]
                simp only [e1, Option.getD_some]
              rw [e] at k
              exact s_rn o (ep_tup (vs := [.str "Alike", .int (i : Nat), .int (j : Nat)]) (by wtm_at "ev")) fun v H1 N o p => o.ret k (i := 0) (j := 1) rfl rfl p
            · exact ⟨_, rfl, o, fun i' hi' => by
                rcases Nat.lt_succ_iff_lt_or_eq.mp hi' with z | z
                · exact hb2 i' z
                · rw [z]; exact hb3⟩
          · rintro σ H3 ⟨y4, rfl, o, hb2⟩
            refine ⟨_, _, rfl, o, fun j' hj' => ?_⟩
            rcases Nat.lt_succ_iff_lt_or_eq.mp hj' with z | z
            · exact hb1 j' z
            · rw [z]
              unfold badOne
              rw [List.find?_range_eq_none]
              intro i hi
              rw [hb2 i (by omega)]
              rfl
        · rintro σ H1 ⟨y3, y4, rfl, o, hb1⟩
          have e2 : badTwo ls = none := by
            unfold badTwo
            rw [List.find?_range_eq_none]
            intro j hj
            rw [hb1 j (by omega)]
            rfl
          have e : badT ls = (("" : Str), 0, 0) := by
            unfold badT
            rw [if_pos hb, er, e2]
          rw [e] at k
          exact s_rn o (ep_tup (vs := [.str "", .int 0, .int 0]) (by wtm_at "ev")) fun v H1 N o p => o.ret k (i := 0) (j := 1) rfl rfl p
end
section
variable {P : Program} {w : World} {K : PySem.W.Frag} {mg : Str → Option Value} {base : Heap}
end
section
variable {P : Program} {w : World} {K : PySem.W.Frag} {mg : Str → Option Value} {base : Heap}
theorem rc_max2 {H : Hp} {i j : Int} : RC (fun xs H Q => ∃ i j, xs = [.int i, .int j] ∧ Q (.int (if j > i then j else i)) H) [.int i, .int j] H (.int (max i j)) := fun H1 _ _ q => ⟨i, j, rfl, by
  have e : (if j > i then j else i) = max i j := by
    split <;> omega
  rw [e]
  exact q H1 (Ex.refl H1)⟩
section
variable {σ : L2.St} {H : Hp} {te ta tb : TE}
theorem eh_l {xs : List V} (h : EvL te σ H xs) : EvH te σ H (cL fun _ ys => ys = xs) := fun H1 e Q q => h H1 e Q fun p H2 _ e2 h2 => q (.ref p) H2 e2 ⟨p, xs, rfl, h2, rfl⟩
theorem eh_ref {xs : List V} {p : Addr} (h : Ev te σ H (.ref p)) (hp : H p = some (.lst xs)) : EvH te σ H (cL fun _ ys => ys = xs) := fun H1 e Q q => h H1 e Q fun H2 e2 => q (.ref p) H2 e2 ⟨p, xs, rfl, e2 _ _ (e _ _ hp), rfl⟩
theorem eh_catE {xs ys : List V} (ha : EvH ta σ H (cL fun _ zs => zs = xs)) (hb : EvH tb σ H (cL fun _ zs => zs = ys)) (hl : xs.length + ys.length ≤ 100000) : EvH (tOp (rAddU K) ta tb) σ H (cL fun _ zs => zs = xs ++ ys) :=
  eh_cat ha hb (fun _ h => h) (fun _ h => h) fun H1 a b _ h1 h2 => by subst h1 h2; exact ⟨hl, rfl⟩
theorem eh_rep {xs : List V} {k : Int} (ha : EvH ta σ H (cL fun _ zs => zs = xs)) (hb : Ev tb σ H (.int k)) (h0 : 0 ≤ k) (h1 : k ≤ 1000) (hl : xs.length ≤ 50) : EvH (tOp rMulU ta tb) σ H (cL fun _ zs => zs = (List.replicate k.toNat xs).flatten) := fun H1 e Q q =>
  ha H1 e _ fun v H2 e2 ⟨p, ys, ev, hp, hy⟩ => hb H2 (e.trans e2) _ fun H3 e3 => by
    subst ev hy
    have hz : ys.length * k.toNat ≤ 50 * 1000 := Nat.mul_le_mul hl (by omega)
    exact .inl (.inr ⟨p, k, ys, rfl, rfl, e3 _ _ hp, by omega, by omega, Nat.le_trans hz (by decide), fun p2 hp2 => q (.ref p2) _ ((e2.trans e3).trans (Ex.new hp2)) ⟨p2, _, rfl, upd_same, rfl⟩⟩)
end
def OkL (m : Nat) (l : List Str) : Prop := l.length ≤ m ∧ ∀ s ∈ l, TxtOk s
def cLine (m : Nat) : Hp → V → Prop := fun H v => ∃ c l, v = .ref c ∧ H c = some (.lst (l.map V.str)) ∧ OkL m l
theorem cLine_up {m : Nat} : Up (cLine m) := fun e ⟨c, l, h1, h2, h3⟩ => ⟨c, l, h1, e _ _ h2, h3⟩
theorem Cells.mono {H H' : Hp} {p : Addr} {ls : List (List Str)} (e : Ex H H') (h : Cells H p ls) : Cells H' p ls := by
  obtain ⟨xs, h1, h2⟩ := h
  exact ⟨xs, e _ _ h1, CR.mono e h2⟩
theorem eh_line {σ : L2.St} {H : Hp} {te : TE} {xs : List V} {l : List Str} {m : Nat} (h : EvH te σ H (cL fun _ zs => zs = xs)) (e : xs = l.map V.str) (hl : OkL m l) : EvH te σ H (cLine m) := eh_imp h fun H2 v _ ⟨p, ys, h1, h2, h3⟩ => ⟨p, l, h1, by rw [h2, h3, e], hl⟩
theorem paired_append {α β : Type} {R : α → β → Prop} : ∀ {xs : List α} {ys : List β} {us : List α} {ws : List β}, Paired R xs ys → Paired R us ws → Paired R (xs ++ us) (ys ++ ws)
  | _, _, _, _, .nil, h => h
  | _, _, _, _, .cons a r, h => .cons a (paired_append r h)
theorem paired_take {α β : Type} {R : α → β → Prop} : ∀ {xs : List α} {ys : List β} (n : Nat), Paired R xs ys → Paired R (xs.take n) (ys.take n)
  | _, _, 0, _ => by rw [List.take_zero, List.take_zero]; exact .nil
  | _, _, n + 1, .nil => by simp only [List.take_nil]; exact .nil
  | _, _, n + 1, .cons a r => by simp only [List.take_succ_cons]; exact .cons a (paired_take n r)
theorem paired_drop {α β : Type} {R : α → β → Prop} : ∀ {xs : List α} {ys : List β} (n : Nat), Paired R xs ys → Paired R (xs.drop n) (ys.drop n)
  | _, _, 0, h => by rw [List.drop_zero, List.drop_zero]; exact h
  | _, _, n + 1, .nil => by simp only [List.drop_nil]; exact .nil
  | _, _, n + 1, .cons a r => by simp only [List.drop_succ_cons]; exact paired_drop n r
theorem txt_of {s : Str} (h : (decide (s.length ≤ 1000) && s.cps.toList.all fun c => decide (c < 128)) = true) : TxtOk s := by
  simp only [Bool.and_eq_true, decide_eq_true_eq, List.all_eq_true] at h
  exact h
theorem mod_nat {a b : Int} (h : 0 < b) : ∃ m : Nat, a % b = (m : Int) ∧ (m : Int) < b := ⟨(a % b).toNat, by have := Int.emod_nonneg a (show b ≠ 0 by omega); omega, by have := Int.emod_nonneg a (show b ≠ 0 by omega); have := Int.emod_lt_of_pos a h; omega⟩
theorem take_ok {m : Nat} {l : List Str} (n : Nat) (h : OkL m l) : OkL m (l.take n) := ⟨by have := h.1; rw [List.length_take]; omega, fun s hs => h.2 s (List.mem_of_mem_take hs)⟩
theorem app_ok {m a b : Nat} {l r : List Str} (h : OkL a l) (h2 : OkL b r) (hm : a + b ≤ m) : OkL m (l ++ r) := ⟨by have := h.1; have := h2.1; rw [List.length_append]; omega, fun s hs => (List.mem_append.mp hs).elim (h.2 s) (h2.2 s)⟩
theorem cut_line0 (l : List Str) (n : Nat) : cutV (l.map V.str) (some (n : Int)) none = (l.drop n).map V.str := by rw [cutV_drop, List.map_drop]
end
abbrev s__law_spoilt_book : Stmt := topS 76
theorem sc__law_spoilt_book : FnScope ["_law_verses", "_law_d", "_law_at", "_law_line", "_law_here", "_law_odd", "_law_verse_here"] ["_law_verses", "_law_d"] (defScope s__law_spoilt_book) := ⟨rfl, rfl, rfl, by decide +kernel, rfl, by decide +kernel, by decide +kernel⟩
section
variable {P : Program} {w : World} {K : PySem.W.Frag} {mg : Str → Option Value} {base : Heap}
/-! ### rows of any texts -/
structure Sz (m : Nat) (ls : List (List Str)) : Prop where
  pos : 1 ≤ ls.length
  len : ls.length ≤ m
  ok : ∀ l ∈ ls, OkL m l
def cBook (m : Nat) : Hp → V → Prop := fun H v => ∃ p ls, v = .ref p ∧ Cells H p ls ∧ Sz m ls
/-- verses[:at] + [..] + verses[at:] -/
theorem eh_ins {σ : L2.St} {H : Hp} {te : TE} {v : Addr} {ls : List (List Str)} {m n : Nat} (hC : Cells H v ls) (hz : Sz m ls) (hm : 1 ≤ m) (hm2 : m ≤ 1000) (h0 : σ[0]? = some (some (.ref v))) (h2 : σ[2]? = some (some (.int (n : Nat)))) (h : EvH te σ H (cLine (2 * m))) :
    EvH (tOp (rAddU K) (tOp (rAddU K) (tSl (rSlU K) (tVar 0) tNoPart (tPart (tVar 2))) (tLst (tCons te tNil))) (tSl (rSlU K) (tVar 0) (tPart (tVar 2)) tNoPart)) σ H (cBook (2 * m)) := by
  obtain ⟨xs, hv, hR⟩ := hC
  have hlen := Paired.length hR
  have hl := hz.len
  have hp := hz.pos
  refine eh_imp (eh_cat (Ca := fun H zs => ∃ x, zs = xs.take n ++ [x] ∧ cLine (2 * m) H x) (Cb := fun _ zs => zs = xs.drop n) (Cc := fun H zs => ∃ x, zs = xs.take n ++ [x] ++ xs.drop n ∧ cLine (2 * m) H x) (eh_cat (Ca := fun _ zs => zs = xs.take n) (Cb := fun H zs => ∃ x, zs = [x] ∧ cLine (2 * m) H x) (eh_imp (eh_l (el_sl' (ev_var h0) eo_none (eo_some (ev_var h2)) (sq_of hv))) ?_) (eh_imp (eh_lst (ehs_cons h cLine_up ehs_nil) ?_ ?_) ?_) (fun _ h => h) (fun e ⟨x, h1, h2⟩ => ⟨x, h1, cLine_up e h2⟩) ?_) (eh_imp (eh_l (el_sl' (ev_var h0) (eo_some (ev_var h2)) eo_none (sq_of hv))) ?_) (fun e ⟨x, h1, h2⟩ => ⟨x, h1, cLine_up e h2⟩) (fun e ⟨x, h1, h2⟩ => ⟨x, h1, cLine_up e h2⟩) ?_) ?_
  · rintro H2 v _ ⟨p, ys, h1, h2, h3⟩
    exact ⟨p, ys, h1, h2, by rw [h3, cutV_take]⟩
  · rintro H H' ys e ⟨x, us, h1, h2, h3⟩
    exact ⟨x, us, h1, cLine_up e h2, h3⟩
  · rintro H ys ⟨x, us, h1, h2, h3⟩
    rw [h1, h3]
    exact Nat.le_of_ble_eq_true rfl
  · rintro H2 v _ ⟨p, ys, h1, h2, x, us, h3, h4, h5⟩
    exact ⟨p, ys, h1, h2, x, by rw [h3, h5], h4⟩
  · rintro H1 a b _ h1 ⟨x, h2, h3⟩
    rw [h1, h2]
    exact ⟨by rw [List.length_take, List.length_singleton]; omega, x, rfl, h3⟩
  · rintro H2 v _ ⟨p, ys, h1, h2, h3⟩
    exact ⟨p, ys, h1, h2, by rw [h3, cutV_drop]⟩
  · rintro H1 a b _ ⟨x, h1, h3⟩ h2
    rw [h1, h2]
    exact ⟨by rw [List.length_append, List.length_take, List.length_singleton, List.length_drop]; omega, x, rfl, h3⟩
  · rintro H2 v2 e2 ⟨p, ys, h1, h2, x, h3, c, l, h4, h5, h6⟩
    subst h3 h4
    have hR2 : CR H2 xs ls := CR.mono e2 hR
    refine ⟨p, ls.take n ++ [l] ++ ls.drop n, h1, ⟨_, h2, paired_append (paired_append (paired_take n hR2) (.cons ⟨c, rfl, h5⟩ .nil)) (paired_drop n hR2)⟩, ?_, ?_, ?_⟩
    · rw [List.length_append, List.length_append, List.length_singleton]; omega
    · rw [List.length_append, List.length_append, List.length_singleton, List.length_take, List.length_drop]; omega
    · intro l2 hl2
      rcases List.mem_append.mp hl2 with z | z
      · rcases List.mem_append.mp z with z | z
        · have := hz.ok l2 (List.mem_of_mem_take z)
          exact ⟨by have := this.1; omega, this.2⟩
        · rw [List.mem_singleton.mp z]; exact h6
      · have := hz.ok l2 (List.mem_of_mem_drop z)
        exact ⟨by have := this.1; omega, this.2⟩
def oddT : List Str := ["", "abcd", "A", "a b", "-", "a1", " a", "ab\n", "aB"]
theorem oddT_ok {i : Nat} (h : i < 9) : TxtOk (oddT.getD i "") := by
  have z : (List.range 9).all (fun i => decide ((oddT.getD i "").length ≤ 1000) && (oddT.getD i "").cps.toList.all fun c => decide (c < 128)) = true := by decide +kernel
  have z := List.all_eq_true.mp z i (List.mem_range.mpr h)
  simp only [Bool.and_eq_true, decide_eq_true_eq, List.all_eq_true] at z
  exact z
def qs (n : Nat) : Str := Txt.mul "q" (n : Int)
theorem qs_ok {i : Nat} (h : i < 5) : TxtOk (qs i) := by
  have z : (List.range 5).all (fun i => decide ((qs i).length ≤ 1000) && (qs i).cps.toList.all fun c => decide (c < 128)) = true := by decide +kernel
  have z := List.all_eq_true.mp z i (List.mem_range.mpr h)
  simp only [Bool.and_eq_true, decide_eq_true_eq, List.all_eq_true] at z
  exact z
def R__law_spoilt_book (K : PySem.W.Frag) : Rh := ⟨fun vs H C => ∃ (v q : Addr) (ls : List (List Str)) (ns : List Int) (m : Nat), vs = [.ref v, .ref q] ∧ Cells H v ls ∧ Sz m ls ∧ 40 ≤ m ∧ m ≤ 300 ∧ Nm K H q ns ∧ 5 ≤ ns.length ∧ C = cBook (2 * m),
  fun e ⟨v, q, ls, ns, m, h1, h2, h3, h4, h5, h6, h7⟩ => ⟨v, q, ls, ns, m, h1, h2.mono e, h3, h4, h5, h6.mono e, h7⟩⟩
theorem rep_a (n : Nat) : (List.replicate n [V.str "a"]).flatten = (List.replicate n ("a" : Str)).map V.str := by
  induction n with
  | zero => rfl
  | succ n ih => rw [List.replicate_succ, List.replicate_succ, List.flatten_cons, ih]; rfl
theorem ok__law_spoilt_book (B : Bt mg) (D : Df K mg "_law_spoilt_book" s__law_spoilt_book ["_law_verses", "_law_d"]) : Ok P w K mg base 1 "_law_spoilt_book" ["_law_verses", "_law_d"] ((R__law_spoilt_book K).sp) := by
  refine D.ok sc__law_spoilt_book (fun vs H Q E h => ?_) (fun f cdv A outer s H vs Q E hr h => ?_)
  · obtain ⟨C, ⟨v, q, ls, ns, m, rfl, _⟩, _⟩ := h
    rfl
  · obtain ⟨C, ⟨v, q, ls, ns, m, rfl, hC, hz, hm1, hm2, ⟨hN, hall⟩, hl, rfl⟩, k⟩ := h
    refine ⟨_, (pss_cons (ps_set (i := 2) sc__law_spoilt_book.nd rfl (.inl rfl) (pe_op op_mod (pe_ix (ix_seqK K) (pv 1) pe_int (fun _ _ => rfl)) (pe_op (op_addK K) (pe_callB (call_lenK K) (by rfl) B.len boot_b_len (pa_cons (pv 0) pa_nil)) pe_int)))
      (pss_cons (ps_set (i := 3) sc__law_spoilt_book.nd rfl (.inl rfl) (pe_ix (ix_seqK K) (pv 0) (pe_op op_mod (pe_ix (ix_seqK K) (pv 1) pe_int (fun _ _ => rfl)) (pe_callB (call_lenK K) (by rfl) B.len boot_b_len (pa_cons (pv 0) pa_nil))) (fun _ _ => rfl)))
      (pss_cons (ps_set (i := 4) sc__law_spoilt_book.nd rfl (.inl rfl) (pe_op op_mod (pe_ix (ix_seqK K) (pv 1) pe_int (fun _ _ => rfl)) (pe_callB (call_max2 rfl) (by rfl) B.max boot_b_max (pa_cons pe_int (pa_cons (pe_callB (call_lenK K) (by rfl) B.len boot_b_len (pa_cons (pv 3) pa_nil)) pa_nil)))))
      (pss_cons (ps_if (pt_cmpR (op_eqK K (hu65 hr)) (pe_op op_mod (pe_ix (ix_seqK K) (pv 1) pe_int (fun _ _ => rfl)) pe_int) pe_int (nomark _))
        (pss_cons (ps_set (i := 5) sc__law_spoilt_book.nd rfl (.inl rfl) (pe_ix (ix_seqK K) (pe_lst (pa_cons pe_str (pa_cons pe_str (pa_cons pe_str (pa_cons pe_str (pa_cons pe_str (pa_cons pe_str (pa_cons pe_str (pa_cons pe_str (pa_cons pe_str pa_nil)))))))))) (pe_op op_mod (pe_ix (ix_seqK K) (pv 1) pe_int (fun _ _ => rfl)) pe_int) (fun _ _ => rfl)))
        (pss_cons (ps_set (i := 3) sc__law_spoilt_book.nd rfl (.inl rfl) (pe_op (op_addK K) (pe_op (op_addK K) (pe_slice (sl_K K) (pv 3) po_none (po_some (pv 4))) (pe_lst (pa_cons (pv 5) pa_nil))) (pe_slice (sl_K K) (pv 3) (po_some (pe_op (op_addK K) (pv 4) pe_int)) po_none)))
        (pss_one (ps_ret (pe_op (op_addK K) (pe_op (op_addK K) (pe_slice (sl_K K) (pv 0) po_none (po_some (pv 2))) (pe_lst (pa_cons (pv 3) pa_nil))) (pe_slice (sl_K K) (pv 0) (po_some (pv 2)) po_none))))))
        pss_nil)
      (pss_cons (ps_if (pt_cmpR (op_eqK K (hu65 hr)) (pe_op op_mod (pe_ix (ix_seqK K) (pv 1) pe_int (fun _ _ => rfl)) pe_int) pe_int (nomark _))
        (pss_one (ps_ret (pe_op (op_addK K) (pe_op (op_addK K) (pe_slice (sl_K K) (pv 0) po_none (po_some (pv 2))) (pe_lst (pa_cons (pe_slice (sl_K K) (pv 3) po_none (po_some (pv 4))) pa_nil))) (pe_slice (sl_K K) (pv 0) (po_some (pv 2)) po_none))))
        pss_nil)
      (pss_cons (ps_if (pt_cmpR (op_eqK K (hu65 hr)) (pe_op op_mod (pe_ix (ix_seqK K) (pv 1) pe_int (fun _ _ => rfl)) pe_int) pe_int (nomark _))
        (pss_one (ps_ret (pe_op (op_addK K) (pe_op (op_addK K) (pe_slice (sl_K K) (pv 0) po_none (po_some (pv 2))) (pe_lst (pa_cons (pe_op (op_addK K) (pv 3) (pe_op op_mulU (pe_lst (pa_cons pe_str pa_nil)) (pe_op op_mod (pe_ix (ix_seqK K) (pv 1) pe_int (fun _ _ => rfl)) pe_int))) pa_nil))) (pe_slice (sl_K K) (pv 0) (po_some (pv 2)) po_none))))
        pss_nil)
      (pss_cons (ps_if (pt_cmpR (op_eqK K (hu65 hr)) (pe_op op_mod (pe_ix (ix_seqK K) (pv 1) pe_int (fun _ _ => rfl)) pe_int) pe_int (nomark _))
        (pss_one (ps_ret (pe_op (op_addK K) (pe_op (op_addK K) (pe_slice (sl_K K) (pv 0) po_none (po_some (pv 2))) (pe_lst (pa_cons (pe_op (op_addK K) (pe_slice (sl_K K) (pv 3) po_none (po_some (pv 4))) (pe_slice (sl_K K) (pe_lst (pa_cons pe_str (pa_cons pe_str pa_nil))) po_none (po_some (pe_op op_mod (pe_ix (ix_seqK K) (pv 1) pe_int (fun _ _ => rfl)) pe_int)))) pa_nil))) (pe_slice (sl_K K) (pv 0) (po_some (pv 2)) po_none))))
        pss_nil)
      (pss_cons (ps_if (pt_cmpR (op_eqK K (hu65 hr)) (pe_op op_mod (pe_ix (ix_seqK K) (pv 1) pe_int (fun _ _ => rfl)) pe_int) pe_int (nomark _))
        (pss_one (ps_ret (pe_op (op_addK K) (pe_op (op_addK K) (pe_slice (sl_K K) (pv 0) po_none (po_some (pv 2))) (pe_lst (pa_cons (pe_lst (pa_cons pe_str (pa_cons (pe_op op_mulU pe_str (pe_op (op_addK K) pe_int (pe_op op_mod (pe_ix (ix_seqK K) (pv 1) pe_int (fun _ _ => rfl)) pe_int))) pa_nil))) pa_nil))) (pe_slice (sl_K K) (pv 0) (po_some (pv 2)) po_none))))
        pss_nil)
      (pss_one (ps_ret (pe_op (op_addK K) (pv 0) (pe_lc (own := [("_law_verse_here", 6)]) rfl sc__law_spoilt_book.nd (pi_listK K (pv 0)) (blkOk_by (N := ["_law_verses", "_law_d", "_law_at", "_law_line", "_law_here", "_law_odd", "_law_verse_here"]) (sc := defScope s__law_spoilt_book) (by decide +kernel)) (fun _ _ _ _ _ => (pg_name (i := 6) sc__law_spoilt_book.nd rfl (.inl rfl))) (fun _ _ _ _ _ => pts_nil) (fun _ _ _ _ _ => (pe_op (op_addK K) (pe_lst (pa_cons pe_str pa_nil)) (pe_slice (sl_K K) (pv 6) po_none (po_some pe_int)))))))))))))))), ?_⟩
    have a0 := atI_map (ns := ns) (j := 0) (by omega)
    have a1 := atI_map (ns := ns) (j := 1) (by omega)
    have a2 := atI_map (ns := ns) (j := 2) (by omega)
    have a3 := atI_map (ns := ns) (j := 3) (by omega)
    have a4 := atI_map (ns := ns) (j := 4) (by omega)
    obtain ⟨xs, hv, hR⟩ := id hC
    have hlen := Paired.length hR
    have hpos := hz.pos
    have hle := hz.len
    obtain ⟨n, hn, hn2⟩ := mod_nat (a := ns[1]) (b := ((xs.length : Nat) : Int) + 1) (by omega)
    obtain ⟨i, hi, hi2⟩ := mod_nat (a := ns[2]) (b := ((xs.length : Nat) : Int)) (by omega)
    refine q_v (v := .int (n : Nat)) (Own.one H) (ev_is (ev_op (ev_op (ev_var rfl) ev_c (rv_ixLs hN a1)) (ev_op (ev_cb (by wtm_at "ev") (rc_lenL (sq_of hv))) ev_c rv_addI) (rv_I (show (0 : Int) < _ by omega))) (congrArg V.int hn)) fun H1 o => ?_
    have hil : i < ls.length := by omega
    obtain ⟨x, hx⟩ : ∃ x, xs[i]? = some x := ⟨_, List.getElem?_eq_getElem (by omega)⟩
    obtain ⟨l, hl1, c, rfl, hc⟩ := paired_get hR hx
    have hlo := hz.ok l (List.mem_of_getElem? hl1)
    refine q_v (v := .ref c) o (ev_op (ev_var rfl) (ev_is (ev_op (ev_op (ev_var rfl) ev_c (rv_ixLs (ex_l o.e0 hN) a2)) (ev_cb (by wtm_at "ev") (rc_lenL (sq_of (o.e0 _ _ hv)))) (rv_I (show (0 : Int) < _ by omega))) (congrArg V.int hi)) (rv_ixLs (sq_of (o.e0 _ _ hv)) (atI_nat hx))) fun H1 o => ?_
    obtain ⟨t, ht, ht2⟩ := mod_nat (a := ns[3]) (b := max 1 (((l.map V.str).length : Nat) : Int)) (by omega)
    refine q_v (v := .int (t : Nat)) o (ev_is (ev_op (ev_op (ev_var rfl) ev_c (rv_ixLs (ex_l o.e0 hN) a3)) (ev_cb (ea_cons ev_c (ea_cons (ev_cb (by wtm_at "ev") (rc_lenL (sq_of (o.e0 _ _ hc)))) ea_nil)) rc_max2) (rv_I (show (0 : Int) < _ by omega))) (congrArg V.int ht)) fun H1 o => ?_
    have hcl : ∀ {H2 : Hp}, Own [H] H2 → H2 c = some (.lst (l.map V.str)) := fun o => o.e0 _ _ hc
    have hup : OkL (2 * m) l := ⟨by have := hlo.1; omega, hlo.2⟩
    refine q_wh o (by wtm_at "ev") (fun hb H1 o => ?_) (fun hb H1 o => ?_)
    · obtain ⟨d, hd, hd2⟩ := mod_nat (a := ns[4]) (b := 9) (by decide)
      have hd3 : d < 9 := by omega
      have ao : atI (oddT.map V.str) ((d : Nat) : Int) = some (.str (oddT.getD d "")) := atI_nat (by
        rw [List.getElem?_map, List.getElem?_eq_getElem (show d < oddT.length from hd3), List.getD_eq_getElem?_getD, List.getElem?_eq_getElem (show d < oddT.length from hd3)]
        rfl)
      refine q_v (v := .str (oddT.getD d "")) o (ev_op1 (P := pLst (oddT.map V.str)) (ep_lst (by wtm_at "ev")) (ev_is (ev_op (ev_op (ev_var rfl) ev_c (rv_ixLs (ex_l o.e0 hN) a4)) ev_c (rv_I (by decide))) (congrArg V.int hd)) fun v N H1 _ i1 ⟨c, e, hc⟩ => by subst e; exact rv_ixLs (sq_of (i1 _ _ hc)) ao) fun H1 o => ?_
      have hll := hlo.1
      refine q_h (C := cLine (2 * m)) (eh_line (xs := (l.take t).map V.str ++ [.str (oddT.getD d "")] ++ (l.drop (t + 1)).map V.str) (l := l.take t ++ [oddT.getD d ""] ++ l.drop (t + 1)) (eh_catE (eh_catE (eh_l (el_is (el_sl' (ev_var rfl) eo_none (eo_some (ev_var rfl)) (sq_of (hcl o))) (cut_line l t))) (eh_l (el_lst (by wtm_at "ev") (Nat.le_of_ble_eq_true rfl))) (by rw [List.length_map, List.length_take, List.length_singleton]; omega)) (eh_l (el_is (el_sl' (ev_var rfl) (eo_some (i := ((t + 1 : Nat) : Int)) (ev_op (ev_var rfl) ev_c rv_addI)) eo_none (sq_of (hcl o))) (cut_line0 l (t + 1)))) (by rw [List.length_append, List.length_map, List.length_take, List.length_singleton, List.length_map, List.length_drop]; omega)) (by rw [List.map_append, List.map_append]; rfl) ⟨by rw [List.length_append, List.length_append, List.length_take, List.length_singleton, List.length_drop]; omega, fun s hs => ?_⟩) fun v2 H2 e2 hv2 => ?_
      · rcases List.mem_append.mp hs with z | z
        · rcases List.mem_append.mp z with z | z
          · exact hlo.2 s (List.mem_of_mem_take z)
          · rw [List.mem_singleton.mp z]; exact oddT_ok hd3
        · exact hlo.2 s (List.mem_of_mem_drop z)
      · have o := o.mono e2
        refine s_rh (eh_ins (n := n) (hC.mono o.e0) hz (by omega) (by omega) rfl rfl ?_) fun v3 H3 e3 c3 => k v3 H3 (o.e0.trans e3) c3
        obtain ⟨c2, l2, rfl, hc2, hl2⟩ := hv2
        exact eh_line (l := l2) (eh_ref (ev_var rfl) hc2) rfl hl2
    · refine q_wh o (by wtm_at "ev") (fun hb H1 o => ?_) (fun hb H1 o => ?_)
      · refine s_rh (eh_ins (n := n) (hC.mono o.e0) hz (by omega) (by omega) rfl rfl ?_) fun v3 H3 e3 c3 => k v3 H3 (o.e0.trans e3) c3
        exact eh_line (eh_l (el_is (el_sl' (ev_var rfl) eo_none (eo_some (ev_var rfl)) (sq_of (hcl o))) (cut_line l t))) rfl (take_ok t hup)
      · refine q_wh o (by wtm_at "ev") (fun hb H1 o => ?_) (fun hb H1 o => ?_)
        · refine s_rh (eh_ins (n := n) (hC.mono o.e0) hz (by omega) (by omega) rfl rfl ?_) fun v3 H3 e3 c3 => k v3 H3 (o.e0.trans e3) c3
          obtain ⟨d, hd, hd2⟩ := mod_nat (a := ns[4]) (b := 9) (by decide)
          have hll := hlo.1
          refine eh_line (l := l ++ List.replicate d ("a" : Str)) (eh_catE (eh_ref (ev_var rfl) (hcl o)) (eh_rep (k := (d : Nat)) (xs := [.str "a"]) (eh_l (el_lst (by wtm_at "ev") (Nat.le_of_ble_eq_true rfl))) (ev_is (ev_op (ev_op (ev_var rfl) ev_c (rv_ixLs (ex_l o.e0 hN) a4)) ev_c (rv_I (by decide))) (congrArg V.int hd)) (by omega) (by omega) (by decide)) ?_) ?_ (app_ok (a := m) (b := 8) hlo ⟨by rw [List.length_replicate]; omega, fun s hs => ?_⟩ (by omega))
          · rw [show ((d : Nat) : Int).toNat = d from rfl, rep_a, List.length_map, List.length_map, List.length_replicate]; omega
          · rw [show ((d : Nat) : Int).toNat = d from rfl, rep_a, List.map_append]
          · rw [List.eq_of_mem_replicate hs]; exact txt_of (by decide +kernel)
        · refine q_wh o (by wtm_at "ev") (fun hb H1 o => ?_) (fun hb H1 o => ?_)
          · refine s_rh (eh_ins (n := n) (hC.mono o.e0) hz (by omega) (by omega) rfl rfl ?_) fun v3 H3 e3 c3 => k v3 H3 (o.e0.trans e3) c3
            obtain ⟨d, hd, hd2⟩ := mod_nat (a := ns[4]) (b := 3) (by decide)
            have hll := hlo.1
            refine eh_line (l := l.take t ++ (["zzz", "q"] : List Str).take d) (eh_catE (eh_l (el_is (el_sl' (ev_var rfl) eo_none (eo_some (ev_var rfl)) (sq_of (hcl o))) (cut_line l t))) (ys := ((["zzz", "q"] : List Str).take d).map V.str) (eh_imp (eh_p (ep_slN (ys := ((["zzz", "q"] : List Str).take d).map V.str) (xs := (["zzz", "q"] : List Str).map V.str) (ep_lst (by wtm_at "ev")) eo_none (eo_some (ev_is (ev_op (ev_op (ev_var rfl) ev_c (rv_ixLs (ex_l o.e0 hN) a4)) ev_c (rv_I (by decide))) (congrArg V.int hd))) (cut_line _ d))) fun H2 v _ ⟨N, i2, p, h1, h2⟩ => ⟨p, _, h1, i2 _ _ h2, rfl⟩) ?_) (by rw [List.map_append]) (app_ok (a := m) (b := 2) (take_ok t hlo) ⟨by rw [List.length_take]; show min d 2 ≤ 2; omega, fun s hs => ?_⟩ (by omega))
            · rw [List.length_map, List.length_map, List.length_take, List.length_take]
              show _ + min d 2 ≤ _
              omega
            · have hs := List.mem_of_mem_take hs
              rcases List.mem_cons.mp hs with z | z
              · rw [z]; exact txt_of (by decide +kernel)
              · rw [List.mem_singleton.mp z]; exact txt_of (by decide +kernel)
          · refine q_wh o (by wtm_at "ev") (fun hb H1 o => ?_) (fun hb H1 o => ?_)
            · refine s_rh (eh_ins (n := n) (hC.mono o.e0) hz (by omega) (by omega) rfl rfl ?_) fun v3 H3 e3 c3 => k v3 H3 (o.e0.trans e3) c3
              obtain ⟨d, hd, hd2⟩ := mod_nat (a := ns[4]) (b := 4) (by decide)
              refine eh_line (l := ["zz", qs (1 + d)]) (eh_l (xs := [.str "zz", .str (qs (1 + d))]) (el_lst (ea_cons ev_c (ea_cons (ev_op (y := .int ((1 + d : Nat) : Int)) ev_c (ev_is (ev_op ev_c (ev_is (ev_op (ev_op (ev_var rfl) ev_c (rv_ixLs (ex_l o.e0 hN) a4)) ev_c (rv_I (by decide))) (congrArg V.int hd)) rv_addI) (by congr 1)) (rv_mulS ?_)) ea_nil)) (Nat.le_of_ble_eq_true rfl))) rfl ⟨by show 2 ≤ 2 * m; omega, fun s hs => ?_⟩
              · have hd3 : d < 4 := by omega
                rcases d with _ | _ | _ | _ | d
                · unfold MulOk; decide +kernel
                · unfold MulOk; decide +kernel
                · unfold MulOk; decide +kernel
                · unfold MulOk; decide +kernel
                · omega
              · rcases List.mem_cons.mp hs with z | z
                · rw [z]; exact txt_of (by decide +kernel)
                · rw [List.mem_singleton.mp z]; exact qs_ok (by omega)
            · have hv1 := o.e0 _ _ hv
              have hR1 : CR H1 xs ls := CR.mono o.e0 hR
              refine s_rh (C := cBook (2 * m)) (eh_imp (eh_cat (Ca := fun _ zs => zs = xs) (Cb := fun H2 zs => CR H2 zs (ls.map fun l => ("qq" : Str) :: l.take 1)) (Cc := fun H2 zs => ∃ ys, zs = xs ++ ys ∧ CR H2 ys (ls.map fun l => ("qq" : Str) :: l.take 1)) (eh_ref (ev_var rfl) hv1) (eh_imp (eh_p (ep_lc (n := xs.length) (fun j => [some (.ref v), some (.ref q), some (.int (n : Nat)), some (.ref c), some (.int (t : Nat)), none, some (xs.getD j .non)]) (fun _ => true) (fun j N y => ∃ p, y = .ref p ∧ N p = some (.lst ((("qq" : Str) :: (row1 ls j).take 1).map V.str))) (fun j N N' v e ⟨p, h3, h4⟩ => ⟨p, h3, e _ _ h4⟩) (ei_list (ev_var rfl) (sq_of hv1) (Ex.refl _)) (Ex.refl _) (by omega) (fun j x H' _ hx Q q => by rw [getD_of hx] at q; exact q) (fun _ _ => rfl) (fun _ _ _ _ => et_yes) (fun j H2 e2 hlt _ => ?_))) ?_) (fun _ h => h) (fun e ⟨ys, h1, h2⟩ => ⟨ys, h1, CR.mono e h2⟩) ?_) ?_) fun v3 H3 e3 c3 => k v3 H3 (o.e0.trans e3) c3
              · obtain ⟨x, hx⟩ : ∃ x, xs[j]? = some x := ⟨_, List.getElem?_eq_getElem hlt⟩
                obtain ⟨l2, hl2, c2, rfl, hc2⟩ := paired_get hR1 hx
                have er : row1 ls j = l2 := by unfold row1; rw [List.getD_eq_getElem?_getD, hl2]; rfl
                rw [getD_of hx, er]
                refine ep_catN (P1 := pLst [.str "qq"]) (P2 := pLst ((l2.take 1).map V.str)) (ep_lst (by wtm_at "ev")) (ep_l (el_is (el_sl' (ev_var rfl) eo_none (eo_some ev_c) (sq_of (e2 _ _ hc2))) (cut_line l2 1))) ?_
                rintro N1 N2 H3 v1 v2 e i1 i2 ⟨a, rfl, ha⟩ ⟨b, rfl, hb⟩
                exact ⟨a, b, _, _, rfl, rfl, i1 _ _ ha, i2 _ _ hb, by rw [List.length_map, List.length_take, List.length_singleton]; omega, fun p => ⟨p, rfl, by rw [sing_at]; rfl⟩⟩
              · rintro H2 v2 _ ⟨N, i2, p, ys, rfl, hp, hpr⟩
                refine ⟨p, ys, rfl, i2 _ _ hp, ?_⟩
                rw [picks_all] at hpr
                have hly := Paired.length hpr
                rw [List.length_range] at hly
                refine paired_of (by rw [List.length_map]; omega) fun j y l2 h1 h2 => ?_
                have hj : j < ls.length := by
                  have := (List.getElem?_eq_some_iff.mp h1).1
                  omega
                obtain ⟨y', h3, p2, h4, h5⟩ := paired_get hpr (i := j) (x := j) (List.getElem?_range (by omega))
                rw [h1] at h3
                cases h3
                rw [List.getElem?_map, row1_get hj] at h2
                obtain rfl := Option.some.inj h2
                exact ⟨p2, h4, i2 _ _ h5⟩
              · rintro H2 a b _ h1 h2
                have := Paired.length h2
                rw [List.length_map] at this
                rw [h1]
                exact ⟨by omega, b, rfl, h2⟩
              · rintro H2 v2 e2 ⟨p, zs, h1, h2, ys, rfl, hys⟩
                have := Paired.length hys
                rw [List.length_map] at this
                refine ⟨p, ls ++ ls.map (fun l => ("qq" : Str) :: l.take 1), h1, ⟨_, h2, paired_append (CR.mono e2 hR1) hys⟩, ?_, ?_, ?_⟩
                · rw [List.length_append]; omega
                · rw [List.length_append, List.length_map]; omega
                · intro l2 hl2
                  rcases List.mem_append.mp hl2 with z | z
                  · have := hz.ok l2 z
                    exact ⟨by have := this.1; omega, this.2⟩
                  · obtain ⟨l3, h3, rfl⟩ := List.mem_map.mp z
                    refine ⟨?_, fun s hs => ?_⟩
                    · rw [List.length_cons, List.length_take]; omega
                    · rcases List.mem_cons.mp hs with z | z
                      · rw [z]; exact txt_of (by decide +kernel)
                      · exact (hz.ok l3 h3).2 s (List.mem_of_mem_take z)
end
section
variable {P : Program} {w : World} {K : PySem.W.Frag} {mg : Str → Option Value} {base : Heap}
/-- whole numbers at u -/
def Nl (K : PySem.W.Frag) (H : Hp) (u : Addr) (ns : List Int) : Prop := SqL K H u (ns.map V.int) ∧ ns.length ≤ 1000
theorem Nl.mono {H H' : Hp} {u : Addr} {ns : List Int} (e : Ex H H') (h : Nl K H u ns) : Nl K H' u ns := ⟨ex_l e h.1, h.2⟩
def okN (m : Nat) (ns : List Int) : Bool := ns.all fun n => decide (0 ≤ n) && decide (n < (m : Int))
end
section
variable {P : Program} {w : World} {K : PySem.W.Frag} {mg : Str → Option Value} {base : Heap}
theorem dpa_map {α : Type} {f : α → PyData} {H : Hp} : ∀ {xs : List V} {l : List α}, Paired (fun x q => Dp K H x (f q)) xs l → DpAll K H xs (l.map f)
  | _, _, .nil => .nil
  | _, _, .cons h r => .cons h (dpa_map r)
/-- a new list of new pairs -/
def CP (N : Hp) (xs : List V) (acc : List (Str × Nat)) : Prop := Paired (fun x q => ∃ t, x = V.ref t ∧ N t = some (.tup [.str q.1, .int (q.2 : Nat)])) xs acc
theorem CP.mono {N M : Hp} {xs : List V} {acc : List (Str × Nat)} (e : Ex N M) (h : CP N xs acc) : CP M xs acc := paired_imp (fun _ _ ⟨q, h1, h2⟩ => ⟨q, h1, e _ _ h2⟩) h
abbrev eCnt (p : Str × Nat) : PyData := .tuple [.str p.1, .int (p.2 : Nat)]
theorem CP.dp {N : Hp} {xs : List V} {acc : List (Str × Nat)} (h : CP N xs acc) : DpAll K N xs (acc.map eCnt) := dpa_map (paired_imp (fun x q ⟨t, h1, h2⟩ => by rw [h1]; exact .tup (st_of h2) (.cons (.str _) (.cons (.int _) .nil))) h)
end
section
variable {P : Program} {w : World} {K : PySem.W.Frag} {mg : Str → Option Value} {base : Heap}
/-- numbers of verses below n -/
def Un (n : Nat) (us : List Nat) : Prop := (∀ i ∈ us, i < n) ∧ us.length ≤ n + 2
end
section
variable {P : Program} {w : World} {K : PySem.W.Frag} {mg : Str → Option Value} {base : Heap}
abbrev intsN (us : List Nat) : List Int := us.map fun i => ((i : Nat) : Int)
theorem Un.ok {n : Nat} {us : List Nat} (h : Un n us) : okN n (intsN us) = true := by
  unfold okN
  refine List.all_eq_true.mpr fun x hx => ?_
  obtain ⟨i, hi, rfl⟩ := List.mem_map.mp hx
  have := h.1 i hi
  rw [decide_eq_true (by omega), decide_eq_true (by omega)]
  rfl
end
section
variable {K : PySem.W.Frag} {σ : L2.St} {H : Hp} {ta tb te : TE} {D : Ends} {tz : TS} {Ns : List Hp}
section
variable {n j : Nat} {tu : TS}
end
end
section
variable {P : Program} {w : World} {K : PySem.W.Frag} {mg : Str → Option Value} {base : Heap}
/-! ### rows of numbers -/
abbrev eRws (rs : List (List Int)) : PyData := .list (rs.map eInts)
def RwS (K : PySem.W.Frag) (H : Hp) (xs : List V) (rs : List (List Int)) : Prop := Paired (fun x l => ∃ q, x = V.ref q ∧ SqL K H q (l.map V.int)) xs rs
theorem RwS.mono {H H' : Hp} {xs : List V} {rs : List (List Int)} (e : Ex H H') (h : RwS K H xs rs) : RwS K H' xs rs := paired_imp (fun _ _ ⟨q, a, b⟩ => ⟨q, a, ex_l e b⟩) h
theorem dp_rws {H : Hp} {x : V} {rs : List (List Int)} : Dp K H x (eRws rs) ↔ ∃ q xs, x = .ref q ∧ SqL K H q xs ∧ RwS K H xs rs := by
  constructor
  · intro h
    cases h with
    | lst h r =>
      refine ⟨_, _, rfl, h, ?_⟩
      clear h
      rename_i q xs
      induction rs generalizing xs with
      | nil => cases r; exact .nil
      | cons l rs ih =>
        cases r with
        | cons a r =>
          obtain ⟨q, e, s⟩ := dp_ints.mp a
          exact .cons ⟨q, e, s⟩ (ih r)
  · rintro ⟨q, xs, rfl, h, r⟩
    exact .lst h (dpa_map (paired_imp (fun x l ⟨q, e, s⟩ => dp_ints.mpr ⟨q, e, s⟩) r))
/-- rows of numbers at r -/
def Rw (K : PySem.W.Frag) (H : Hp) (r : Addr) (rs : List (List Int)) : Prop := Dp K H (.ref r) (eRws rs) ∧ rs.length ≤ 1000 ∧ ∀ l ∈ rs, l.length ≤ 1000
theorem Rw.mono {H H' : Hp} {r : Addr} {rs : List (List Int)} (e : Ex H H') (h : Rw K H r rs) : Rw K H' r rs := ⟨dp_mono e h.1, h.2⟩
theorem Rw.rows {H : Hp} {r : Addr} {rs : List (List Int)} (h : Rw K H r rs) : ∃ xs, SqL K H r xs ∧ RwS K H xs rs := by
  obtain ⟨q, xs, e, h1, h2⟩ := dp_rws.mp h.1
  cases e
  exact ⟨xs, h1, h2⟩
theorem Rw.ly {H : Hp} {r : Addr} {rs : List (List Int)} (h : Rw K H r rs) : Ly 2 (eRws rs) := ly_list (by rw [List.length_map]; have := h.2.1; omega) fun d hd => by
  obtain ⟨l, hl, rfl⟩ := List.mem_map.mp hd
  exact ly_ints (by have := h.2.2 l hl; omega)
theorem RwS.get {H : Hp} {xs : List V} {rs : List (List Int)} {i : Nat} {l : List Int} (h : RwS K H xs rs) (hi : rs[i]? = some l) : ∃ q, xs[i]? = some (.ref q) ∧ SqL K H q (l.map V.int) := by
  have hlen := Paired.length h
  have hlt := (List.getElem?_eq_some_iff.mp hi).1
  have hx : xs[i]? = some xs[i] := List.getElem?_eq_getElem (by omega)
  obtain ⟨y, hy, q, e, s⟩ := LiI.paired_get h hx
  rw [hi] at hy
  cases hy
  exact ⟨q, by rw [hx, e], s⟩
/-- rows that lie in N itself -/
def CIi (N : Hp) (xs : List V) (rs : List (List Int)) : Prop := Paired (fun x l => ∃ t, x = V.ref t ∧ N t = some (.lst (l.map V.int))) xs rs
theorem CIi.mono {N N' : Hp} {xs : List V} {rs : List (List Int)} (e : Ex N N') (h : CIi N xs rs) : CIi N' xs rs := paired_imp (fun _ _ ⟨t, a, b⟩ => ⟨t, a, e _ _ b⟩) h
theorem CIi.rw {N : Hp} {p : Addr} {xs : List V} {rs : List (List Int)} (h : N p = some (.lst xs)) (c : CIi N xs rs) (h1 : rs.length ≤ 1000) (h2 : ∀ l ∈ rs, l.length ≤ 1000) : Rw K N p rs := ⟨dp_rws.mpr ⟨p, xs, rfl, sq_of h, paired_imp (fun _ _ ⟨t, a, b⟩ => ⟨t, a, sq_of b⟩) c⟩, h1, h2⟩
/-! ### what a field may be -/
def okCd (n : Nat) (c : Int) : Bool := decide (0 ≤ c) && decide (c < (n : Int))
def okRw (n : Nat) (l : List Int) : Bool := decide ((l.length : Int) ≤ 12) && l.all (okCd n)
def fldM (n : Nat) (rs : List (List Int)) : Bool := (decide ((1 : Int) ≤ (rs.length : Int)) && decide ((rs.length : Int) ≤ 3)) && rs.all (okRw n)
end
section
variable {P : Program} {w : World} {K : PySem.W.Frag} {mg : Str → Option Value} {base : Heap}
/-! ### where the cards lie -/
abbrev Pl := Int × Nat × Nat × Nat
def cardsP (f r : Nat) (l : List Int) : List Pl := l.zipIdx.map fun p => (p.1, f, r, p.2)
def rowsP (f : Nat) (rs : List (List Int)) : List Pl := rs.zipIdx.flatMap fun p => cardsP f p.2 p.1
def plM (Fs : List (List (List Int))) : List Pl := Fs.zipIdx.flatMap fun p => rowsP p.2 p.1
/-- the dict of the places; the tuples lie in N -/
def KP (N : Hp) (kvs : List (Key × V)) (acc : List Pl) : Prop := Paired (fun kv q => kv.1 = .inl q.1 ∧ ∃ t, kv.2 = V.ref t ∧ N t = some (.tup [.int (q.2.1 : Nat), .int (q.2.2.1 : Nat), .int (q.2.2.2 : Nat)])) kvs acc
theorem KP.mono {N N' : Hp} {kvs : List (Key × V)} {acc : List Pl} (e : Ex N N') (h : KP N kvs acc) : KP N' kvs acc := paired_imp (fun _ _ ⟨a, t, b, c⟩ => ⟨a, t, b, e _ _ c⟩) h
theorem KP.has : ∀ {N : Hp} {kvs : List (Key × V)} {acc : List Pl} (c : Int), KP N kvs acc → (valV kvs (.inl c)).isSome = decide (c ∈ acc.map (·.1))
  | _, [], _, c, .nil => by simp [valV]
  | _, (k, v) :: kvs, q :: acc, c, .cons h r => by
    have ih := KP.has c r
    have hk : k = .inl q.1 := h.1
    by_cases e : q.1 = c
    · have h1 : valV ((k, v) :: kvs) (.inl c) = some v := valV_pos (p := (k, v)) (by rw [hk, e])
      rw [h1]
      simp [e]
    · have h1 : valV ((k, v) :: kvs) (.inl c) = valV kvs (.inl c) := valV_neg (p := (k, v)) (fun z => e (by rw [hk] at z; exact Sum.inl.inj z))
      rw [h1, ih]
      have : c ∈ (q :: acc).map (·.1) ↔ c ∈ acc.map (·.1) := by
        rw [List.map_cons, List.mem_cons]
        exact ⟨fun z => z.elim (fun y => absurd y.symm e) id, .inr⟩
      by_cases hm : c ∈ acc.map (·.1)
      · rw [decide_eq_true hm, decide_eq_true (this.mpr hm)]
      · rw [decide_eq_false hm, decide_eq_false fun z => hm (this.mp z)]
theorem KP.val : ∀ {N : Hp} {kvs : List (Key × V)} {acc : List Pl} {q : Pl}, KP N kvs acc → (acc.map (·.1)).Nodup → q ∈ acc → ∃ t, valV kvs (.inl q.1) = some (.ref t) ∧ N t = some (.tup [.int (q.2.1 : Nat), .int (q.2.2.1 : Nat), .int (q.2.2.2 : Nat)])
  | _, [], _, q, .nil, _, hq => by cases hq
  | _, (k, v) :: kvs, p :: acc, q, .cons h r, nd, hq => by
    rw [List.map_cons] at nd
    obtain ⟨n1, n2⟩ := List.nodup_cons.mp nd
    have hk : k = .inl p.1 := h.1
    rcases List.mem_cons.mp hq with e | e
    · subst e
      obtain ⟨_, t, hv, ht⟩ := h
      exact ⟨t, by rw [valV_pos (p := (k, v)) (show k = .inl q.1 from hk)]; exact congrArg some hv, ht⟩
    · have ne : ¬ k = .inl q.1 := fun z => n1 (by
        rw [hk] at z
        rw [Sum.inl.inj z]
        exact List.mem_map.mpr ⟨q, e, rfl⟩)
      obtain ⟨t, h1, h2⟩ := KP.val r n2 e
      exact ⟨t, by rw [valV_neg (p := (k, v)) ne]; exact h1, h2⟩
/-- fields of rows at f -/
def Fd (K : PySem.W.Frag) (H : Hp) (f : Addr) (Fs : List (List (List Int))) : Prop := ∃ xs, SqL K H f xs ∧ Paired (fun x F => ∃ q, x = V.ref q ∧ Rw K H q F) xs Fs ∧ Fs.length ≤ 100 ∧ (plM Fs).length ≤ 1000
theorem Fd.mono {H H' : Hp} {f : Addr} {Fs : List (List (List Int))} (e : Ex H H') (h : Fd K H f Fs) : Fd K H' f Fs := by
  obtain ⟨xs, h1, h2, h3⟩ := h
  exact ⟨xs, ex_l e h1, paired_imp (fun _ _ ⟨q, a, b⟩ => ⟨q, a, b.mono e⟩) h2, h3⟩
def goodP (Fs : List (List (List Int))) : Bool := decide (((plM Fs).map (·.1)).Nodup)
/-- what stands while the places are gathered -/
def StP (H : Hp) (d : Addr) (acc : List Pl) (H' : Hp) : Prop := ∃ (T : Hp) (kvs : List (Key × V)), Own [sing d (.dK kvs), T, H] H' ∧ KP T kvs acc ∧ (acc.map (·.1)).Nodup
theorem StP.mono {H G G' : Hp} {d : Addr} {acc : List Pl} (e : Ex G G') : StP H d acc G → StP H d acc G' := fun ⟨T, kvs, o, h1, h2⟩ => ⟨T, kvs, o.mono e, h1, h2⟩
theorem StP.eH {H G : Hp} {d : Addr} {acc : List Pl} : StP H d acc G → Ex H G := fun ⟨T, kvs, o, _⟩ => o.e2
end
section
variable {P : Program} {w : World} {K : PySem.W.Frag} {mg : Str → Option Value} {base : Heap}
theorem fld_rows {n : Nat} {rs : List (List Int)} (h : fldM n rs = true) : (1 ≤ rs.length ∧ rs.length ≤ 3) ∧ ∀ l ∈ rs, l.length ≤ 12 ∧ ∀ c ∈ l, 0 ≤ c ∧ c < (n : Int) := by
  unfold fldM at h
  simp only [Bool.and_eq_true, decide_eq_true_eq, List.all_eq_true] at h
  refine ⟨⟨by omega, by omega⟩, fun l hl => ?_⟩
  have h2 := h.2 l hl
  unfold okRw okCd at h2
  simp only [Bool.and_eq_true, decide_eq_true_eq, List.all_eq_true] at h2
  exact ⟨by omega, fun c hc => h2.2 c hc⟩
/-- rows of the heap's own -/
def HC (H : Hp) (a : Addr) (F : List (List Int)) : Prop := ∃ xs, H a = some (.lst xs) ∧ CIi H xs F
theorem HC.mono {H H' : Hp} {a : Addr} {F : List (List Int)} (e : Ex H H') (h : HC H a F) : HC H' a F := by
  obtain ⟨xs, h1, h2⟩ := h
  exact ⟨xs, e _ _ h1, h2.mono e⟩
/-- a deal: its rows and the places lie in things of its own -/
def DealK (K : PySem.W.Frag) (C : Addr) (H : Hp) (d b : Addr) (F0 F1 : List (List Int)) (kvs : List (Key × V)) : Prop := ∃ dx pf ph a0 a1, H d = some (.ins C dx [("bound", .ref b), ("fields", .ref pf), ("homes", .ref ph)]) ∧ H pf = some (.lst [.ref a0, .ref a1]) ∧ Rw K H a0 F0 ∧ Rw K H a1 F1 ∧ H ph = some (.dK kvs) ∧ KP H kvs (plM [F0, F1]) ∧ HC H a0 F0 ∧ HC H a1 F1
theorem DealK.mono {C : Addr} {H H' : Hp} {d b : Addr} {F0 F1 : List (List Int)} {kvs : List (Key × V)} (e : Ex H H') (h : DealK K C H d b F0 F1 kvs) : DealK K C H' d b F0 F1 kvs := by
  obtain ⟨dx, pf, ph, a0, a1, h1, h2, h3, h4, h5, h6, h7, h8⟩ := h
  exact ⟨dx, pf, ph, a0, a1, e _ _ h1, e _ _ h2, h3.mono e, h4.mono e, e _ _ h5, h6.mono e, h7.mono e, h8.mono e⟩
def dealM (n : Nat) (F0 F1 : List (List Int)) : Bool := fldM n F0 && (fldM n F1 && goodP [F0, F1])
structure TDeal (K : PySem.W.Frag) (mg : Str → Option Value) (C : Addr) : Prop where
  cl : Cls K C
  g : mg "Deal" = some (.ref C)
  n_bound : NoAttr K C "bound"
  n_fields : NoAttr K C "fields"
  n_homes : NoAttr K C "homes"
def fieldM (F0 F1 : List (List Int)) (i : Int) : List (List Int) := if i = 0 then F0 else F1
end
section
variable {P : Program} {w : World} {K : PySem.W.Frag} {mg : Str → Option Value} {base : Heap}
/-! ### lists of new lists, unlike one another -/
def CA (N : Hp) (ts : List Addr) (Cs : List (List V)) : Prop := Paired (fun t l => N t = some (.lst l)) ts Cs
theorem CA.mono {N N' : Hp} {ts : List Addr} {Cs : List (List V)} (e : Ex N N') (h : CA N ts Cs) : CA N' ts Cs := paired_imp (fun _ _ a => e _ _ a) h
theorem ep_lcNew {σ : L2.St} {H G : Hp} {te : TE} {g : TG} {wi : TI} {n : Nat} {Y : Nat → V → Hp → Prop} {vs : List Nat} (S : Nat → L2.St) (v : Nat → List V) (hi : EvI wi σ H G n Y) (eG : Ex G H) (hn : n ≤ 50000) (hg : ∀ i x H', i < n → Y i x H' → ∀ Q : L2.St → Hp → Prop, Q (S i) H' → g x (wipe σ vs) H' Q) (hw : ∀ i, i < n → wipe (S i) vs = wipe σ vs)
    (he : ∀ i H1, Ex H H1 → i < n → EvL te (S i) H1 (v i)) :
    EvP (tLc wi g tYes te vs) σ H (fun N w => ∃ p ts, w = .ref p ∧ N p = some (.lst (ts.map V.ref)) ∧ CA N ts ((List.range n).map v) ∧ (p :: ts).Nodup) := fun H0 e Q q =>
  hi H0 e _ fun J H1 e1 d Dl hD => lc_drw d (fun i H' => ∃ (N : Hp) (ts : List Addr), Own [sing Dl (.lst (ts.map V.ref)), N, H1] H' ∧ CA N ts ((List.range i).map v) ∧ (Dl :: ts).Nodup ∧ ts.length = i)
    ⟨emp, [], ⟨sing_ex upd_same, fun M hM a ha => by
      rcases List.mem_cons.mp hM with z | z
      · subst z; rfl
      · have z : M = H1 := by simpa using z
        subst z
        by_cases qa : a = Dl
        · subst qa; exact hD
        · exact absurd (sing_ne qa) ha, emp_ex, (fun _ _ a ha => absurd rfl ha), Ex.new hD, (fun _ h => nomatch h), trivial⟩, .nil, by simp, rfl⟩
    (fun i H' _ ⟨N, ts, o, _⟩ => ((eG.trans e).trans e1).trans o.e2) (fun i x H' H'' hlt ⟨N, ts, o, pr, nd, hl⟩ e2 hy => hg i x H'' hlt hy _ ⟨hw i hlt, by
      have o2 := o.mono e2
      show te (S i) H'' _
      refine he i H'' ((e.trans e1).trans o2.e2) hlt H'' (Ex.refl _) _ fun t H4 ht e4 h4 => ?_
      have o4 : Own [sing t (.lst (v i)), sing Dl (.lst (ts.map V.ref)), N, H1] H4 := o2.add e4 (sing_ex h4) (sing_fr ht)
      have hN : N t = none := ex_none o2.e1 ht
      have htD : t ≠ Dl := fun z => by
        have := o2.e0 Dl _ sing_at
        rw [← z, ht] at this
        cases this
      have htn : t ∉ ts := fun hm => by
        obtain ⟨j, l, _, _, g3⟩ := LiI.paired_ix pr hm
        rw [hN] at g3
        cases g3
      refine ⟨ts.map V.ref, o4.at (j := 1) rfl, by rw [List.length_map]; exact sz_lt (by omega), uni N (sing t (.lst (v i))), ts ++ [t], ?_, ?_, ?_, by rw [List.length_append, hl]; rfl⟩
      · have e5 : (ts ++ [t]).map V.ref = ts.map V.ref ++ [.ref t] := by rw [List.map_append]; rfl
        rw [e5]
        have o5 : Own [sing t (.lst (v i)), sing Dl (.lst (ts.map V.ref ++ [.ref t])), N, H1] (upd H4 Dl (.lst (ts.map V.ref ++ [.ref t]))) := o4.set (j := 1) rfl
        exact own_merge2 o5.swap
      · have dj : ∀ a, (sing t (.lst (v i))) a ≠ none → N a = none := o4.dj (i := 0) (j := 2) (by decide) rfl rfl
        rw [List.range_succ, List.map_append]
        exact paired_append (CA.mono (uni_l dj) pr) (.cons (uni_r _ _ sing_at) .nil)
      · obtain ⟨n1, n2⟩ := List.nodup_cons.mp nd
        refine List.nodup_cons.mpr ⟨fun z => ?_, List.nodup_append.mpr ⟨n2, by simp, fun a ha b hb e => ?_⟩⟩
        · rcases List.mem_append.mp z with z | z
          · exact n1 z
          · exact htD (List.mem_singleton.mp z).symm
        · exact htn (by rw [← List.mem_singleton.mp hb, ← e]; exact ha)⟩) (fun H' ⟨N, ts, o, pr, nd, _⟩ => q (.ref Dl) H' (uni N (sing Dl (.lst (ts.map V.ref)))) (e1.trans o.e2) (uni_ex o.e1 o.e0) (uni_fr (Fr.back e1 (o.dj (i := 1) (j := 2) (by decide) rfl rfl)) (sing_fr (fresh_back e1 hD))) ⟨Dl, ts, rfl, uni_r _ _ sing_at, pr.mono (uni_l (o.dj (i := 0) (j := 1) (by decide) rfl rfl)), nd⟩)
/-! ### the fields drawn -/
/-- rows of both fields, behind one another; n0: so many are the first field's -/
structure FOk (m n0 : Nat) (C : List (List Int)) : Prop where
  lo : 1 ≤ n0 ∧ n0 ≤ 3
  hi : n0 + 1 ≤ C.length ∧ C.length ≤ n0 + 3
  len : ∀ l ∈ C, l.length ≤ 12
  rng : ∀ c ∈ C.flatten, 0 ≤ c ∧ c < (m : Int)
  nd : C.flatten.Nodup
theorem FOk.up {m n0 : Nat} {C : List (List Int)} (h : FOk m n0 C) : FOk (m + 1) n0 C := ⟨h.lo, h.hi, h.len, fun c hc => by have := h.rng c hc; omega, h.nd⟩
theorem pl_keys (Fs : List (List (List Int))) : (plM Fs).map (·.1) = (Fs.map List.flatten).flatten := by
  have hc : ∀ f r (l : List Int), (cardsP f r l).map (·.1) = l := fun f r l => by
    unfold cardsP
    rw [List.map_map]
    show (l.zipIdx).map Prod.fst = l
    exact List.zipIdx_map_fst ..
  have hr : ∀ f (rs : List (List Int)) k, ((rs.zipIdx k).flatMap fun p => cardsP f p.2 p.1).map (·.1) = rs.flatten := fun f rs => by
    induction rs with
    | nil => intro k; rfl
    | cons x r ih => intro k; rw [List.zipIdx_cons, List.flatMap_cons, List.map_append, hc, ih]; rfl
  have hp : ∀ (Fs : List (List (List Int))) k, ((Fs.zipIdx k).flatMap fun p => rowsP p.2 p.1).map (·.1) = (Fs.map List.flatten).flatten := fun Fs => by
    induction Fs with
    | nil => intro k; rfl
    | cons x r ih =>
      intro k
      rw [List.zipIdx_cons, List.flatMap_cons, List.map_append, ih]
      unfold rowsP
      rw [hr]
      rfl
  exact hp Fs 0
theorem FOk.fld {m n0 : Nat} {C : List (List Int)} (h : FOk m n0 C) : fldM m (C.take n0) = true ∧ fldM m (C.drop n0) = true ∧ goodP [C.take n0, C.drop n0] = true := by
  have row : ∀ {R : List (List Int)}, (1 ≤ R.length ∧ R.length ≤ 3) → (∀ l ∈ R, l ∈ C) → fldM m R = true := fun {R} hl hm => by
    unfold fldM okRw okCd
    simp only [Bool.and_eq_true, decide_eq_true_eq, List.all_eq_true]
    exact ⟨⟨by omega, by omega⟩, fun l hl => ⟨by have := h.len l (hm l hl); omega, fun c hc => h.rng c (List.mem_flatten.mpr ⟨l, hm l hl, hc⟩)⟩⟩
  have h1 := h.lo
  have h2 := h.hi
  refine ⟨row (by rw [List.length_take]; omega) fun l hl => List.mem_of_mem_take hl, row (by rw [List.length_drop]; omega) fun l hl => List.mem_of_mem_drop hl, ?_⟩
  unfold goodP
  refine decide_eq_true ?_
  rw [pl_keys]
  show ((C.take n0).flatten ++ ((C.drop n0).flatten ++ [])).Nodup
  rw [List.append_nil, ← List.flatten_append, List.take_append_drop]
  exact h.nd
/-- the fields as they lie in M -/
def FAt (M : Hp) (p : Addr) (n0 : Nat) (C : List (List Int)) : Prop := ∃ (a b : Addr) (L : List Addr), M p = some (.lst [.ref a, .ref b]) ∧ M a = some (.lst ((L.take n0).map V.ref)) ∧ M b = some (.lst ((L.drop n0).map V.ref)) ∧ CA M L (C.map fun l => l.map V.int) ∧ (p :: a :: b :: L).Nodup
end
section
variable {P : Program} {w : World} {K : PySem.W.Frag} {mg : Str → Option Value} {base : Heap}
/-- new rows of numbers, unlike one another -/
abbrev pRwN (rs : List (List Int)) : Hp → V → Prop := fun N w => ∃ p ts, w = V.ref p ∧ N p = some (.lst (ts.map V.ref)) ∧ CA N ts (rs.map fun l => l.map V.int) ∧ (p :: ts).Nodup
theorem range_rows (rs : List (List Int)) : ((List.range rs.length).map fun i => (rs.getD i []).map V.int) = rs.map fun l => l.map V.int := by
  refine List.ext_getElem (by simp) fun i h1 h2 => ?_
  have hi : i < rs.length := by simpa using h1
  simp [List.getD_eq_getElem?_getD, List.getElem?_eq_getElem hi]
/-- [list(row) for row in rows] -/
theorem ep_copyNI {σ : L2.St} {H : Hp} {tl : TE} {p : Addr} {rs : List (List Int)} {j : Nat} {vs : List Nat} (S : V → L2.St) (h : Ev tl σ H (.ref p)) (hB : Rw K H p rs) (hg : ∀ x, (wipe σ vs).set j (some x) = S x) (hw : ∀ x, wipe (S x) vs = wipe σ vs) (hj : ∀ x, (S x)[j]? = some (some x)) :
    EvP (tLc (iList K tl) (gName j) tYes (tCB (rListS K) (tCons (tVar j) tNil)) vs) σ H (pRwN rs) := by
  obtain ⟨xs, hS, hR⟩ := hB.rows
  have hl := Paired.length hR
  have hl2 := hB.2.1
  refine ep_imp (ep_lcNew (n := xs.length) (fun i => S (xs.getD i .non)) (fun i => (rs.getD i []).map V.int) (ei_list h hS (Ex.refl _)) (Ex.refl _) (by omega) (fun i x H' _ hx Q q => by rw [getD_of hx, ← hg] at q; exact q) (fun _ _ => hw _) (fun i H1 e hlt => ?_)) ?_
  · have hi : rs[i]? = some (rs.getD i []) := by rw [List.getD_eq_getElem?_getD, List.getElem?_eq_getElem (by omega)]; rfl
    obtain ⟨q, hq, hL⟩ := hR.get hi
    rw [getD_of hq]
    exact fun H2 e2 Q k => ev_var (hj _) H2 e2 _ fun H3 e3 => ⟨q, _, rfl, .inl (ex_l ((e.trans e2).trans e3) hL), fun l hl => k l _ (fresh_back e3 hl) (e3.trans (Ex.new hl)) upd_same⟩
  · rintro N v ⟨p', ts, rfl, hp, hca, nd⟩
    rw [hl, range_rows] at hca
    exact ⟨p', ts, rfl, hp, hca, nd⟩
def R_copiedN (K : PySem.W.Frag) : Rl := ⟨fun vs H r => ∃ (v : Addr) (rs : List (List Int)), vs = [.ref v] ∧ Rw K H v rs ∧ r = .ok (pRwN rs), fun e ⟨v, rs, h1, h2, h3⟩ => ⟨v, rs, h1, h2.mono e, h3⟩⟩
/-- rows of texts, or rows of numbers -/
def R__law_copy2 (K : PySem.W.Frag) : Rl := ⟨fun vs H r => (R__law_copy K).R vs H r ∨ (R_copiedN K).R vs H r, fun e h => h.imp ((R__law_copy K).mono e) ((R_copiedN K).mono e)⟩
theorem ok__law_copy (B : Bt mg) (D : Df K mg "_law_copy" s__law_copy ["_law_rows"]) : Ok P w K mg base 1 "_law_copy" ["_law_rows"] ((R__law_copy2 K).sp mg) := by
  refine D.ok sc__law_copy (fun vs H Q E h => ?_) (fun f cdv A outer s H vs Q E hr h => ?_)
  · obtain ⟨r, h | h, _⟩ := h
    · obtain ⟨v, ls, rfl, _⟩ := h
      rfl
    · obtain ⟨v, ls, rfl, _⟩ := h
      rfl
  · obtain ⟨r, h, k⟩ := h
    refine ⟨_, (pss_one (ps_ret (pe_lc (own := [("_law_row", 1)]) rfl sc__law_copy.nd (pi_listK K (pv 0)) (blkOk_by (N := ["_law_rows", "_law_row"]) (sc := defScope s__law_copy) (by decide +kernel)) (fun _ _ _ _ _ => (pg_name (i := 1) sc__law_copy.nd rfl (.inl rfl))) (fun _ _ _ _ _ => pts_nil) (fun _ _ _ _ _ => (pe_callTy (call_listK K) (by rfl) B.list boot_ty_list (pa_cons (pv 1) pa_nil)))))), ?_⟩
    rcases h with ⟨v, ls, rfl, hB, rfl⟩ | ⟨v, rs, rfl, hB, rfl⟩
    · exact s_rn (Own.one H) (ep_copy (fun x => [some (.ref v), some x]) (ev_var rfl) hB (fun _ => rfl) (fun _ => rfl) (fun _ => rfl)) fun v H1 N o p => o.ret k (i := 0) (j := 1) rfl rfl p
    · exact s_rn (Own.one H) (ep_copyNI (fun x => [some (.ref v), some x]) (ev_var rfl) hB (fun _ => rfl) (fun _ => rfl) (fun _ => rfl)) fun v H1 N o p => o.ret k (i := 0) (j := 1) rfl rfl p
/-- two fields at p -/
def Fl (K : PySem.W.Frag) (H : Hp) (p : Addr) (F0 F1 : List (List Int)) : Prop := ∃ a b, SqL K H p [.ref a, .ref b] ∧ Rw K H a F0 ∧ Rw K H b F1
theorem Fl.mono {H H' : Hp} {p : Addr} {F0 F1 : List (List Int)} (e : Ex H H') (h : Fl K H p F0 F1) : Fl K H' p F0 F1 := by
  obtain ⟨a, b, h1, h2, h3⟩ := h
  exact ⟨a, b, ex_l e h1, h2.mono e, h3.mono e⟩
theorem Fl.at {H : Hp} {p : Addr} {F0 F1 : List (List Int)} (h : Fl K H p F0 F1) {i : Nat} (hi : i < 2) : ∃ xs c, SqL K H p xs ∧ atI xs ((i : Nat) : Int) = some (.ref c) ∧ Rw K H c (fieldM F0 F1 ((i : Nat) : Int)) := by
  obtain ⟨a, b, h1, h2, h3⟩ := h
  rcases i with _ | _ | i
  · exact ⟨_, a, h1, rfl, h2⟩
  · exact ⟨_, b, h1, rfl, h3⟩
  · omega
theorem CA.rws {M : Hp} {ts : List Addr} {C : List (List Int)} (h : CA M ts (C.map fun l => l.map V.int)) : CIi M (ts.map V.ref) C := by
  induction C generalizing ts with
  | nil => cases h; exact .nil
  | cons l r ih =>
    cases h with
    | cons h1 h2 => exact .cons ⟨_, rfl, h1⟩ (ih h2)
theorem FAt.fl {M : Hp} {p : Addr} {m n0 : Nat} {C : List (List Int)} (h : FAt M p n0 C) (o : FOk m n0 C) : Fl K M p (C.take n0) (C.drop n0) := by
  obtain ⟨a, b, L, h1, h2, h3, h4, _⟩ := h
  have lo := o.lo
  have hi := o.hi
  have len : ∀ l ∈ C, l.length ≤ 1000 := fun l hl => by have := o.len l hl; omega
  refine ⟨a, b, sq_of h1, CIi.rw h2 ?_ (by rw [List.length_take]; omega) fun l hl => len l (List.mem_of_mem_take hl), CIi.rw h3 ?_ (by rw [List.length_drop]; omega) fun l hl => len l (List.mem_of_mem_drop hl)⟩
  · rw [List.map_take]
    exact paired_take n0 (CA.rws h4)
  · rw [List.map_drop]
    exact paired_drop n0 (CA.rws h4)
theorem FOk.deal {m n0 : Nat} {C : List (List Int)} (h : FOk m n0 C) : dealM m (C.take n0) (C.drop n0) = true := by
  obtain ⟨h1, h2, h3⟩ := h.fld
  unfold dealM
  rw [h1, h2, h3]
  rfl
end
section
variable {P : Program} {w : World} {K : PySem.W.Frag} {mg : Str → Option Value} {base : Heap}
/-- two fields, in lists of their own, at p -/
def FlX (H : Hp) (p : Addr) (F0 F1 : List (List Int)) : Prop := ∃ a b xs ys, H p = some (.lst [.ref a, .ref b]) ∧ H a = some (.lst xs) ∧ CIi H xs F0 ∧ H b = some (.lst ys) ∧ CIi H ys F1
theorem FlX.mono {H H' : Hp} {p : Addr} {F0 F1 : List (List Int)} (e : Ex H H') (h : FlX H p F0 F1) : FlX H' p F0 F1 := by
  obtain ⟨a, b, xs, ys, h1, h2, h3, h4, h5⟩ := h
  exact ⟨a, b, xs, ys, e _ _ h1, e _ _ h2, h3.mono e, e _ _ h4, h5.mono e⟩
theorem FlX.fl {H : Hp} {p : Addr} {F0 F1 : List (List Int)} {n : Nat} (h : FlX H p F0 F1) (h0 : fldM n F0 = true) (h1 : fldM n F1 = true) : Fl K H p F0 F1 := by
  obtain ⟨a, b, xs, ys, g1, g2, g3, g4, g5⟩ := h
  obtain ⟨⟨_, l0⟩, r0⟩ := fld_rows h0
  obtain ⟨⟨_, l1⟩, r1⟩ := fld_rows h1
  exact ⟨a, b, sq_of g1, CIi.rw g2 g3 (by omega) (fun l hl => by have := (r0 l hl).1; omega), CIi.rw g4 g5 (by omega) (fun l hl => by have := (r1 l hl).1; omega)⟩
theorem FlX.at {H : Hp} {p : Addr} {F0 F1 : List (List Int)} (h : FlX H p F0 F1) {i : Nat} (hi : i < 2) : ∃ zs c xs, H p = some (.lst zs) ∧ atI zs ((i : Nat) : Int) = some (.ref c) ∧ H c = some (.lst xs) ∧ CIi H xs (fieldM F0 F1 ((i : Nat) : Int)) := by
  obtain ⟨a, b, xs, ys, g1, g2, g3, g4, g5⟩ := h
  rcases i with _ | _ | i
  · exact ⟨_, a, xs, g1, rfl, g2, g3⟩
  · exact ⟨_, b, ys, g1, rfl, g4, g5⟩
  · omega
end
section
end
section
variable {P : Program} {w : World} {K : PySem.W.Frag} {mg : Str → Option Value} {base : Heap}
def rowOk (F0 F1 : List (List Int)) (f r : Int) : Bool := (decide (0 ≤ f) && decide (f ≤ 1)) && (decide (0 ≤ r) && decide (r < ((fieldM F0 F1 f).length : Int)))
def rowAt (F0 F1 : List (List Int)) (f r : Int) : List Int := (fieldM F0 F1 f).getD r.toNat []
def cardOk (F0 F1 : List (List Int)) (f r p q : Int) : Bool := decide (0 ≤ p) && (decide (p ≤ q) && decide (q < ((rowAt F0 F1 f r).length : Int)))
def swM (F0 F1 : List (List Int)) (f r p q : Int) : List Int := ((rowAt F0 F1 f r).take (q + 1).toNat).drop p.toNat
theorem row_ok {F0 F1 : List (List Int)} {f r : Int} (h : rowOk F0 F1 f r = true) : (0 ≤ f ∧ f ≤ 1) ∧ 0 ≤ r ∧ r.toNat < (fieldM F0 F1 f).length ∧ (fieldM F0 F1 f)[r.toNat]? = some (rowAt F0 F1 f r) := by
  unfold rowOk at h
  simp only [Bool.and_eq_true, decide_eq_true_eq] at h
  have hl : r.toNat < (fieldM F0 F1 f).length := by omega
  exact ⟨h.1, h.2.1, hl, by unfold rowAt; rw [List.getD_eq_getElem?_getD, List.getElem?_eq_getElem hl]; rfl⟩
theorem DealK.row {C : Addr} {H : Hp} {d b : Addr} {F0 F1 : List (List Int)} {kvs : List (Key × V)} {i j : Int} (T : TDeal K mg C) (h : DealK K C H d b F0 F1 kvs) (ho : rowOk F0 F1 i j = true) : ∃ q, SqL K H q ((rowAt F0 F1 i j).map V.int) ∧ ∀ {σ : L2.St} {G : Hp} {td ti tj : TE}, Ex H G → Ev td σ G (.ref d) → Ev ti σ G (.int i) → Ev tj σ G (.int j) → Ev (tOp (rIx K) (tOp (rIx K) (tFld K td "fields") ti) tj) σ G (.ref q) := by
  obtain ⟨dx, pf, ph, a0, a1, h1, h2, h3, h4, _⟩ := h
  obtain ⟨hi, hj, hl, hrow⟩ := row_ok ho
  obtain ⟨a, ha, hr⟩ : ∃ a, atI [V.ref a0, .ref a1] i = some (.ref a) ∧ Rw K H a (fieldM F0 F1 i) := by
    by_cases z : i = 0
    · subst z
      exact ⟨a0, rfl, h3⟩
    · have : i = 1 := by omega
      subst this
      exact ⟨a1, rfl, h4⟩
  obtain ⟨xs, hS, hR⟩ := hr.rows
  obtain ⟨q, hq, hL⟩ := hR.get hrow
  have e : (j.toNat : Int) = j := by omega
  refine ⟨q, hL, fun e1 hd hi hj => ev_op (ev_op (ev_fld hd (e1 _ _ h1) T.cl T.n_fields rfl) hi (rv_ixLs (sq_of (e1 _ _ h2)) ha)) hj (rv_ixLs (ex_l e1 hS) (by rw [← e]; exact atI_nat hq))⟩
end
section
variable {P : Program} {w : World} {K : PySem.W.Frag} {mg : Str → Option Value} {base : Heap}
end
section
variable {P : Program} {w : World} {K : PySem.W.Frag} {mg : Str → Option Value} {base : Heap}
end
section
variable {P : Program} {w : World} {K : PySem.W.Frag} {mg : Str → Option Value} {base : Heap}
end
section
variable {P : Program} {w : World} {K : PySem.W.Frag} {mg : Str → Option Value} {base : Heap}
end
section
variable {P : Program} {w : World} {K : PySem.W.Frag} {mg : Str → Option Value} {base : Heap}
end
section
variable {P : Program} {w : World} {K : PySem.W.Frag} {mg : Str → Option Value} {base : Heap}
end
section
variable {P : Program} {w : World} {K : PySem.W.Frag} {mg : Str → Option Value} {base : Heap}
end
section
variable {P : Program} {w : World} {K : PySem.W.Frag} {mg : Str → Option Value} {base : Heap}
def Bd (n : Nat) (i : Int) : Prop := i.natAbs < 2 ^ n
/-- two pairs of ints as arguments -/
def Pr2 (K : PySem.W.Frag) (vs : List V) (H : Hp) (a b c d : Int) : Prop := ∃ p q, vs = [.ref p, .ref q] ∧ SqT K H p [.int a, .int b] ∧ SqT K H q [.int c, .int d]
theorem Pr2.mono {vs : List V} {H H' : Hp} {a b c d : Int} (e : Ex H H') (h : Pr2 K vs H a b c d) : Pr2 K vs H' a b c d := by
  obtain ⟨p, q, h1, h2, h3⟩ := h
  exact ⟨p, q, h1, ex_t e h2, ex_t e h3⟩
theorem Bd.mul {i j : Int} (hi : Bd 2000 i) (hj : Bd 2000 j) : CMulW i j := wide_mul hi hj (by decide) (by decide) (by decide)
theorem Out.call {S : Rl} {W : WX} {σ : L2.St} {tr : TA} {G H : Hp} {Ns : List Hp} {vs : List V} {r : Res} {Q : VK} {E : XK} {D : Ends} {j : Nat} (o : Own Ns H) (hj : Ns[j]? = some G) (k : Out mg r G Q E) (ha : EvA tr σ H vs) (hR : S.R vs H r) (hQ : ∀ v H, Q v H → D.rt v H) (hE : ∀ c d H, E c d H → W c d σ H) : tRet (tCallS (S.sp mg) (WE W) tr) D σ H := by
  cases r with
  | ok P => exact ha H (Ex.refl H) _ fun H1 e => ⟨.ok P, S.mono e hR, fun v H' N e1 e2 f p => hQ _ _ (k v H' N ((o.ix hj).trans (e.trans e1)) e2 (f.back ((o.ix hj).trans e)) p)⟩
  | err x fs => exact ha H (Ex.refl H) _ fun H1 e => ⟨.err x fs, S.mono e hR, fun H' C d e1 g c => hE _ _ _ ((k.fwd ((o.ix hj).trans e)) H' C d e1 g c)⟩
end
section
end
section
variable {P : Program} {w : World} {K : PySem.W.Frag} {mg : Str → Option Value} {base : Heap}
end
section
end
section
variable {P : Program} {w : World} {K : PySem.W.Frag} {mg : Str → Option Value} {base : Heap}
theorem paired_txts {H : Hp} : ∀ {xs : List V} {l : List Str}, Paired (tX.R H) xs l → xs = l.map V.str ∧ ∀ s ∈ l, TxtOk s
  | _, _, .nil => ⟨rfl, fun _ h => nomatch h⟩
  | _, _, .cons h r => by
    obtain ⟨rfl, h2⟩ := h
    obtain ⟨h3, h4⟩ := paired_txts r
    refine ⟨by rw [h3]; rfl, fun s hs => ?_⟩
    rcases List.mem_cons.mp hs with z | z
    · rw [z]; exact h2
    · exact h4 s z
theorem txts_paired {H : Hp} : ∀ {l : List Str}, (∀ s ∈ l, TxtOk s) → Paired (tX.R H) (l.map V.str) l
  | [], _ => .nil
  | s :: l, h => .cons ⟨rfl, h s List.mem_cons_self⟩ (txts_paired fun t ht => h t (List.mem_cons_of_mem _ ht))
theorem bk_of {H : Hp} {v : V} {ls : List (List Str)} (h : (tL K (tL K tX)).R H v ls) (h1 : ls.length ≤ 1000) (h2 : ∀ l ∈ ls, l.length ≤ 1000) : ∃ p, v = .ref p ∧ Bk K H p ls := by
  have hd := Pla.dp (K := K) (T := tL K (tL K tX)) h
  obtain ⟨p, xs, rfl, h4, h5, h6⟩ := h
  refine ⟨p, rfl, hd, h1, fun l hl => ⟨h2 l hl, ?_⟩⟩
  obtain ⟨i, hi, rfl⟩ := List.mem_iff_getElem.mp hl
  obtain ⟨v, _, q, ys, _, _, g3, _⟩ := paired_at h5 (List.getElem?_eq_getElem hi)
  exact (paired_txts g3).2
theorem w_ints {N : Hp} {p : Addr} {l : List Int} (h : N p = some (.lst (l.map V.int))) (hl : l.length ≤ 40000) : (tW tI).R N (.ref p) l := ⟨p, _, rfl, h, paired_mapI l, hl⟩
theorem w_cells {N : Hp} {p : Addr} {ls : List (List Str)} (c : Cells N p ls) (h1 : ls.length ≤ 1000) (h2 : ∀ l ∈ ls, l.length ≤ 1000 ∧ ∀ s ∈ l, TxtOk s) : (tW (tW tX)).R N (.ref p) ls := by
  obtain ⟨xs, hp, c⟩ := c
  refine ⟨p, xs, rfl, hp, ?_, by omega⟩
  clear hp h1
  induction c with
  | nil => exact .nil
  | cons a r ih =>
    obtain ⟨t, rfl, h4⟩ := a
    obtain ⟨h5, h6⟩ := h2 _ List.mem_cons_self
    exact .cons ⟨t, _, rfl, h4, txts_paired h6, by omega⟩ (ih fun l hl => h2 l (List.mem_cons_of_mem _ hl))
/-- a book | a deal, with its book -/
def tBook (K : PySem.W.Frag) (C : Addr) : Tp (List (List Str)) := ⟨fun H v ls => ∃ b, v = .ref b ∧ BookAt K C H b ls, fun e ⟨b, h1, h2⟩ => ⟨b, h1, h2.mono e⟩⟩
structure DealM where
  ls : List (List Str)
  F0 : List (List Int)
  F1 : List (List Int)
deriving Inhabited
def tDeal (K : PySem.W.Frag) (CB C : Addr) : Tp DealM := ⟨fun H v d => ∃ a b kvs, v = .ref a ∧ DealK K C H a b d.F0 d.F1 kvs ∧ BookAt K CB H b d.ls ∧ dealM d.ls.length d.F0 d.F1 = true, fun e ⟨a, b, kvs, h1, h2, h3, h4⟩ => ⟨a, b, kvs, h1, h2.mono e, h3.mono e, h4⟩⟩
instance {C : Addr} : NN (tBook K C) := ⟨fun ⟨_, h, _⟩ z => by cases h; cases z⟩
instance {CB C : Addr} : NN (tDeal K CB C) := ⟨fun ⟨_, _, _, h, _⟩ z => by cases h; cases z⟩
theorem ad__law_copyT {G : Hp} {vs : List V} {ls : List (List Str)} (ha : ArgsR G vs [⟨tL K (tL K tX), ls⟩]) (h : ls.length ≤ 1000 ∧ ∀ l ∈ ls, l.length ≤ 1000) : (R__law_copy2 K).R vs G (.ok (pRows K ls)) := by
  obtain ⟨v, rfl, h1⟩ := args1 ha
  obtain ⟨p, rfl, h2⟩ := bk_of h1 h.1 h.2
  exact .inl ⟨p, ls, rfl, h2, rfl⟩
theorem cv_rows {ls : List (List Str)} : ∀ N v, pRows K ls N v → (tW (tW tX)).R N v ls := fun N v ⟨p, h1, h2, h3⟩ => by
  subst h1
  exact w_cells h3 h2.2.1 h2.2.2
theorem ad_Book {C : Addr} {G : Hp} {vs : List V} {ls : List (List Str)} (ha : ArgsR G vs [⟨tL K (tL K tX), ls⟩]) (h : needM ls = none ∧ ls.length ≤ 1000 ∧ ∀ l ∈ ls, l.length ≤ 1000) : (R_Book K C).R vs G (.ok (pBook K C ls)) := by
  obtain ⟨v, rfl, h1⟩ := args1 ha
  obtain ⟨p, rfl, h2⟩ := bk_of h1 h.2.1 h.2.2
  exact ⟨p, ls, rfl, h2, (needR_ok h.1).symm⟩
theorem get2a {α : Type} [Inhabited α] {a b : α} : getI [a, b] 0 = a := rfl
theorem get2b {α : Type} [Inhabited α] {a b : α} : getI [a, b] 1 = b := rfl
/-- fields as they were drawn -/
def FldsOk (n : Nat) (rows : List (List (List Int))) : Prop := ∃ n0 C, FOk n n0 C ∧ rows = [C.take n0, C.drop n0]
theorem FldsOk.deal {n : Nat} {rows : List (List (List Int))} (h : FldsOk n rows) : rows.length = 2 ∧ dealM n (getI rows 0) (getI rows 1) = true := by
  obtain ⟨n0, C, h1, rfl⟩ := h
  rw [get2a, get2b]
  exact ⟨rfl, h1.deal⟩
/-- what a sweep touches, or the class of the refusal -/
def swErr (d : DealM) (s : T4 Int Int Int Int) : Option Str := if rowOk d.F0 d.F1 s.a s.b = true then (if cardOk d.F0 d.F1 s.a s.b s.c s.d = true then none else some "NoCard") else some "NoField"
def swTo (d : DealM) (s : T4 Int Int Int Int) : List Int := swM d.F0 d.F1 s.a s.b s.c s.d
theorem ad__law_same {α : Type} {T S : Tp α} [Z : Pla K T] [Y : Pla K S] {G : Hp} {vs : List V} {x y : α} {n : Nat} (hxy : Z.enc = Y.enc) (hn : Z.dep < n) (ha : ArgsR G vs [⟨T, x⟩, ⟨S, y⟩]) (h : x = y) : (R__law_same K n).R vs G (.ok (is (.bl true))) := by
  obtain ⟨v, w, rfl, h1, h2⟩ := args2 ha
  subst h
  have h3 := Y.dp h2
  rw [← hxy] at h3
  exact ⟨v, w, Z.enc x, rfl, Z.dp h1, h3, Z.sm h1, Nat.lt_of_le_of_lt (Z.depth x) hn, rfl⟩
end
section
variable {P : Program} {w : World} {K : PySem.W.Frag} {mg : Str → Option Value} {base : Heap}
def putF (F0 F1 : List (List Int)) (i j : Int) (cs : List Int) : List (List Int) × List (List Int) := if i = 0 then (F0.set j.toNat cs, F1) else (F0, F1.set j.toNat cs)
end
local macro_rules | `(tactic| wtm_at "vc") => `(tactic| first
  | assumption
  | omega
  | trivial
  | (simp only [rngI_get, rngI2_get, enumI_get, rngI_mem, rngI2_mem, rngI_len, rngI2_len, enumI_len, List.length_nil, List.length_cons, List.length_append, List.length_map, List.length_set, Bool.and_eq_true, Bool.or_eq_true, Bool.or_eq_false_iff, Bool.and_eq_false_iff, Bool.not_eq_true', Bool.not_eq_false', decide_eq_true_eq, decide_eq_false_iff_not, Int.reduceToNat, Nums] at *; omega)
  | (subst_vars; simp only [rngI_get, rngI2_get, enumI_get, rngI_mem, rngI2_mem, rngI_len, rngI2_len, enumI_len, List.length_nil, List.length_cons, List.length_append, List.length_map, List.length_set, Bool.and_eq_true, Bool.or_eq_true, Bool.or_eq_false_iff, Bool.and_eq_false_iff, Bool.not_eq_true', Bool.not_eq_false', decide_eq_true_eq, decide_eq_false_iff_not, Int.reduceToNat, Nums] at *; omega)
  | rfl
  | decide)
local macro_rules | `(tactic| wtm_at "asm") => `(tactic| assumption)
section
variable {P : Program} {w : World} {K : PySem.W.Frag} {mg : Str → Option Value} {base : Heap}
theorem deal_ok {CB C : Addr} {H : Hp} {v : V} {d : DealM} (h : (tDeal K CB C).R H v d) : dealM d.ls.length d.F0 d.F1 = true ∧ needM d.ls = none := by
  obtain ⟨_, _, _, _, _, h1, h2⟩ := h
  exact ⟨h2, h1.2⟩
theorem book_ok {C : Addr} {H : Hp} {v : V} {ls : List (List Str)} (h : (tBook K C).R H v ls) : needM ls = none := by
  obtain ⟨_, _, h⟩ := h
  exact h.2
/-- rows of two fields -/
structure RowsOk (rows : List (List (List Int))) : Prop where
  two : rows.length = 2
  row : ∀ r ∈ rows, (1 ≤ r.length ∧ r.length ≤ 3) ∧ ∀ c ∈ r, c.length ≤ 12
theorem getI_mem {α : Type} [Inhabited α] {l : List α} {i : Int} (h : -(l.length : Int) ≤ i ∧ i < l.length) : getI l i ∈ l := by
  have := atI_get h
  have e : atI l i = some (getI l i) := this
  unfold atI at e
  cases q : ixN l.length i with
  | none => rw [q] at e; cases e
  | some j =>
    rw [q] at e
    exact List.mem_of_getElem? e
theorem cutI_from {α : Type} (l : List α) {a : Int} (ha : 0 ≤ a) : cutI l (some a) none = l.drop a.toNat := by
  obtain ⟨n, rfl⟩ : ∃ n : Nat, a = n := ⟨a.toNat, by omega⟩
  unfold cutI
  rw [HT.sIx_nat, HT.sIx_none, Int.toNat_natCast]
  by_cases h : n ≤ l.length
  · rw [Nat.min_eq_left h, List.take_of_length_le (by rw [List.length_drop]; omega)]
  · rw [Nat.min_eq_right (by omega), List.drop_length, List.drop_of_length_le (by omega), List.take_nil]
theorem Nums.cut {n : Nat} {l : List Int} (h : Nums n l) {a : Int} (ha : 0 ≤ a) : (∀ x ∈ cutI l (some a) none, 0 ≤ x ∧ x < 9967) ∧ (cutI l (some a) none).length = n - a.toNat := by
  rw [cutI_from l ha]
  exact ⟨fun x hx => h.2 x (List.mem_of_mem_drop hx), by rw [List.length_drop, h.1]⟩
theorem FldsOk.rows {n : Nat} {rows : List (List (List Int))} (h : FldsOk n rows) : RowsOk rows := by
  obtain ⟨n0, C, h1, rfl⟩ := h
  have lo := h1.lo
  have hi := h1.hi
  refine ⟨rfl, fun r hr => ?_⟩
  rcases List.mem_cons.mp hr with z | z
  · subst z
    exact ⟨by rw [List.length_take]; omega, fun c hc => h1.len c (List.mem_of_mem_take hc)⟩
  · rcases List.mem_cons.mp z with z | z
    · subst z
      exact ⟨by rw [List.length_drop]; omega, fun c hc => h1.len c (List.mem_of_mem_drop hc)⟩
    · cases z
end
section
variable {P : Program} {w : World} {K : PySem.W.Frag} {mg : Str → Option Value} {base : Heap}
/-! ### fields of a deal; where a verse lies -/
section
variable {σ : L2.St} {H B : Hp} {te : TE} {CB C : Addr} {d : DealM}
end
/-- unread verses as they were drawn -/
def UnI (n : Nat) (us : List Int) : Prop := ∃ ns, Un n ns ∧ us = ns.map fun i => ((i : Nat) : Int)
end
section
variable {P : Program} {w : World} {K : PySem.W.Frag} {mg : Str → Option Value} {base : Heap}
end
section
end
section
variable {P : Program} {w : World} {K : PySem.W.Frag} {mg : Str → Option Value} {base : Heap}
end
section
variable {P : Program} {w : World} {K : PySem.W.Frag} {mg : Str → Option Value} {base : Heap}
end
section
variable {P : Program} {w : World} {K : PySem.W.Frag} {mg : Str → Option Value} {base : Heap}
/-- a row's sweep of a cover -/
structure CovAt (d : DealM) (vs : List Int) (s : T4 Int Int Int Int) : Prop where
  ok : swErr d s = none
  fst : getI (swTo d s) 0 ∈ vs
  lst : getI (swTo d s) (-1) ∈ vs
  pos : 0 < (swTo d s).length
end
section
variable {P : Program} {w : World} {K : PySem.W.Frag} {mg : Str → Option Value} {base : Heap}
theorem okN_mem {n : Nat} {ns : List Int} : okN n ns = true ↔ ∀ x ∈ ns, 0 ≤ x ∧ x < (n : Int) := by
  unfold okN
  simp only [List.all_eq_true, Bool.and_eq_true, decide_eq_true_eq]
end
section
variable {P : Program} {w : World} {K : PySem.W.Frag} {mg : Str → Option Value} {base : Heap}
/-- a scene: verses, rows, unread verses -/
structure SceneOk (m : Nat) (y : T3 (List (List Str)) (List (List (List Int))) (List Int)) : Prop where
  gb : GB m y.a ∧ ∀ l ∈ y.a, l.length ≤ 1000
  flds : FldsOk y.a.length y.b
  un : UnI y.a.length y.c
theorem Nums.own {n : Nat} {l : List Int} (h : Nums n l) {a : Int} (ha : 0 ≤ a) : Nums (cutI l (some a) none).length (cutI l (some a) none) := ⟨rfl, (h.cut ha).1⟩
theorem UnI.ok {n : Nat} {us : List Int} (h : UnI n us) : okN n us = true ∧ us.length ≤ n + 2 := by
  obtain ⟨ns, ⟨h1, h2⟩, rfl⟩ := h
  refine ⟨okN_mem.mpr fun x hx => ?_, by rw [List.length_map]; exact h2⟩
  obtain ⟨i, hi, rfl⟩ := List.mem_map.mp hx
  have := h1 i hi
  omega
end
local macro_rules | `(tactic| wtm_at "asm") => `(tactic| first
  | assumption
  | exact SceneOk.gb (by assumption)
  | exact SceneOk.flds (by assumption)
  | exact SceneOk.un (by assumption))
section
variable {P : Program} {w : World} {K : PySem.W.Frag} {mg : Str → Option Value} {base : Heap}
end
section
variable {P : Program} {w : World} {K : PySem.W.Frag} {mg : Str → Option Value} {base : Heap}
end
section
variable {P : Program} {w : World} {K : PySem.W.Frag} {mg : Str → Option Value} {base : Heap}
/-! ### parts, told by kinds -/
abbrev Pt := Int × Int
/-- a pair in lowest terms with a bottom above nought -/
def Low (p : Pt) : Prop := 0 < p.2 ∧ Int.gcd p.1 p.2 = 1
theorem Bd.up {n m : Nat} {i : Int} (h : Bd n i) (l : n ≤ m) : Bd m i := Nat.lt_of_lt_of_le h (Nat.pow_le_pow_right (by decide) l)
theorem Bd.of {n : Nat} {i j : Int} (h : Bd n j) (l : i.natAbs ≤ j.natAbs) : Bd n i := Nat.lt_of_le_of_lt l h
theorem Bd.add {n : Nat} {i j : Int} (h1 : Bd n i) (h2 : Bd n j) : Bd (n + 1) (i + j) := by
  unfold Bd at *
  rw [Nat.pow_succ]
  omega
/-- a part of n bits -/
def PN (n : Nat) (p : Pt) : Prop := Bd n p.1 ∧ Bd n p.2 ∧ Low p
theorem PN.up {n m : Nat} {p : Pt} (h : PN n p) (hn : n ≤ m) : PN m p := ⟨h.1.up hn, h.2.1.up hn, h.2.2⟩
end
section
variable {P : Program} {w : World} {K : PySem.W.Frag} {mg : Str → Option Value} {base : Heap}
end
section
variable {P : Program} {w : World} {K : PySem.W.Frag} {mg : Str → Option Value} {base : Heap}
variable {C CB : Addr} {σ : L2.St} {H B : Hp} {te : TE} {d : DealM}
end
section
variable {P : Program} {w : World} {K : PySem.W.Frag} {mg : Str → Option Value} {base : Heap}
end
section
variable {P : Program} {w : World} {K : PySem.W.Frag} {mg : Str → Option Value} {base : Heap}
end
section
variable {P : Program} {w : World} {K : PySem.W.Frag} {mg : Str → Option Value} {base : Heap}
end
section
variable {P : Program} {w : World} {K : PySem.W.Frag} {mg : Str → Option Value} {base : Heap}
end
section
variable {P : Program} {w : World} {K : PySem.W.Frag} {mg : Str → Option Value} {base : Heap}
end
section
variable {P : Program} {w : World} {K : PySem.W.Frag} {mg : Str → Option Value} {base : Heap}
end
section
variable {P : Program} {w : World} {K : PySem.W.Frag} {mg : Str → Option Value} {base : Heap}
abbrev Swp := T4 Int Int Int Int
end
section
/-! ### a table: its class, what it holds -/
structure TTable (K : PySem.W.Frag) (mg : Str → Option Value) (C : Addr) : Prop where
  cl : Cls K C
  g : mg "Table" = some (.ref C)
  n_begun : NoAttr K C "begun"
  n_lying : NoAttr K C "lying"
  n_past : NoAttr K C "past"
  n_spoken : NoAttr K C "spoken"
  n_hands : NoAttr K C "hands"
  n_won : NoAttr K C "won"
  n_missed : NoAttr K C "missed"
  n_owed : NoAttr K C "owed"
abbrev Rdg := T4 Int (Option Int) Bool Bool
abbrev Hnd := T3 Int Int Swp
structure TabM where
  begun : DealM
  lying : DealM
  past : List Rdg
  spoken : Option (Int × Int)
  hands : List Hnd
  won : Int × Int
  missed : Int × Int
  owed : Option (Int × Int)
def tabF (b l p s h w m o : V) : List (Str × V) := [("begun", b), ("lying", l), ("past", p), ("spoken", s), ("hands", h), ("won", w), ("missed", m), ("owed", o)]
abbrev tSwp (K : PySem.W.Frag) : Tp Swp := tT4 K tI tI tI tI
abbrev tRdg (K : PySem.W.Frag) : Tp Rdg := tT4 K tI (tO tI) tB tB
abbrev tHnd (K : PySem.W.Frag) : Tp Hnd := tT3 K tI tI (tSwp K)
/-- the cell of a table is its part; what it holds lies about -/
def stTab (K : PySem.W.Frag) (CB CD CT : Addr) : St TabM := ⟨fun B N v x => ∃ (p dx : Addr) (b l ps s h w m o : V), v = .ref p ∧ N = sing p (.ins CT dx (tabF b l ps s h w m o)) ∧ (tDeal K CB CD).R B b x.begun ∧ (tDeal K CB CD).R B l x.lying ∧ (tW (tRdg K)).R B ps x.past ∧ (tO (tP K tI tI)).R B s x.spoken ∧ (tW (tHnd K)).R B h x.hands ∧ (tP K tI tI).R B w x.won ∧ (tP K tI tI).R B m x.missed ∧ (tO (tP K tI tI)).R B o x.owed,
  fun e ⟨p, dx, b, l, ps, s, h, w, m, o, e1, e2, f1, f2, f3, f4, f5, f6, f7, f8⟩ => ⟨p, dx, b, l, ps, s, h, w, m, o, e1, e2, Tp.up _ e f1, Tp.up _ e f2, Tp.up _ e f3, Tp.up _ e f4, Tp.up _ e f5, Tp.up _ e f6, Tp.up _ e f7, Tp.up _ e f8⟩⟩
/-- both deals are deals -/
def TabD (t : TabM) : Prop := (dealM t.begun.ls.length t.begun.F0 t.begun.F1 = true ∧ needM t.begun.ls = none) ∧ dealM t.lying.ls.length t.lying.F0 t.lying.F1 = true ∧ needM t.lying.ls = none
theorem tab_ok {K : PySem.W.Frag} {CB CD CT : Addr} {B N : Hp} {v : V} {x : TabM} (h : (stTab K CB CD CT).R B N v x) : TabD x ∧ x.past.length ≤ 40000 ∧ x.hands.length ≤ 40000 := by
  obtain ⟨p, dx, b, l, ps, s, h, w, m, o, _, _, f1, f2, f3, _, f5, _⟩ := h
  exact ⟨⟨deal_ok f1, deal_ok f2⟩, len_ofW f3, len_ofW f5⟩
end
section
variable {P : Program} {w : World} {K : PySem.W.Frag} {mg : Str → Option Value} {base : Heap}
end
section
variable {P : Program} {w : World} {K : PySem.W.Frag} {mg : Str → Option Value} {base : Heap}
/-- the verse that is read is one -/
def TabS (t : TabM) : Prop := ∀ p, t.spoken = some p → (0 ≤ p.1 ∧ p.1 < (t.lying.ls.length : Int)) ∧ 0 ≤ p.2 ∧ p.2 ≤ ((row1 t.lying.ls p.1.toNat).length : Int)
theorem getD_some {α : Type} [Inhabited α] {x : Option α} (h : x.isSome = true) : x = some (x.getD default) := by
  cases x with
  | none => cases h
  | some y => rfl
end
section
variable {P : Program} {w : World} {K : PySem.W.Frag} {mg : Str → Option Value} {base : Heap}
/-- a deed at a table -/
inductive TDeed where
  | read (v : Int)
  | say
  | touch (s : Int) (sw : Swp)
  | close
  | hush
  | send (v : Int) (r : Int)
  | waive
  | move (s : Int) (v : Int) (r : Int) (pl : Int)
  | strike (v : Int)
def dTag : TDeed → Str
  | .read _ => "read"
  | .say => "say"
  | .touch _ _ => "touch"
  | .close => "close"
  | .hush => "hush"
  | .send _ _ => "send"
  | .waive => "waive"
  | .move _ _ _ _ => "move"
  | .strike _ => "strike"
def DdR (K : PySem.W.Frag) (H : Hp) (p : Addr) (nm : Str) : TDeed → Prop
  | .read v => SqT K H p [.str "read", .str nm, .int v]
  | .say => SqT K H p [.str "say", .str nm]
  | .touch s sw => ∃ b, SqT K H p [.str "touch", .str nm, .int s, b] ∧ (tSwp K).R H b sw
  | .close => SqT K H p [.str "close", .str nm]
  | .hush => SqT K H p [.str "hush", .str nm]
  | .send v r => SqT K H p [.str "send", .str nm, .int v, .int r]
  | .waive => SqT K H p [.str "waive", .str nm]
  | .move s v r pl => SqT K H p [.str "move", .str nm, .int s, .int v, .int r, .int pl]
  | .strike v => SqT K H p [.str "strike", .str nm, .int v]
theorem DdR.up {K : PySem.W.Frag} {H H' : Hp} {p : Addr} {nm : Str} (e : Ex H H') : ∀ {d : TDeed}, DdR K H p nm d → DdR K H' p nm d
  | .read _, h => ex_t e h
  | .say, h => ex_t e h
  | .touch _ _, h => let ⟨b, h1, h2⟩ := h; ⟨b, ex_t e h1, Tp.up _ e h2⟩
  | .close, h => ex_t e h
  | .hush, h => ex_t e h
  | .send _ _, h => ex_t e h
  | .waive, h => ex_t e h
  | .move _ _ _ _, h => ex_t e h
  | .strike _, h => ex_t e h
def tDd (K : PySem.W.Frag) : Tp TDeed := ⟨fun H v d => ∃ p nm, v = .ref p ∧ DdR K H p nm d, fun e ⟨p, nm, h1, h2⟩ => ⟨p, nm, h1, h2.up e⟩⟩
instance {K : PySem.W.Frag} : NN (tDd K) := ⟨fun ⟨_, _, h, _⟩ z => by cases h; cases z⟩
theorem dTag_ok : ∀ d : TDeed, PyData.strOk (dTag d) = true
  | .read _ => (by decide +kernel : PyData.strOk ("read" : Str) = true)
  | .say => (by decide +kernel : PyData.strOk ("say" : Str) = true)
  | .touch _ _ => (by decide +kernel : PyData.strOk ("touch" : Str) = true)
  | .close => (by decide +kernel : PyData.strOk ("close" : Str) = true)
  | .hush => (by decide +kernel : PyData.strOk ("hush" : Str) = true)
  | .send _ _ => (by decide +kernel : PyData.strOk ("send" : Str) = true)
  | .waive => (by decide +kernel : PyData.strOk ("waive" : Str) = true)
  | .move _ _ _ _ => (by decide +kernel : PyData.strOk ("move" : Str) = true)
  | .strike _ => (by decide +kernel : PyData.strOk ("strike" : Str) = true)
def d2 : TDeed → Int
  | .read v => v
  | .touch s _ => s
  | .send v _ => v
  | .move s _ _ _ => s
  | .strike v => v
  | _ => 0
def d3 : TDeed → Int
  | .send _ r => r
  | .move _ v _ _ => v
  | _ => 0
end
section
/-! ### a hall: its class, what it holds -/
inductive HDeed where
  | shelve (n : Str) (vs : List (List Str))
  | lay (n b : Str) (z o : List (List Int))
  | fold (n : Str)
  | tab (n : Str) (d : TDeed)
instance : Inhabited HDeed := ⟨.fold ""⟩
instance : Inhabited TabM := ⟨⟨default, default, [], none, [], (0, 0), (0, 0), none⟩⟩
instance : Inhabited TDeed := ⟨.say⟩
def HdR (K : PySem.W.Frag) (H : Hp) (p : Addr) : HDeed → Prop
  | .shelve n vs => ∃ b, SqT K H p [.str "shelve", .str n, b] ∧ (tL K (tL K tX)).R H b vs ∧ PyData.strOk n = true
  | .lay n b z o => ∃ x y, SqT K H p [.str "lay", .str n, .str b, x, y] ∧ (tL K (tL K tI)).R H x z ∧ (tL K (tL K tI)).R H y o ∧ PyData.strOk n = true ∧ PyData.strOk b = true
  | .fold n => SqT K H p [.str "fold", .str n] ∧ PyData.strOk n = true
  | .tab n d => DdR K H p n d ∧ PyData.strOk n = true
theorem HdR.up {K : PySem.W.Frag} {H H' : Hp} {p : Addr} (e : Ex H H') : ∀ {d : HDeed}, HdR K H p d → HdR K H' p d
  | .shelve _ _, ⟨b, h1, h2, h3⟩ => ⟨b, ex_t e h1, Tp.up _ e h2, h3⟩
  | .lay _ _ _ _, ⟨x, y, h1, h2, h3, h4⟩ => ⟨x, y, ex_t e h1, Tp.up _ e h2, Tp.up _ e h3, h4⟩
  | .fold _, ⟨h1, h2⟩ => ⟨ex_t e h1, h2⟩
  | .tab _ _, ⟨h1, h2⟩ => ⟨h1.up e, h2⟩
def tHd (K : PySem.W.Frag) : Tp HDeed := ⟨fun H v d => ∃ p, v = .ref p ∧ HdR K H p d, fun e ⟨p, h1, h2⟩ => ⟨p, h1, h2.up e⟩⟩
/-- a table's deed, with the table's name -/
def tHt (K : PySem.W.Frag) : Tp (Str × TDeed) := ⟨fun H v x => ∃ p, v = .ref p ∧ DdR K H p x.1 x.2 ∧ PyData.strOk x.1 = true, fun e ⟨p, h1, h2, h3⟩ => ⟨p, h1, h2.up e, h3⟩⟩
instance {K : PySem.W.Frag} : NN (tHd K) := ⟨fun ⟨_, h, _⟩ z => by cases h; cases z⟩
instance {K : PySem.W.Frag} : NN (tHt K) := ⟨fun ⟨_, h, _⟩ z => by cases h; cases z⟩
abbrev Stand := T3 (List (Str × List (List Str))) (List (Str × TabM)) HDeed
structure HallM where
  shelf : List (Str × List (List Str))
  floor : List (Str × TabM)
  done : List Stand
  undone : List Stand
deriving Inhabited
structure THall (K : PySem.W.Frag) (mg : Str → Option Value) (C : Addr) : Prop where
  cl : Cls K C
  g : mg "Hall" = some (.ref C)
  n_shelf : NoAttr K C "shelf"
  n_floor : NoAttr K C "floor"
  n_done : NoAttr K C "done"
  n_undone : NoAttr K C "undone"
def halF (s f d u : V) : List (Str × V) := [("shelf", s), ("floor", f), ("done", d), ("undone", u)]
theorem halF_len {s f d u : V} : (halF s f d u).length < 1000 := by show 4 < 1000; decide
theorem put_shelf {s f d u : V} : ∀ v, L2.putF "shelf" v (halF s f d u) = halF v f d u := fun v => rfl
theorem put_floor {s f d u : V} : ∀ v, L2.putF "floor" v (halF s f d u) = halF s v d u := fun v => rfl
theorem put_undone {s f d u : V} : ∀ v, L2.putF "undone" v (halF s f d u) = halF s f d v := fun v => rfl
abbrev tShf (K : PySem.W.Frag) (CB : Addr) : Tp (List (Str × List (List Str))) := tKd (tBook K CB)
abbrev tFlo (K : PySem.W.Frag) (CB CD CT : Addr) : Tp (List (Str × TabM)) := tKd (tFz (stTab K CB CD CT))
abbrev tStd (K : PySem.W.Frag) (CB CD CT : Addr) : Tp Stand := tT3 K (tShf K CB) (tFlo K CB CD CT) (tHd K)
/-- a hall's cell and its two lists -/
def halN (p pd pu : Addr) (o : HO) (xd xu : List V) : Hp := uni (sing p o) (uni (sing pd (.lst xd)) (sing pu (.lst xu)))
structure HalD (p pd pu : Addr) : Prop where
  n1 : p ≠ pd
  n2 : p ≠ pu
  n3 : pd ≠ pu
theorem sing_dj {a b : Addr} {x y : HO} (h : a ≠ b) : Dj (sing a x) (sing b y) := fun c hc => by
  have z : c = a := Classical.byContradiction fun z => hc (sing_ne z)
  subst z
  exact sing_ne h
theorem dj_sing {a b : Addr} {x y : HO} (h : Dj (sing a x) (sing b y)) : a ≠ b := fun z => by
  subst z
  have := h a (by rw [sing_at]; exact fun z => nomatch z)
  rw [sing_at] at this
  cases this
theorem hal_p {p pd pu : Addr} {o : HO} {xd xu : List V} (d : HalD p pd pu) : halN p pd pu o xd xu p = some o := by
  unfold halN uni
  rw [sing_ne d.n2, sing_ne d.n1]
  exact sing_at
theorem hal_d {p pd pu : Addr} {o : HO} {xd xu : List V} (d : HalD p pd pu) : halN p pd pu o xd xu pd = some (.lst xd) := by
  unfold halN uni
  rw [sing_ne d.n3, sing_at]
theorem hal_cut {M G H : Hp} {Ns : List Hp} {j : Nat} {p pd pu : Addr} {o : HO} {xd xu : List V} (ow : Own (M :: G :: Ns) H) (hj : Ns[j]? = some (halN p pd pu o xd xu)) (d : HalD p pd pu) : Own (M :: G :: (sing p o :: sing pd (.lst xd) :: sing pu (.lst xu) :: Ns.eraseIdx j)) H := by
  have o1 := Own.cut2 ow hj (dj_unr (sing_dj d.n1) (sing_dj d.n2))
  have o2 := Own.cut2 (j := 1) o1 rfl (sing_dj d.n3)
  exact Own.front o2 (j := 2) rfl
theorem hal_join {M G H : Hp} {Ns : List Hp} {p pd pu : Addr} {o : HO} {xd xu : List V} (ow : Own (M :: G :: (sing p o :: sing pd (.lst xd) :: sing pu (.lst xu) :: Ns)) H) : Own (M :: G :: (halN p pd pu o xd xu :: Ns)) H ∧ HalD p pd pu := by
  have o1 : Own (M :: G :: (sing pd (.lst xd) :: sing pu (.lst xu) :: sing p o :: Ns)) H := Own.front (Own.front ow (j := 2) rfl) (j := 2) rfl
  obtain ⟨o2, d1⟩ := Own.join2 o1
  have o3 : Own (M :: G :: (sing p o :: uni (sing pd (.lst xd)) (sing pu (.lst xu)) :: Ns)) H := Own.front o2 (j := 1) rfl
  obtain ⟨o4, d2⟩ := Own.join2 o3
  refine ⟨o4, ⟨?_, ?_, dj_sing d1⟩⟩
  · refine fun z => ?_
    have := d2 p (by rw [sing_at]; exact fun z => nomatch z)
    unfold uni at this
    subst z
    rw [sing_at] at this
    split at this <;> cases this
  · refine fun z => ?_
    have := d2 p (by rw [sing_at]; exact fun z => nomatch z)
    unfold uni at this
    subst z
    rw [sing_at] at this
    cases this
def stHall (K : PySem.W.Frag) (CB CD CT CH : Addr) : St HallM := ⟨fun B N v h => ∃ (p dx : Addr) (us uf : V) (pd pu : Addr) (xd xu : List V), v = .ref p ∧ N = halN p pd pu (.ins CH dx (halF us uf (.ref pd) (.ref pu))) xd xu ∧ HalD p pd pu ∧ (tShf K CB).R B us h.shelf ∧ (tFlo K CB CD CT).R B uf h.floor ∧ Paired ((tStd K CB CD CT).R B) xd h.done ∧ h.done.length ≤ 40000 ∧ Paired ((tStd K CB CD CT).R B) xu h.undone ∧ h.undone.length ≤ 40000,
  fun e ⟨p, dx, us, uf, pd, pu, xd, xu, e1, e2, e3, f1, f2, f3, f4, f5, f6⟩ => ⟨p, dx, us, uf, pd, pu, xd, xu, e1, e2, e3, Tp.up _ e f1, Tp.up _ e f2, paired_up e f3, f4, paired_up e f5, f6⟩⟩
theorem hal_ins {K : PySem.W.Frag} {CB CD CT CH : Addr} {B N H : Hp} {v : V} {x : HallM} {mn : Str} (hm : ∀ a b c d : V, (halF a b c d).lookup mn = none) (h : (stHall K CB CD CT CH).R B N v x) (e : Ex N H) : ∃ p dx gs, v = .ref p ∧ H p = some (.ins CH dx gs) ∧ gs.lookup mn = none := by
  obtain ⟨p, dx, us, uf, pd, pu, xd, xu, rfl, rfl, d, _⟩ := h
  exact ⟨p, dx, _, rfl, e _ _ (hal_p d), hm _ _ _ _⟩
theorem kv_all {α : Type} {R : V → α → Prop} {P : α → Prop} (hp : ∀ v x, R v x → P x) : ∀ {kvs : List (Key × V)} {l : List (Str × α)}, KvR R kvs l → ∀ q ∈ l, P q.2
  | _, _, .nil => fun _ h => nomatch h
  | _, _, .cons a r => fun q hq => by
    rcases List.mem_cons.mp hq with z | z
    · rw [z]; exact hp _ _ a.2
    · exact kv_all hp r q z
/-- what holds of what a hall holds -/
def ShfD (s : List (Str × List (List Str))) : Prop := s.length ≤ 900 ∧ (∀ k ∈ ksK s, PyData.strOk k = true) ∧ ∀ q ∈ s, needM q.2 = none
def FloD (f : List (Str × TabM)) : Prop := f.length ≤ 900 ∧ (∀ k ∈ ksK f, PyData.strOk k = true) ∧ ∀ q ∈ f, TabD q.2 ∧ q.2.past.length ≤ 40000 ∧ q.2.hands.length ≤ 40000
theorem shf_ok {K : PySem.W.Frag} {CB : Addr} {H : Hp} {v : V} {s : List (Str × List (List Str))} (h : (tShf K CB).R H v s) : ShfD s := by
  obtain ⟨p, kvs, _, _, h3, h4, h5⟩ := h
  exact ⟨h5, h4, kv_all (P := fun x => needM x = none) (fun _ _ z => book_ok z) h3⟩
theorem flo_ok {K : PySem.W.Frag} {CB CD CT : Addr} {H : Hp} {v : V} {s : List (Str × TabM)} (h : (tFlo K CB CD CT).R H v s) : FloD s := by
  obtain ⟨p, kvs, _, _, h3, h4, h5⟩ := h
  exact ⟨h5, h4, kv_all (P := fun x => TabD x ∧ x.past.length ≤ 40000 ∧ x.hands.length ≤ 40000) (fun _ _ ⟨_, _, _, _, _, z⟩ => tab_ok z) h3⟩
def HalOk (h : HallM) : Prop := ShfD h.shelf ∧ FloD h.floor ∧ h.done.length ≤ 40000 ∧ h.undone.length ≤ 40000
theorem hal_ok {K : PySem.W.Frag} {CB CD CT CH : Addr} {B N : Hp} {v : V} {x : HallM} (h : (stHall K CB CD CT CH).R B N v x) : HalOk x := by
  obtain ⟨p, dx, us, uf, pd, pu, xd, xu, _, _, _, f1, f2, _, f4, _, f6⟩ := h
  exact ⟨shf_ok f1, flo_ok f2, f4, f6⟩
end
section
variable {P : Program} {w : World} {K : PySem.W.Frag} {mg : Str → Option Value} {base : Heap}
def lowM (s : Str) : Bool := s.cps.toList.all fun c => decide (c ∈ LT)
def nameB (n : Str) : Bool := (decide ((1 : Int) ≤ (n.length : Int)) && decide ((n.length : Int) ≤ 8)) && lowM n
theorem nm_neg {a b c : Bool} : (((!(a && b)) || (!c)) = true) = (((a && b) && c) = false) := by cases a <;> cases b <;> cases c <;> simp
theorem nm_pos {a b c : Bool} : (((!(a && b)) || (!c)) = false) = (((a && b) && c) = true) := by cases a <;> cases b <;> cases c <;> simp
theorem ksK_len {α : Type} {l : List (Str × α)} : (ksK l).length = l.length := by unfold ksK; exact List.length_map ..
def bokErr (h : HallM) (n : Str) : Option Str := if n ∈ ksK h.shelf then none else some "NoBook"
def newErr (ks : List Str) (n : Str) : Option Str := if nameB n = false then some "BadName" else if n ∈ ks then some "Taken" else if 8 ≤ ks.length then some "Full" else none
abbrev s_need_new : Stmt := topS 61
theorem sc_need_new : FnScope ["named", "name", "sign"] ["named", "name"] (defScope s_need_new) := ⟨rfl, rfl, rfl, by decide +kernel, rfl, by decide +kernel, by decide +kernel⟩
section
variable (named : (List Str)) (name : Str) (hp1 : name.length ≤ 1000) (hp2 : named.length ≤ 900) (hs5 : PyData.strOk (name) = true)
include named name hp1 hp2 hs5
theorem vc_need_new_len1 : name.length ≤ 1000 := by
  exact hp1
section
variable (hc6 : (!((decide ((1 : Int) ≤ ((name.length : Int))) && decide (((name.length : Int)) ≤ (8 : Int))))) = false)
include hc6
theorem vc_need_new_len2 : name.length ≤ 1000 := by
  exact hp1
end
section
variable (c1 : (((!((decide ((1 : Int) ≤ ((name.length : Int))) && decide (((name.length : Int)) ≤ (8 : Int))))) || (!(lowM name)))) = true)
include c1
theorem vc_need_new_raise1 : newErr named name = some ("BadName" : Str) := by
  unfold newErr
  rw [if_pos]
  unfold nameB
  rw [← nm_neg]
  exact c1
end
section
variable (c1 : (((!((decide ((1 : Int) ≤ ((name.length : Int))) && decide (((name.length : Int)) ≤ (8 : Int))))) || (!(lowM name)))) = false) (c2 : (decide (name ∈ named)) = true)
include c1 c2
theorem vc_need_new_raise2 : newErr named name = some ("Taken" : Str) := by
  have hb : nameB name = true := by
    unfold nameB
    rw [← nm_pos]
    exact c1
  unfold newErr
  rw [if_neg (by rw [hb]; decide)]
  exact if_pos (of_decide_eq_true c2)
end
section
variable (c1 : (((!((decide ((1 : Int) ≤ ((name.length : Int))) && decide (((name.length : Int)) ≤ (8 : Int))))) || (!(lowM name)))) = false)
include c1
section
variable (c2 : (decide (name ∈ named)) = false) (c3 : (decide ((((named).length : Int)) ≥ (8 : Int))) = true)
include c2 c3
theorem vc_need_new_raise3 : newErr named name = some ("Full" : Str) := by
  have hb : nameB name = true := by
    unfold nameB
    rw [← nm_pos]
    exact c1
  unfold newErr
  rw [if_neg (by rw [hb]; decide)]
  rw [if_neg (of_decide_eq_false c2)]
  have c3 := of_decide_eq_true c3
  exact if_pos (by omega)
end
section
variable (c2 : (decide (name ∈ named)) = false)
include c2
section
variable (c3 : (decide ((((named).length : Int)) ≥ (8 : Int))) = false)
include c3
theorem vc_need_new_none1 : newErr named name = none := by
  have hb : nameB name = true := by
    unfold nameB
    rw [← nm_pos]
    exact c1
  unfold newErr
  rw [if_neg (by rw [hb]; decide)]
  rw [if_neg (of_decide_eq_false c2)]
  have c3 := of_decide_eq_false c3
  exact if_neg (by omega)
theorem vc_need_new_ret1 : (()) = (()) := by
  rfl
end
end
end
end
def R_need_new (K : PySem.W.Frag) : Rl := ⟨fun vs H r => ∃ (named : (List Str)) (name : Str), ArgsR H vs [⟨tKn, named⟩, ⟨tS, name⟩] ∧ (name.length ≤ 1000) ∧ (named.length ≤ 900) ∧ r = resE (newErr named name) (fun N v => tN.R N v (())), fun e ⟨named, name, h, h2⟩ => ⟨named, name, h.up e, h2⟩⟩
theorem ok_need_new (B : Bt mg) {C_BadName C_Full C_Taken : Addr} {t_LETTERS_hall : Tok} (c_LETTERS_hall : mg "LETTERS_hall" = some (.str "abcdefghijklmnopqrstuvwxyz" t_LETTERS_hall)) {t_MOST_NAMED : Tok} (c_MOST_NAMED : mg "MOST_NAMED" = some (.int 8 t_MOST_NAMED)) {t_MOST_SIGNS_hall : Tok} (c_MOST_SIGNS_hall : mg "MOST_SIGNS_hall" = some (.int 8 t_MOST_SIGNS_hall)) (X_BadName : Xc K mg "BadName" C_BadName) (X_Full : Xc K mg "Full" C_Full) (X_Taken : Xc K mg "Taken" C_Taken) (D : Df K mg "need_new" s_need_new ["named", "name"]) : Ok P w K mg base 1 "need_new" ["named", "name"] ((R_need_new K).sp mg) := by
  refine D.ok sc_need_new (fun vs H Q E h => ?_) (fun f cdv A outer s H vs Q E hr h => ?_)
  · obtain ⟨r, ⟨named, name, ha, _⟩, _⟩ := h
    exact ha.len
  · obtain ⟨r, ⟨named, name, ha, hp1, hp2, rfl⟩, k⟩ := h
    obtain ⟨v1, v2, rfl, f3, f4⟩ := args2 ha
    have o0 := Own.init H
    obtain ⟨rfl, hs5⟩ : v2 = .str name ∧ PyData.strOk (name) = true := f4
    refine ⟨_, (pss_cons (ps_if (PW.pt (pw_or (pt_not (pt_chain op_le op_le pe_int (pe_callB (call_lenK K) (by rfl) B.len boot_b_len (pa_cons (pv 1) pa_nil)) (pe_glob (v := .int 8) (by rfl) c_MOST_SIGNS_hall ⟨_, rfl⟩))) (pw_or1 (pt_not (pt_val (pe_callB (cr_allK K rfl) (by rfl) B.all boot_b_all (pa_cons (pe_lc (own := [("sign", 2)]) rfl sc_need_new.nd (pi_str (pv 1)) (blkOk_by (N := ["named", "name", "sign"]) (sc := defScope s_need_new) (by decide +kernel)) (fun _ _ _ _ _ => (pg_name (i := 2) sc_need_new.nd rfl (.inl rfl))) (fun _ _ _ _ _ => pts_nil) (fun _ _ _ _ _ => (pe_cmpR (op_inK K (hu65 hr)) (pv 2) (pe_glob (v := .str "abcdefghijklmnopqrstuvwxyz") (by rfl) c_LETTERS_hall ⟨_, rfl⟩) (by rfl)))) pa_nil)))))))
        (pss_one (ps_raise rfl (takes_of rfl rfl rfl rfl) (pmk_ex X_BadName (by rfl))))
        pss_nil)
      (pss_cons (ps_if (pt_cmp (pc_din (hu_of hr) (pv 1) (pv 0)))
        (pss_one (ps_raise rfl (takes_of rfl rfl rfl rfl) (pmk_ex X_Taken (by rfl))))
        pss_nil)
      (pss_one (ps_if (pt_cmpR op_ge (pe_callB call_lenD (by rfl) B.len boot_b_len (pa_cons (pv 0) pa_nil)) (pe_glob (v := .int 8) (by rfl) c_MOST_NAMED ⟨_, rfl⟩) (nomark _))
        (pss_one (ps_raise rfl (takes_of rfl rfl rfl rfl) (pmk_ex X_Full (by rfl))))
        pss_nil)))), ?_⟩
    refine q_wh o0 (et_or (et_not (et_test (ev_chain ev_c (ev_cb (ea_cons (ev_var rfl) ea_nil) (rc_lenS (Nat.le_trans (vc_need_new_len1 named name hp1 hp2 hs5) (by decide)))) ev_c))) fun hc6 => (et_not (et_B (ev_is (ev_allX (fun x => [some v1, some (.str name), some x]) inLT (ei_strX (G := H) (ev_var rfl)) (Ex.refl _) (by rw [signs_len]; have := (vc_need_new_len2 named name hp1 hp2 hs5 hc6); omega) (fun _ _ _ _ q => q) (fun _ => rfl) (fun x H2 e2 hx => by obtain ⟨c, _, rfl⟩ := List.mem_map.mp hx; exact ev_is (ev_op (ev_var rfl) ev_c rv_sign) (by simp [inLT, LT]))) (congrArg V.bl (signs_in _)))))) (fun c1 H7 o8 => ?_) (fun c1 H7 o8 => ?_)
    · skip
      exact (resE_err (vc_need_new_raise1 named name hp1 hp2 hs5 c1) k).go (Own.e1 o8) X_BadName.g
    · skip
      refine q_wh o8 (et_test (ev_kin (ed_of (T := tKn) (up (Own.ug o0) f3) rfl) (ev_var rfl) (Own.uh o8))) (fun c2 H9 o10 => ?_) (fun c2 H9 o10 => ?_)
      · skip
        exact (resE_err (vc_need_new_raise2 named name hp1 hp2 hs5 c1 c2) k).go (Own.e1 o10) X_Taken.g
      · skip
        refine s_wh o10 (et_test (ev_op (ev_klen (ed_of (T := tKn) (up (Own.ug o0) f3) rfl) (Own.uh o10)) ev_c rv_I0)) (fun c3 H11 o12 => ?_) (fun c3 H11 o12 => ?_)
        · skip
          exact (resE_err (vc_need_new_raise3 named name hp1 hp2 hs5 c1 c2 c3) k).go (Own.e1 o12) X_Full.g
        · skip
          first | exact s_rn' o12 (resE_ok (vc_need_new_none1 named name hp1 hp2 hs5 c1 c2 c3) k) (by first | (rw [(vc_need_new_ret1 named name hp1 hp2 hs5 c1 c2 c3)]; exact rfl) | (rw [← (vc_need_new_ret1 named name hp1 hp2 hs5 c1 c2 c3)]; exact rfl)) | exact ((resE_ok (vc_need_new_none1 named name hp1 hp2 hs5 c1 c2 c3) k)) .non _ _ (Own.e1 o12) (Own.e0 o12) (fun a ha => (o12).2.1 _ List.mem_cons_self a ha) (by first | (rw [(vc_need_new_ret1 named name hp1 hp2 hs5 c1 c2 c3)]; exact rfl) | (rw [← (vc_need_new_ret1 named name hp1 hp2 hs5 c1 c2 c3)]; exact rfl))
def hTag : HDeed → Str
  | .shelve _ _ => "shelve"
  | .lay _ _ _ _ => "lay"
  | .fold _ => "fold"
  | .tab _ d => dTag d
def hNm : HDeed → Str
  | .shelve n _ => n
  | .lay n _ _ _ => n
  | .fold n => n
  | .tab n _ => n
def hVs : HDeed → List (List Str)
  | .shelve _ v => v
  | _ => []
def hBk : HDeed → Str
  | .lay _ b _ _ => b
  | _ => ""
def hZ : HDeed → List (List Int)
  | .lay _ _ z _ => z
  | _ => []
def hO : HDeed → List (List Int)
  | .lay _ _ _ o => o
  | _ => []
theorem tag_hall : ∀ d : TDeed, dTag d ≠ ("shelve" : Str) ∧ dTag d ≠ ("lay" : Str) ∧ dTag d ≠ ("fold" : Str)
  | .read _ => (by decide +kernel : ("read" : Str) ≠ ("shelve" : Str) ∧ ("read" : Str) ≠ ("lay" : Str) ∧ ("read" : Str) ≠ ("fold" : Str))
  | .say => (by decide +kernel : ("say" : Str) ≠ ("shelve" : Str) ∧ ("say" : Str) ≠ ("lay" : Str) ∧ ("say" : Str) ≠ ("fold" : Str))
  | .touch _ _ => (by decide +kernel : ("touch" : Str) ≠ ("shelve" : Str) ∧ ("touch" : Str) ≠ ("lay" : Str) ∧ ("touch" : Str) ≠ ("fold" : Str))
  | .close => (by decide +kernel : ("close" : Str) ≠ ("shelve" : Str) ∧ ("close" : Str) ≠ ("lay" : Str) ∧ ("close" : Str) ≠ ("fold" : Str))
  | .hush => (by decide +kernel : ("hush" : Str) ≠ ("shelve" : Str) ∧ ("hush" : Str) ≠ ("lay" : Str) ∧ ("hush" : Str) ≠ ("fold" : Str))
  | .send _ _ => (by decide +kernel : ("send" : Str) ≠ ("shelve" : Str) ∧ ("send" : Str) ≠ ("lay" : Str) ∧ ("send" : Str) ≠ ("fold" : Str))
  | .waive => (by decide +kernel : ("waive" : Str) ≠ ("shelve" : Str) ∧ ("waive" : Str) ≠ ("lay" : Str) ∧ ("waive" : Str) ≠ ("fold" : Str))
  | .move _ _ _ _ => (by decide +kernel : ("move" : Str) ≠ ("shelve" : Str) ∧ ("move" : Str) ≠ ("lay" : Str) ∧ ("move" : Str) ≠ ("fold" : Str))
  | .strike _ => (by decide +kernel : ("strike" : Str) ≠ ("shelve" : Str) ∧ ("strike" : Str) ≠ ("lay" : Str) ∧ ("strike" : Str) ≠ ("fold" : Str))
theorem hd_shv {d : HDeed} (h : hTag d = ("shelve" : Str)) : d = .shelve (hNm d) (hVs d) := by
  cases d with
  | shelve n v => rfl
  | lay n b z o => exact absurd h (by decide +kernel : ("lay" : Str) ≠ "shelve")
  | fold n => exact absurd h (by decide +kernel : ("fold" : Str) ≠ "shelve")
  | tab n d => exact absurd h (tag_hall d).1
theorem hd_lay {d : HDeed} (h : hTag d = ("lay" : Str)) : d = .lay (hNm d) (hBk d) (hZ d) (hO d) := by
  cases d with
  | shelve n v => exact absurd h (by decide +kernel : ("shelve" : Str) ≠ "lay")
  | lay n b z o => rfl
  | fold n => exact absurd h (by decide +kernel : ("fold" : Str) ≠ "lay")
  | tab n d => exact absurd h (tag_hall d).2.1
theorem dd_nm {K : PySem.W.Frag} {H : Hp} {p : Addr} {nm : Str} : ∀ {d : TDeed}, DdR K H p nm d → ∃ xs, SqT K H p xs ∧ atI xs 0 = some (.str (dTag d)) ∧ atI xs 1 = some (.str nm) := fun {d} h => by
  cases d with
  | touch s w => obtain ⟨b, h1, _⟩ := h; exact ⟨_, h1, rfl, rfl⟩
  | _ => exact ⟨_, h, rfl, rfl⟩
section
variable {K : PySem.W.Frag}
theorem hd_0 {d : HDeed} : ∀ G v, (tHd K).R G v d → ∃ p xs u, v = .ref p ∧ SqT K G p xs ∧ atI xs 0 = some u ∧ tS.R G u (hTag d) := fun G v ⟨p, h1, h2⟩ => by
  cases d with
  | shelve n vs => obtain ⟨b, h3, _, _⟩ := h2; exact ⟨p, _, _, h1, h3, rfl, rfl, (by decide +kernel : PyData.strOk ("shelve" : Str) = true)⟩
  | lay n b z o => obtain ⟨x, y, h3, _⟩ := h2; exact ⟨p, _, _, h1, h3, rfl, rfl, (by decide +kernel : PyData.strOk ("lay" : Str) = true)⟩
  | fold n => exact ⟨p, _, _, h1, h2.1, rfl, rfl, (by decide +kernel : PyData.strOk ("fold" : Str) = true)⟩
  | tab n d => obtain ⟨xs, h3, h4, _⟩ := dd_nm h2.1; exact ⟨p, _, _, h1, h3, h4, rfl, dTag_ok d⟩
theorem hd_1 {d : HDeed} : ∀ G v, (tHd K).R G v d → ∃ p xs u, v = .ref p ∧ SqT K G p xs ∧ atI xs 1 = some u ∧ tS.R G u (hNm d) := fun G v ⟨p, h1, h2⟩ => by
  cases d with
  | shelve n vs => obtain ⟨b, h3, _, h4⟩ := h2; exact ⟨p, _, _, h1, h3, rfl, rfl, h4⟩
  | lay n b z o => obtain ⟨x, y, h3, _, _, h4, _⟩ := h2; exact ⟨p, _, _, h1, h3, rfl, rfl, h4⟩
  | fold n => exact ⟨p, _, _, h1, h2.1, rfl, rfl, h2.2⟩
  | tab n d => obtain ⟨xs, h3, _, h4⟩ := dd_nm h2.1; exact ⟨p, _, _, h1, h3, h4, rfl, h2.2⟩
theorem hd_Vs {d : HDeed} (hd : hTag d = ("shelve" : Str)) : ∀ G v, (tHd K).R G v d → ∃ p xs u, v = .ref p ∧ SqT K G p xs ∧ atI xs 2 = some u ∧ (tL K (tL K tX)).R G u (hVs d) := fun G v ⟨p, h1, h2⟩ => by
  rw [hd_shv hd] at h2
  obtain ⟨b, h3, h4, _⟩ := h2
  exact ⟨p, _, _, h1, h3, rfl, h4⟩
theorem hd_Bk {d : HDeed} (hd : hTag d = ("lay" : Str)) : ∀ G v, (tHd K).R G v d → ∃ p xs u, v = .ref p ∧ SqT K G p xs ∧ atI xs 2 = some u ∧ tS.R G u (hBk d) := fun G v ⟨p, h1, h2⟩ => by
  rw [hd_lay hd] at h2
  obtain ⟨x, y, h3, _, _, _, h4⟩ := h2
  exact ⟨p, _, _, h1, h3, rfl, rfl, h4⟩
theorem hd_Z {d : HDeed} (hd : hTag d = ("lay" : Str)) : ∀ G v, (tHd K).R G v d → ∃ p xs u, v = .ref p ∧ SqT K G p xs ∧ atI xs 3 = some u ∧ (tL K (tL K tI)).R G u (hZ d) := fun G v ⟨p, h1, h2⟩ => by
  rw [hd_lay hd] at h2
  obtain ⟨x, y, h3, h4, _⟩ := h2
  exact ⟨p, _, _, h1, h3, rfl, h4⟩
theorem hd_O {d : HDeed} (hd : hTag d = ("lay" : Str)) : ∀ G v, (tHd K).R G v d → ∃ p xs u, v = .ref p ∧ SqT K G p xs ∧ atI xs 4 = some u ∧ (tL K (tL K tI)).R G u (hO d) := fun G v ⟨p, h1, h2⟩ => by
  rw [hd_lay hd] at h2
  obtain ⟨x, y, h3, _, h4, _⟩ := h2
  exact ⟨p, _, _, h1, h3, rfl, h4⟩
theorem hmk_shelve {n : Str} {vs : List (List Str)} : ∀ G p us, G p = some (.tup us) → ArgsR G us [⟨tS, ("shelve" : Str)⟩, ⟨tS, n⟩, ⟨tL K (tL K tX), vs⟩] → (tHd K).R G (.ref p) (.shelve n vs) := fun G p us hp ha => by
  obtain ⟨a, b, c, rfl, ⟨rfl, _⟩, ⟨rfl, h1⟩, h2⟩ := args3 ha
  exact ⟨p, rfl, c, st_of hp, h2, h1⟩
theorem hmk_lay {n b : Str} {z o : List (List Int)} : ∀ G p us, G p = some (.tup us) → ArgsR G us [⟨tS, ("lay" : Str)⟩, ⟨tS, n⟩, ⟨tS, b⟩, ⟨tL K (tL K tI), z⟩, ⟨tL K (tL K tI), o⟩] → (tHd K).R G (.ref p) (.lay n b z o) := fun G p us hp ha => by
  obtain ⟨a0, us, rfl, h0, ha⟩ := args_cons ha
  obtain ⟨a1, us, rfl, h1, ha⟩ := args_cons ha
  obtain ⟨a2, us, rfl, h2, ha⟩ := args_cons ha
  obtain ⟨a3, us, rfl, h3, ha⟩ := args_cons ha
  obtain ⟨a4, us, rfl, h4, ha⟩ := args_cons ha
  obtain rfl := args0 ha
  obtain ⟨rfl, _⟩ := h0
  obtain ⟨rfl, h1⟩ := h1
  obtain ⟨rfl, h2⟩ := h2
  exact ⟨p, rfl, a3, a4, st_of hp, h3, h4, h1, h2⟩
end
abbrev s_copied_rows : Stmt := topS 48
theorem sc_copied_rows : FnScope ["rows", "row"] ["rows"] (defScope s_copied_rows) := ⟨rfl, rfl, rfl, by decide +kernel, rfl, by decide +kernel, by decide +kernel⟩
def R_copied_rows (K : PySem.W.Frag) : Rl := ⟨fun vs H r => ∃ (α : Type) (T : Tp α) (_ : Flt T) (rows : List (List α)), ArgsR H vs [⟨(tL K (tL K T)), rows⟩] ∧ r = .ok (fun N v => (tW (tW T)).R N v rows), fun e ⟨α, T, F, rows, h, h2⟩ => ⟨α, T, F, rows, h.up e, h2⟩⟩
theorem ok_copied_rows (B : Bt mg) (D : Df K mg "copied_rows" s_copied_rows ["rows"]) : Ok P w K mg base 1 "copied_rows" ["rows"] ((R_copied_rows K).sp mg) := by
  refine D.ok sc_copied_rows (fun vs H Q E h => ?_) (fun f cdv A outer s H vs Q E hr h => ?_)
  · obtain ⟨r, ⟨α, T, F, rows, ha, _⟩, _⟩ := h
    exact ha.len
  · obtain ⟨r, ⟨α, T, F, rows, ha, rfl⟩, k⟩ := h
    obtain ⟨v1, rfl, f2⟩ := args1 ha
    have o0 := Own.init H
    refine ⟨_, (pss_one (ps_ret (pe_lc (own := [("row", 1)]) rfl sc_copied_rows.nd (pi_listK K (pv 0)) (blkOk_by (N := ["rows", "row"]) (sc := defScope s_copied_rows) (by decide +kernel)) (fun _ _ _ _ _ => (pg_name (i := 1) sc_copied_rows.nd rfl (.inl rfl))) (fun _ _ _ _ _ => pts_nil) (fun _ _ _ _ _ => (pe_callTy (call_listK K) (by rfl) B.list boot_ty_list (pa_cons (pv 1) pa_nil)))))), ?_⟩
    exact s_rb o0 (eb_imp (ed_of_n (Own.e0 o0) (en_lcMA (S := (tW T)) (Z := fun B y σ σ2 => ∃ z3, σ2 = (σ.set 1 (some z3)) ∧ (tL K T).R B z3 y) (dr_list (T := (tL K T)) (ed_of (T := (tL K (tL K T))) (up (Own.uh o0) (up (Own.ug o0) f2)) rfl) (Ex.refl _) (fun G x y H' e hx σ' Q q => by exact q _ ⟨x, rfl, hx⟩)) (Ex.refl _) (fun e1 : (List α) => e1) (fun _ _ _ ⟨z3, h0, fz3⟩ => by subst h0; rfl) (fun G4 e1 σ2 H4 eb4 eg4 eh4 hm1 hz4 => by obtain ⟨z3, rfl, fz3⟩ := hz4; exact (ed_listF (B := _) (ed_of (T := (tL K T)) (up eg4 fz3) rfl) (Ex.refl _))) (fun _ _ _ _ e ⟨z3, h0, fz3⟩ => ⟨z3, h0, up e fz3⟩))) fun N v h => (by rw [List.map_id'' (fun _ => rfl)] at h; exact h)) k
abbrev s_copied_deed : Stmt := topS 49
theorem sc_copied_deed : FnScope ["deed"] ["deed"] (defScope s_copied_deed) := ⟨rfl, rfl, rfl, by decide +kernel, rfl, by decide +kernel, by decide +kernel⟩
section
variable (deed : HDeed) (c1 : (decide ((hTag deed) = (("shelve" : Str)))) = true)
include deed c1
theorem vc_copied_deed_hd1 : hTag deed = ("shelve" : Str) := by
  exact of_decide_eq_true (by assumption)
theorem vc_copied_deed_ret1 : (deed) = ((HDeed.shelve (hNm deed) (hVs deed))) := by
  exact hd_shv (of_decide_eq_true c1)
end
section
variable (deed : HDeed)
include deed
section
variable (c1 : (decide ((hTag deed) = (("shelve" : Str)))) = false) (c2 : (decide ((hTag deed) = (("lay" : Str)))) = true)
include c1 c2
theorem vc_copied_deed_hd2 : hTag deed = ("lay" : Str) := by
  exact of_decide_eq_true (by assumption)
theorem vc_copied_deed_hd3 : hTag deed = ("lay" : Str) := by
  exact of_decide_eq_true (by assumption)
theorem vc_copied_deed_hd4 : hTag deed = ("lay" : Str) := by
  exact of_decide_eq_true (by assumption)
theorem vc_copied_deed_ret2 : (deed) = ((HDeed.lay (hNm deed) (hBk deed) (hZ deed) (hO deed))) := by
  exact hd_lay (of_decide_eq_true c2)
end
section
variable (c1 : (decide ((hTag deed) = (("shelve" : Str)))) = false)
include c1
section
variable (c2 : (decide ((hTag deed) = (("lay" : Str)))) = false)
include c2
theorem vc_copied_deed_ret3 : (deed) = (deed) := by
  rfl
end
end
end
def R_copied_deed (K : PySem.W.Frag) : Rl := ⟨fun vs H r => ∃ (deed : HDeed), ArgsR H vs [⟨(tHd K), deed⟩] ∧ r = .ok (fun N v => (tHd K).R N v (deed)), fun e ⟨deed, h, h2⟩ => ⟨deed, h.up e, h2⟩⟩
theorem ok_copied_deed (B : Bt mg) (O_copied_rows : Ok P w K mg base 1 "copied_rows" ["rows"] ((R_copied_rows K).sp mg)) (D : Df K mg "copied_deed" s_copied_deed ["deed"]) : Ok P w K mg base 2 "copied_deed" ["deed"] ((R_copied_deed K).spB mg) := by
  refine D.ok sc_copied_deed (fun vs H Q E h => ?_) (fun f cdv A outer s H vs Q E hr h => ?_)
  · obtain ⟨B0, r, _, ⟨deed, ha, _⟩, _⟩ := h
    exact ha.len
  · obtain ⟨B0, r, e0, ⟨deed, ha, rfl⟩, k⟩ := spB_out h
    obtain ⟨v1, rfl, f2⟩ := args1 ha
    have o0 := own_rest e0
    refine ⟨_, (pss_cons (ps_if (pt_cmpR (op_eqK K (hu65 hr)) (pe_ix (ix_seqK K) (pv 0) pe_int (fun _ _ => rfl)) pe_str (nomark _))
        (pss_one (ps_ret (pe_tup (pa_cons pe_str (pa_cons (pe_ix (ix_seqK K) (pv 0) pe_int (fun _ _ => rfl)) (pa_cons (pe_callO O_copied_rows (hr.mono (by omega)) (by rfl) (takes_of rfl rfl rfl rfl) (pa_cons (pe_ix (ix_seqK K) (pv 0) pe_int (fun _ _ => rfl)) pa_nil)) pa_nil))))))
        pss_nil)
      (pss_cons (ps_if (pt_cmpR (op_eqK K (hu65 hr)) (pe_ix (ix_seqK K) (pv 0) pe_int (fun _ _ => rfl)) pe_str (nomark _))
        (pss_one (ps_ret (pe_tup (pa_cons pe_str (pa_cons (pe_ix (ix_seqK K) (pv 0) pe_int (fun _ _ => rfl)) (pa_cons (pe_ix (ix_seqK K) (pv 0) pe_int (fun _ _ => rfl)) (pa_cons (pe_callO O_copied_rows (hr.mono (by omega)) (by rfl) (takes_of rfl rfl rfl rfl) (pa_cons (pe_ix (ix_seqK K) (pv 0) pe_int (fun _ _ => rfl)) pa_nil)) (pa_cons (pe_callO O_copied_rows (hr.mono (by omega)) (by rfl) (takes_of rfl rfl rfl rfl) (pa_cons (pe_ix (ix_seqK K) (pv 0) pe_int (fun _ _ => rfl)) pa_nil)) pa_nil))))))))
        pss_nil)
      (pss_one (ps_ret (pv 0))))), ?_⟩
    refine q_wh o0 (et_test (ev_op (ev_s (ed_ixD (ed_of (T := (tHd K)) (up (Own.ug o0) f2) rfl) (Own.uh o0) hd_0)) ev_c rv_eqT)) (fun c1 H3 o4 => ?_) (fun c1 H3 o4 => ?_)
    · skip
      exact s_rbS e0 o4 (j := 0) rfl (eb_imp (show Ed (tHd K) _ _ _ _ (HDeed.shelve (hNm deed) (hVs deed)) from eb_tup (Own.uh o4) (ebs_cons (T := tS) (Own.uh o4) (ed_s ev_c (by decide +kernel)) (ebs_cons (T := tS) (Own.uh o4) (ed_flt (ed_ixD (ed_of (T := (tHd K)) (up (Own.ug o0) f2) rfl) (Own.uh o4) hd_1)) (ebs_cons (T := (tL K (tL K tX))) (Own.uh o4) (ed_to (T := (tW (tW tX))) (S := (tL K (tL K tX))) (ed_p (T := (tW (tW tX))) (ep_callB (S := (R_copied_rows K)) (Ex.refl _) (ebs_cons (T := (tL K (tL K tX))) (Ex.refl _) (ed_ixD (ed_of (T := (tHd K)) (up (Own.uh o4) (up (Own.ug o0) f2)) rfl) (Ex.refl _) (hd_Vs (vc_copied_deed_hd1 deed c1))) ebs_nil) (fun vs G ha => ⟨_, tX, inferInstance, (hVs deed), ha, rfl⟩)) (Own.uh o4) (fun _ _ h => h))) ebs_nil))) (Nat.le_of_ble_eq_true rfl) hmk_shelve) fun N v h => (by rw [(vc_copied_deed_ret1 deed c1)]; exact h)) (resB_ok (e := none) rfl k)
    · skip
      refine q_wh o4 (et_test (ev_op (ev_s (ed_ixD (ed_of (T := (tHd K)) (up (Own.ug o0) f2) rfl) (Own.uh o4) hd_0)) ev_c rv_eqT)) (fun c2 H5 o6 => ?_) (fun c2 H5 o6 => ?_)
      · skip
        exact s_rbS e0 o6 (j := 0) rfl (eb_imp (show Ed (tHd K) _ _ _ _ (HDeed.lay (hNm deed) (hBk deed) (hZ deed) (hO deed)) from eb_tup (Own.uh o6) (ebs_cons (T := tS) (Own.uh o6) (ed_s ev_c (by decide +kernel)) (ebs_cons (T := tS) (Own.uh o6) (ed_flt (ed_ixD (ed_of (T := (tHd K)) (up (Own.ug o0) f2) rfl) (Own.uh o6) hd_1)) (ebs_cons (T := tS) (Own.uh o6) (ed_flt (ed_ixD (ed_of (T := (tHd K)) (up (Own.ug o0) f2) rfl) (Own.uh o6) (hd_Bk (vc_copied_deed_hd2 deed c1 c2)))) (ebs_cons (T := (tL K (tL K tI))) (Own.uh o6) (ed_to (T := (tW (tW tI))) (S := (tL K (tL K tI))) (ed_p (T := (tW (tW tI))) (ep_callB (S := (R_copied_rows K)) (Ex.refl _) (ebs_cons (T := (tL K (tL K tI))) (Ex.refl _) (ed_ixD (ed_of (T := (tHd K)) (up (Own.uh o6) (up (Own.ug o0) f2)) rfl) (Ex.refl _) (hd_Z (vc_copied_deed_hd3 deed c1 c2))) ebs_nil) (fun vs G ha => ⟨_, tI, inferInstance, (hZ deed), ha, rfl⟩)) (Own.uh o6) (fun _ _ h => h))) (ebs_cons (T := (tL K (tL K tI))) (Own.uh o6) (ed_to (T := (tW (tW tI))) (S := (tL K (tL K tI))) (ed_p (T := (tW (tW tI))) (ep_callB (S := (R_copied_rows K)) (Ex.refl _) (ebs_cons (T := (tL K (tL K tI))) (Ex.refl _) (ed_ixD (ed_of (T := (tHd K)) (up (Own.uh o6) (up (Own.ug o0) f2)) rfl) (Ex.refl _) (hd_O (vc_copied_deed_hd4 deed c1 c2))) ebs_nil) (fun vs G ha => ⟨_, tI, inferInstance, (hO deed), ha, rfl⟩)) (Own.uh o6) (fun _ _ h => h))) ebs_nil))))) (Nat.le_of_ble_eq_true rfl) hmk_lay) fun N v h => (by rw [(vc_copied_deed_ret2 deed c1 c2)]; exact h)) (resB_ok (e := none) rfl k)
      · skip
        exact s_rbS e0 o6 (j := 0) rfl (eb_imp (ed_of (T := (tHd K)) (up (Own.ug o0) f2) rfl) fun N v h => (by rw [(vc_copied_deed_ret3 deed c1 c2)]; exact h)) (resB_ok (e := none) rfl k)
def hal0 : HallM := ⟨[], [], [], []⟩
def becM (h : HallM) (d : HDeed) (s : List (Str × List (List Str))) (f : List (Str × TabM)) : HallM := ⟨s, f, h.done ++ [⟨h.shelf, h.floor, d⟩], []⟩
abbrev s_Halld__initd_ : Stmt := inClass (topS 62) 0
theorem sc_Halld__initd_ : FnScope ["self"] ["self"] (defScope s_Halld__initd_) := ⟨rfl, rfl, rfl, by decide +kernel, rfl, by decide +kernel, by decide +kernel⟩
section
variable (hb22 : (([] : List (T3 (List (Str × (List (List Str)))) (List (Str × TabM)) HDeed))).length ≤ 40000) (hb31 : (([] : List (T3 (List (Str × (List (List Str)))) (List (Str × TabM)) HDeed))).length ≤ 40000)
include hb22 hb31
theorem vc_Halld__initd__ret1 : (hal0) = ({ shelf := ([] : (List (Str × (List (List Str))))), floor := ([] : (List (Str × TabM))), done := ([] : List (T3 (List (Str × (List (List Str)))) (List (Str × TabM)) HDeed)), undone := ([] : List (T3 (List (Str × (List (List Str)))) (List (Str × TabM)) HDeed)) } : HallM) := by
  rfl
end
def R_Hall (K : PySem.W.Frag) (C_Book C_Deal C_Table C_Hall : Addr) : RlX := ⟨fun vs B Ps r => ArgsR B vs [] ∧ Ps = [] ∧ r = resX (none) (fun G Ps' w => ∃ N', Ps' = [N'] ∧ (stHall K C_Book C_Deal C_Table C_Hall).R G N' w (hal0)) (fun _ _ => True)⟩
theorem ok_Halld__initd_ (B : Bt mg) {C_Book C_Deal C_Hall C_Table : Addr} (T_Hall : THall K mg C_Hall) (D : Dm K C_Hall "__init__" "Hall.__init__" s_Halld__initd_ ["self"]) : OkM P w K mg base 1 C_Hall "__init__" ["self"] ((R_Hall K C_Book C_Deal C_Table C_Hall).spI mg C_Hall) := by
  refine D.ok sc_Halld__initd_ (fun vs H Q E h => ?_) (fun f cdv A outer s H vs Q E hr h => ?_)
  · obtain ⟨x0, dx0, us, G0, B0, r, rfl, _, _, _, _, _, ⟨ha, _⟩, _⟩ := init_out h
    exact congrArg Nat.succ ha.len
  · obtain ⟨x0, dx0, us, G0, B0, r, rfl, rfl, hx, hdx, hne, eB, ⟨ha, _, rfl⟩, k⟩ := init_out h
    obtain rfl := args0 ha
    have o0 : Own (emp :: B0 :: (sing x0 (.ins C_Hall dx0 [])) :: (rest2 [B0] G0) :: []) _ := own_initX hx hdx hne eB
    refine ⟨_, (pss_cons (ps_fldK K (pv 0) pe_dnewK)
      (pss_cons (ps_fldK K (pv 0) pe_dnewK)
      (pss_cons (ps_fldK K (pv 0) (pe_lst pa_nil))
      (pss_one (ps_fldK K (pv 0) (pe_lst pa_nil)))))), ?_⟩
    refine q_fldY (fun v => [("shelf", v)]) (fun _ => rfl) o0 (j := 0) rfl (ev_var rfl) (ed_knew (T := (tBook K C_Book)) (Own.uh o0)) T_Hall.cl T_Hall.n_shelf (by show 0 < 1000; decide) fun u1 M2 H3 eM4 o5 f6 => ?_
    have o7 : Own (M2 :: B0 :: (sing x0 (.ins C_Hall dx0 [("shelf", u1)])) :: (rest2 [B0] G0) :: []) H3 := o5
    refine q_fldY (fun v => [("shelf", u1), ("floor", v)]) (fun _ => rfl) o7 (j := 0) rfl (ev_var rfl) (ed_knew (T := (tFz (stTab K C_Book C_Deal C_Table))) (Own.uh o7)) T_Hall.cl T_Hall.n_floor (by show 1 < 1000; decide) fun u8 M9 H10 eM11 o12 f13 => ?_
    have o14 : Own (M9 :: B0 :: (sing x0 (.ins C_Hall dx0 [("shelf", u1), ("floor", u8)])) :: (rest2 [B0] G0) :: []) H10 := o12
    refine q_fldN (T := (tT3 K (tKd (tBook K C_Book)) (tKd (tFz (stTab K C_Book C_Deal C_Table))) (tHd K))) (l := ([] : List (T3 (List (Str × (List (List Str)))) (List (Str × TabM)) HDeed))) (fun v => [("shelf", u1), ("floor", u8), ("done", v)]) (fun _ => rfl) o14 (j := 0) rfl (ev_var rfl) (en_lst (T := (tT3 K (tKd (tBook K C_Book)) (tKd (tFz (stTab K C_Book C_Deal C_Table))) (tHd K))) (l := ([] : List (T3 (List (Str × (List (List Str)))) (List (Str × TabM)) HDeed))) (Own.uh o14) ebs_nil (Nat.le_of_ble_eq_true rfl)) T_Hall.cl T_Hall.n_done (by show 2 < 1000; decide) fun p15 xs16 M17 H18 eM19 o20 f21 hb22 => ?_
    have o23 : Own (M17 :: B0 :: (sing p15 (.lst xs16)) :: (sing x0 (.ins C_Hall dx0 [("shelf", u1), ("floor", u8), ("done", (.ref p15))])) :: (rest2 [B0] G0) :: []) H18 := o20
    refine s_fldN (T := (tT3 K (tKd (tBook K C_Book)) (tKd (tFz (stTab K C_Book C_Deal C_Table))) (tHd K))) (l := ([] : List (T3 (List (Str × (List (List Str)))) (List (Str × TabM)) HDeed))) (fun v => [("shelf", u1), ("floor", u8), ("done", (.ref p15)), ("undone", v)]) (fun _ => rfl) o23 (j := 1) rfl (ev_var rfl) (en_lst (T := (tT3 K (tKd (tBook K C_Book)) (tKd (tFz (stTab K C_Book C_Deal C_Table))) (tHd K))) (l := ([] : List (T3 (List (Str × (List (List Str)))) (List (Str × TabM)) HDeed))) (Own.uh o23) ebs_nil (Nat.le_of_ble_eq_true rfl)) T_Hall.cl T_Hall.n_undone (by show 3 < 1000; decide) fun p24 xs25 M26 H27 eM28 o29 f30 hb31 => ?_
    have o32 : Own (M26 :: B0 :: (sing p24 (.lst xs25)) :: (sing p15 (.lst xs16)) :: (sing x0 (.ins C_Hall dx0 [("shelf", u1), ("floor", u8), ("done", (.ref p15)), ("undone", (.ref p24))])) :: (rest2 [B0] G0) :: []) H27 := o29
    obtain ⟨o33, hd34⟩ := hal_join (Own.front (Own.front (Own.front o32 (j := 0) rfl) (j := 1) rfl) (j := 2) rfl)
    have o35 : Own (M26 :: B0 :: (halN x0 p15 p24 (.ins C_Hall dx0 (halF u1 u8 (.ref p15) (.ref p24))) xs16 xs25) :: (rest2 [B0] G0) :: []) H27 := o33
    exact init_fin rfl k eB (Own.front o35 (j := 0) rfl) (List.mem_of_getElem? (i := 0) rfl) ⟨_, rfl, (by rw [(vc_Halld__initd__ret1 hb22 hb31)]; exact ⟨x0, dx0, u1, u8, p15, p24, xs16, xs25, rfl, rfl, hd34, (up (Own.uu o35 (Ex.trans eM11 (Ex.trans eM19 eM28))) f6), (up (Own.uu o35 (Ex.trans eM19 eM28)) f13), (paired_up (Own.uu o35 eM28) f21), hb22, f30, hb31⟩)⟩
abbrev s_Hall_books : Stmt := inClass (topS 62) 18
theorem sc_Hall_books : FnScope ["self"] ["self"] (defScope s_Hall_books) := ⟨rfl, rfl, rfl, by decide +kernel, rfl, by decide +kernel, by decide +kernel⟩
section
variable (hal : HallM) (ho_t : HalOk hal)
include hal ho_t
theorem vc_Hall_books_ret1 : (ksK hal.shelf) = (ksK hal.shelf) := by
  rfl
end
def R_Hall_books (K : PySem.W.Frag) (C_Book C_Deal C_Table C_Hall : Addr) : RlX := ⟨fun vs B Ps r => ∃ (hal : HallM) (N : Hp) (v : V), ArgsR B vs [⟨tIs v, ()⟩] ∧ Ps = [N] ∧ (stHall K C_Book C_Deal C_Table C_Hall).R B N v hal ∧ r = resX (none) (fun G Ps' w => Ps' = [N] ∧ (tW tS).R G w (ksK hal.shelf)) (fun _ Ps' => Ps' = [N])⟩
theorem ok_Hall_books (B : Bt mg) {C_Book C_Deal C_Hall C_Table : Addr} (T_Hall : THall K mg C_Hall) (D : Dm K C_Hall "books" "Hall.books" s_Hall_books ["self"]) : OkM P w K mg base 1 C_Hall "books" ["self"] ((R_Hall_books K C_Book C_Deal C_Table C_Hall).sp mg) := by
  refine D.ok sc_Hall_books (fun vs H Q E h => ?_) (fun f cdv A outer s H vs Q E hr h => ?_)
  · obtain ⟨B0, Ps, r, _, ⟨hal, N0, v0, ha, _⟩, _⟩ := h
    exact ha.len
  · obtain ⟨B0, Ps, r, o00, ⟨hal, N0, v0, ha, rfl, hS, rfl⟩, k⟩ := h
    obtain ⟨v0', rfl, f0⟩ := args1 ha
    obtain rfl : v0 = v0' := f0.symm
    have ho_t := hal_ok hS
    obtain ⟨p1, dx2, u4, u5, p8, p9, xs10, xs11, hv_, hN_, hd3, f6, f7, f12, hb13, f14, hb15⟩ := hS
    subst hv_ hN_
    have o0 : Own (emp :: B0 :: (halN p1 p8 p9 (.ins C_Hall dx2 (halF u4 u5 (.ref p8) (.ref p9))) xs10 xs11) :: (rest2 [B0, halN p1 p8 p9 (.ins C_Hall dx2 (halF u4 u5 (.ref p8) (.ref p9))) xs10 xs11] H) :: []) H := own_start o00
    refine ⟨_, (pss_one (ps_ret (pe_callTy (call_list_dK rfl) (by rfl) B.list boot_ty_list (pa_cons (pe_fldK K (pv 0)) pa_nil)))), ?_⟩
    first | show tRet _ _ _ _ | (dsimp only; show tRet _ _ _ _) | (unfold unE; dsimp only; show tRet _ _ _ _)
    have kX := (resX_ok rfl k)
    refine s_rbX (P := fun G w => (tW tS).R G w (ksK hal.shelf)) o00 (Own.front o0 (j := 0) rfl) (List.mem_of_getElem? (i := 0) rfl) (ed_of_n (Own.uh o0) (en_flt (en_kkeys (ed_fldO (T := (tKd (tBook K C_Book))) (ev_var rfl) (Own.exO o0 (j := 0) rfl _ _ (hal_p hd3)) T_Hall.cl T_Hall.n_shelf rfl (up (Own.ug o0) f6) (Own.uh o0)) (Own.uh o0)))) kX (fun G w eG h => ⟨rfl, (by rw [(vc_Hall_books_ret1 hal ho_t)]; exact h)⟩)
abbrev s_Hall_book : Stmt := inClass (topS 62) 20
theorem sc_Hall_book : FnScope ["self", "name"] ["self", "name"] (defScope s_Hall_book) := ⟨rfl, rfl, rfl, by decide +kernel, rfl, by decide +kernel, by decide +kernel⟩
section
variable (hal : HallM) (name : Str) (ho_t : HalOk hal) (hs18 : PyData.strOk (name) = true) (c1 : (!decide (name ∈ ksK hal.shelf)) = true)
include hal name ho_t hs18 c1
theorem vc_Hall_book_raise1 : bokErr hal name = some ("NoBook" : Str) := by
  exact if_neg (by simpa using c1)
end
section
variable (hal : HallM) (name : Str) (ho_t : HalOk hal) (hs18 : PyData.strOk (name) = true)
include hal name ho_t hs18
section
variable (c1 : (!decide (name ∈ ksK hal.shelf)) = false)
include c1
theorem vc_Hall_book_none1 : bokErr hal name = none := by
  exact if_pos (by simpa using c1)
theorem vc_Hall_book_key1 : name ∈ ksK hal.shelf := by
  simpa using c1
theorem vc_Hall_book_ret1 : (getK hal.shelf name) = (getK hal.shelf name) := by
  rfl
end
end
def R_Hall_book (K : PySem.W.Frag) (C_Book C_Deal C_Table C_Hall : Addr) : RlX := ⟨fun vs B Ps r => ∃ (hal : HallM) (N : Hp) (v : V) (name : Str), ArgsR B vs [⟨tIs v, ()⟩, ⟨tS, name⟩] ∧ Ps = [N] ∧ (stHall K C_Book C_Deal C_Table C_Hall).R B N v hal ∧ r = resX (bokErr hal name) (fun G Ps' w => Ps' = [N] ∧ (tBook K C_Book).R G w (getK hal.shelf name)) (fun _ Ps' => Ps' = [N])⟩
theorem ok_Hall_book (B : Bt mg) {C_Book C_Deal C_Hall C_NoBook C_Table : Addr} (T_Hall : THall K mg C_Hall) (X_NoBook : Xc K mg "NoBook" C_NoBook) (D : Dm K C_Hall "book" "Hall.book" s_Hall_book ["self", "name"]) : OkM P w K mg base 1 C_Hall "book" ["self", "name"] ((R_Hall_book K C_Book C_Deal C_Table C_Hall).sp mg) := by
  refine D.ok sc_Hall_book (fun vs H Q E h => ?_) (fun f cdv A outer s H vs Q E hr h => ?_)
  · obtain ⟨B0, Ps, r, _, ⟨hal, N0, v0, name, ha, _⟩, _⟩ := h
    exact ha.len
  · obtain ⟨B0, Ps, r, o00, ⟨hal, N0, v0, name, ha, rfl, hS, rfl⟩, k⟩ := h
    obtain ⟨v0', v1, rfl, f0, f2⟩ := args2 ha
    obtain rfl : v0 = v0' := f0.symm
    have ho_t := hal_ok hS
    obtain ⟨p3, dx4, u6, u7, p10, p11, xs12, xs13, hv_, hN_, hd5, f8, f9, f14, hb15, f16, hb17⟩ := hS
    subst hv_ hN_
    have o0 : Own (emp :: B0 :: (halN p3 p10 p11 (.ins C_Hall dx4 (halF u6 u7 (.ref p10) (.ref p11))) xs12 xs13) :: (rest2 [B0, halN p3 p10 p11 (.ins C_Hall dx4 (halF u6 u7 (.ref p10) (.ref p11))) xs12 xs13] H) :: []) H := own_start o00
    obtain ⟨rfl, hs18⟩ : v1 = .str name ∧ PyData.strOk (name) = true := f2
    refine ⟨_, (pss_cons (ps_if (pt_cmp (pc_dnotin (hu_of hr) (pv 1) (pe_fldK K (pv 0))))
        (pss_one (ps_raise rfl (takes_of rfl rfl rfl rfl) (pmk_ex X_NoBook (by rfl))))
        pss_nil)
      (pss_one (ps_ret (pe_dget (hu_of hr) (pe_fldK K (pv 0)) (pv 1) (fun _ _ => rfl))))), ?_⟩
    refine q_wh o0 (et_test (ev_knin (ed_kn (ed_fldO (T := (tKd (tBook K C_Book))) (ev_var rfl) (Own.exO o0 (j := 0) rfl _ _ (hal_p hd5)) T_Hall.cl T_Hall.n_shelf rfl (up (Own.ug o0) f8) (Own.uh o0))) (ev_var rfl) (Own.uh o0))) (fun c1 H19 o20 => ?_) (fun c1 H19 o20 => ?_)
    · skip
      exact RaiseL.go (resX_err (vc_Hall_book_raise1 hal name ho_t hs18 c1) k) o00 (Own.front o20 (j := 0) rfl) (List.mem_of_getElem? (i := 0) rfl) rfl X_NoBook.g
    · skip
      first | show tRet _ _ _ _ | (dsimp only; show tRet _ _ _ _) | (unfold unE; dsimp only; show tRet _ _ _ _)
      have kX := (resX_ok (vc_Hall_book_none1 hal name ho_t hs18 c1) k)
      refine s_rbX (P := fun G w => (tBook K C_Book).R G w (getK hal.shelf name)) o00 (Own.front o20 (j := 0) rfl) (List.mem_of_getElem? (i := 0) rfl) (ed_kget (ed_fldO (T := (tKd (tBook K C_Book))) (ev_var rfl) (Own.exO o20 (j := 0) rfl _ _ (hal_p hd5)) T_Hall.cl T_Hall.n_shelf rfl (up (Own.ug o0) f8) (Own.uh o20)) (ev_var rfl) (vc_Hall_book_key1 hal name ho_t hs18 c1) (Own.uh o20)) kX (fun G w eG h => ⟨rfl, (by rw [(vc_Hall_book_ret1 hal name ho_t hs18 c1)]; exact h)⟩)
abbrev s_Hall_become : Stmt := inClass (topS 62) 1
theorem sc_Hall_become : FnScope ["self", "deed", "shelf", "floor"] ["self", "deed", "shelf", "floor"] (defScope s_Hall_become) := ⟨rfl, rfl, rfl, by decide +kernel, rfl, by decide +kernel, by decide +kernel⟩
section
variable (hal : HallM) (deed : HDeed) (shelf : (List (Str × (List (List Str))))) (floor : (List (Str × TabM))) (hp1 : hal.done.length < 30000) (ho_t : HalOk hal)
include hal deed shelf floor hp1 ho_t
theorem vc_Hall_become_app1 : hal.done.length < 40000 := by
  omega
section
variable (hb30 : (hal.done ++ [(⟨hal.shelf, hal.floor, (deed)⟩ : (T3 (List (Str × (List (List Str)))) (List (Str × TabM)) HDeed))]).length ≤ 40000) (hb39 : (([] : List (T3 (List (Str × (List (List Str)))) (List (Str × TabM)) HDeed))).length ≤ 40000)
include hb30 hb39
theorem vc_Hall_become_step1 : (becM hal deed shelf floor) = ({ hal with shelf := shelf, floor := floor, done := hal.done ++ [(⟨hal.shelf, hal.floor, (deed)⟩ : (T3 (List (Str × (List (List Str)))) (List (Str × TabM)) HDeed))], undone := ([] : List (T3 (List (Str × (List (List Str)))) (List (Str × TabM)) HDeed)) }) := by
  rfl
theorem vc_Hall_become_ret1 : (()) = (()) := by
  rfl
end
end
def R_Hall_become (K : PySem.W.Frag) (C_Book C_Deal C_Table C_Hall : Addr) : RlX := ⟨fun vs B Ps r => ∃ (hal : HallM) (N : Hp) (v : V) (deed : HDeed) (shelf : (List (Str × (List (List Str))))) (floor : (List (Str × TabM))), ArgsR B vs [⟨tIs v, ()⟩, ⟨(tHd K), deed⟩, ⟨(tKd (tBook K C_Book)), shelf⟩, ⟨(tKd (tFz (stTab K C_Book C_Deal C_Table))), floor⟩] ∧ Ps = [N] ∧ (stHall K C_Book C_Deal C_Table C_Hall).R B N v hal ∧ (hal.done.length < 30000) ∧ r = resX (none) (fun G Ps' w => ∃ N', Ps' = [N'] ∧ (stHall K C_Book C_Deal C_Table C_Hall).R G N' v (becM hal deed shelf floor) ∧ tN.R G w (())) (fun _ Ps' => Ps' = [N])⟩
theorem ok_Hall_become (B : Bt mg) {C_Book C_Deal C_Hall C_Table : Addr} (T_Hall : THall K mg C_Hall) (O_copied_deed : Ok P w K mg base 2 "copied_deed" ["deed"] ((R_copied_deed K).spB mg)) (D : Dm K C_Hall "become" "Hall.become" s_Hall_become ["self", "deed", "shelf", "floor"]) : OkM P w K mg base 3 C_Hall "become" ["self", "deed", "shelf", "floor"] ((R_Hall_become K C_Book C_Deal C_Table C_Hall).sp mg) := by
  refine D.ok sc_Hall_become (fun vs H Q E h => ?_) (fun f cdv A outer s H vs Q E hr h => ?_)
  · obtain ⟨B0, Ps, r, _, ⟨hal, N0, v0, deed, shelf, floor, ha, _⟩, _⟩ := h
    exact ha.len
  · obtain ⟨B0, Ps, r, o00, ⟨hal, N0, v0, deed, shelf, floor, ha, rfl, hS, hp1, rfl⟩, k⟩ := h
    obtain ⟨v0', v1, v2, v3, rfl, f0, f4, f5, f6⟩ := args4 ha
    obtain rfl : v0 = v0' := f0.symm
    have ho_t := hal_ok hS
    obtain ⟨p7, dx8, u10, u11, p14, p15, xs16, xs17, hv_, hN_, hd9, f12, f13, f18, hb19, f20, hb21⟩ := hS
    subst hv_ hN_
    have o0 : Own (emp :: B0 :: (halN p7 p14 p15 (.ins C_Hall dx8 (halF u10 u11 (.ref p14) (.ref p15))) xs16 xs17) :: (rest2 [B0, halN p7 p14 p15 (.ins C_Hall dx8 (halF u10 u11 (.ref p14) (.ref p15))) xs16 xs17] H) :: []) H := own_start o00
    refine ⟨_, (pss_cons (ps_expr (pe_bmK K PySem.F.plainAttrs_list PySem.F.slot_list_append PySem.F.type_list_append mt_append (pe_fldK K (pv 0)) (pa_cons (pe_tup (pa_cons (pe_fldK K (pv 0)) (pa_cons (pe_fldK K (pv 0)) (pa_cons (pe_callO O_copied_deed (hr.mono (by omega)) (by rfl) (takes_of rfl rfl rfl rfl) (pa_cons (pv 1) pa_nil)) pa_nil)))) pa_nil)))
      (pss_cons (ps_fldK K (pv 0) (pe_lst pa_nil))
      (pss_cons (ps_fldK K (pv 0) (pv 2))
      (pss_one (ps_fldK K (pv 0) (pv 3)))))), ?_⟩
    have o22 := hal_cut o0 (j := 0) rfl hd9
    have o23 : Own (emp :: B0 :: (sing p7 (.ins C_Hall dx8 (halF u10 u11 (.ref p14) (.ref p15)))) :: (sing p14 (.lst xs16)) :: (sing p15 (.lst xs17)) :: (rest2 [B0, halN p7 p14 p15 (.ins C_Hall dx8 (halF u10 u11 (.ref p14) (.ref p15))) xs16 xs17] H) :: []) H := o22
    refine q_apu (T := (tT3 K (tKd (tBook K C_Book)) (tKd (tFz (stTab K C_Book C_Deal C_Table))) (tHd K))) o23 (j := 1) rfl (paired_up (Own.ug o0) f18) (ev_fldP (ev_var rfl) (Own.exO o23 (j := 0) rfl _ _ sing_at) T_Hall.cl T_Hall.n_done rfl) (ed_tup3 (K := K) (Own.uh o23) (ebs_cons (T := (tKd (tBook K C_Book))) (Own.uh o23) (ed_fldO (T := (tKd (tBook K C_Book))) (ev_var rfl) (Own.exO o23 (j := 0) rfl _ _ sing_at) T_Hall.cl T_Hall.n_shelf rfl (up (Own.ug o0) f12) (Own.uh o23)) (ebs_cons (T := (tKd (tFz (stTab K C_Book C_Deal C_Table)))) (Own.uh o23) (ed_fldO (T := (tKd (tFz (stTab K C_Book C_Deal C_Table)))) (ev_var rfl) (Own.exO o23 (j := 0) rfl _ _ sing_at) T_Hall.cl T_Hall.n_floor rfl (up (Own.ug o0) f13) (Own.uh o23)) (ebs_cons (T := (tHd K)) (Own.uh o23) (ed_callS (S := (R_copied_deed K)) (Own.uh o23) (ebs_cons (T := (tHd K)) (Own.uh o23) (ed_of (T := (tHd K)) (up (Own.ug o0) f4) rfl) ebs_nil) (fun vs G ha => ⟨(deed), ha, rfl⟩)) ebs_nil)))) (vc_Hall_become_app1 hal deed shelf floor hp1 ho_t) fun v24 M25 H26 eM27 o28 f29 => ?_
    have hb30 : (hal.done ++ [(⟨hal.shelf, hal.floor, (deed)⟩ : (T3 (List (Str × (List (List Str)))) (List (Str × TabM)) HDeed))]).length ≤ 40000 := by have := (vc_Hall_become_app1 hal deed shelf floor hp1 ho_t); simp only [List.length_append, List.length_cons, List.length_nil] at this ⊢; omega
    have o31 : Own (M25 :: B0 :: (sing p7 (.ins C_Hall dx8 (halF u10 u11 (.ref p14) (.ref p15)))) :: (sing p14 (.lst (xs16 ++ [v24]))) :: (sing p15 (.lst xs17)) :: (rest2 [B0, halN p7 p14 p15 (.ins C_Hall dx8 (halF u10 u11 (.ref p14) (.ref p15))) xs16 xs17] H) :: []) H26 := o28
    refine q_fldN (T := (tT3 K (tKd (tBook K C_Book)) (tKd (tFz (stTab K C_Book C_Deal C_Table))) (tHd K))) (l := ([] : List (T3 (List (Str × (List (List Str)))) (List (Str × TabM)) HDeed))) (fun v => halF u10 u11 (.ref p14) v) put_undone o31 (j := 0) rfl (ev_var rfl) (en_lst (T := (tT3 K (tKd (tBook K C_Book)) (tKd (tFz (stTab K C_Book C_Deal C_Table))) (tHd K))) (l := ([] : List (T3 (List (Str × (List (List Str)))) (List (Str × TabM)) HDeed))) (Own.uh o31) ebs_nil (Nat.le_of_ble_eq_true rfl)) T_Hall.cl T_Hall.n_undone halF_len fun p32 xs33 M34 H35 eM36 o37 f38 hb39 => ?_
    have o40 : Own (M34 :: B0 :: (sing p32 (.lst xs33)) :: (sing p7 (.ins C_Hall dx8 (halF u10 u11 (.ref p14) (.ref p32)))) :: (sing p14 (.lst (xs16 ++ [v24]))) :: (sing p15 (.lst xs17)) :: (rest2 [B0, halN p7 p14 p15 (.ins C_Hall dx8 (halF u10 u11 (.ref p14) (.ref p15))) xs16 xs17] H) :: []) H35 := o37
    refine q_fldY (fun v => halF v u11 (.ref p14) (.ref p32)) put_shelf o40 (j := 1) rfl (ev_var rfl) (ed_of (T := (tKd (tBook K C_Book))) (up (Own.uu o40 (Ex.trans eM27 eM36)) (up (Own.ug o0) f5)) rfl) T_Hall.cl T_Hall.n_shelf halF_len fun u41 M42 H43 eM44 o45 f46 => ?_
    have o47 : Own (M42 :: B0 :: (sing p32 (.lst xs33)) :: (sing p7 (.ins C_Hall dx8 (halF u41 u11 (.ref p14) (.ref p32)))) :: (sing p14 (.lst (xs16 ++ [v24]))) :: (sing p15 (.lst xs17)) :: (rest2 [B0, halN p7 p14 p15 (.ins C_Hall dx8 (halF u10 u11 (.ref p14) (.ref p15))) xs16 xs17] H) :: []) H43 := o45
    refine s_fldY (fun v => halF u41 v (.ref p14) (.ref p32)) put_floor o47 (j := 1) rfl (ev_var rfl) (ed_of (T := (tKd (tFz (stTab K C_Book C_Deal C_Table)))) (up (Own.uu o47 (Ex.trans eM27 (Ex.trans eM36 eM44))) (up (Own.ug o0) f6)) rfl) T_Hall.cl T_Hall.n_floor halF_len fun u48 M49 H50 eM51 o52 f53 => ?_
    have o54 : Own (M49 :: B0 :: (sing p32 (.lst xs33)) :: (sing p7 (.ins C_Hall dx8 (halF u41 u48 (.ref p14) (.ref p32)))) :: (sing p14 (.lst (xs16 ++ [v24]))) :: (sing p15 (.lst xs17)) :: (rest2 [B0, halN p7 p14 p15 (.ins C_Hall dx8 (halF u10 u11 (.ref p14) (.ref p15))) xs16 xs17] H) :: []) H50 := o52
    obtain ⟨o55, hd56⟩ := hal_join (Own.front (Own.front (Own.front o54 (j := 0) rfl) (j := 2) rfl) (j := 2) rfl)
    have o57 : Own (M49 :: B0 :: (halN p7 p14 p32 (.ins C_Hall dx8 (halF u41 u48 (.ref p14) (.ref p32))) (xs16 ++ [v24]) xs33) :: (sing p15 (.lst xs17)) :: (rest2 [B0, halN p7 p14 p15 (.ins C_Hall dx8 (halF u10 u11 (.ref p14) (.ref p15))) xs16 xs17] H) :: []) H50 := o55
    exact s_rnQ o00 (Own.front o57 (j := 0) rfl) (List.mem_of_getElem? (i := 1) rfl) (resX_ok rfl k) ⟨_, rfl, (by rw [(vc_Hall_become_step1 hal deed shelf floor hp1 ho_t hb30 hb39)]; exact ⟨p7, dx8, u41, u48, p14, p32, (xs16 ++ [v24]), xs33, rfl, rfl, hd56, (up (Own.uu o57 eM51) f46), f53, (paired_up (Own.uu o57 (Ex.trans eM36 (Ex.trans eM44 eM51))) f29), hb30, (paired_up (Own.uu o57 (Ex.trans eM44 eM51)) f38), hb39⟩), (by first | (rw [(vc_Hall_become_ret1 hal deed shelf floor hp1 ho_t hb30 hb39)]; exact rfl) | (rw [← (vc_Hall_become_ret1 hal deed shelf floor hp1 ho_t hb30 hb39)]; exact rfl))⟩
theorem newErr_no {ks : List Str} {n : Str} (h : newErr ks n = none) : nameB n = true ∧ n ∉ ks ∧ ks.length < 8 := by
  unfold newErr at h
  by_cases h1 : nameB n = false
  · rw [if_pos h1] at h; cases h
  · rw [if_neg h1] at h
    by_cases h2 : n ∈ ks
    · rw [if_pos h2] at h; cases h
    · rw [if_neg h2] at h
      by_cases h3 : 8 ≤ ks.length
      · rw [if_pos h3] at h; cases h
      · exact ⟨by simpa using h1, h2, by omega⟩
theorem room_of {α : Type} {l : List (Str × α)} {n : Str} (h : newErr (ksK l) n = none) : l.length < 900 := by
  have := (newErr_no h).2.2
  rw [ksK_len] at this
  omega
def shvErr (h : HallM) (n : Str) (vs : List (List Str)) : Option (Str × List (Str × V)) := match newErr (ksK h.shelf) n with
  | some x => some (x, [])
  | none => needM vs
def shvM (h : HallM) (n : Str) (vs : List (List Str)) : HallM := becM h (.shelve n vs) (putKd h.shelf n vs) h.floor
theorem ad_BookN {C : Addr} {G : Hp} {vs : List V} {ls : List (List Str)} (ha : ArgsR G vs [⟨tL K (tL K tX), ls⟩]) (h : ls.length ≤ 1000 ∧ ∀ l ∈ ls, l.length ≤ 1000) (hn : needM ls = none) : (R_Book K C).R vs G (.ok (pBook K C ls)) := ad_Book ha ⟨hn, h⟩
theorem ad_BookE {C : Addr} {G : Hp} {vs : List V} {ls : List (List Str)} {xn : Str} {fs : List (Str × V)} (ha : ArgsR G vs [⟨tL K (tL K tX), ls⟩]) (h : ls.length ≤ 1000 ∧ ∀ l ∈ ls, l.length ≤ 1000) (hn : needM ls = some (xn, fs)) : (R_Book K C).R vs G (.err xn fs) := by
  obtain ⟨v, rfl, h1⟩ := args1 ha
  obtain ⟨p, rfl, h2⟩ := bk_of h1 h.1 h.2
  refine ⟨p, ls, rfl, h2, ?_⟩
  unfold needR
  rw [hn]
abbrev s_Hall_shelve : Stmt := inClass (topS 62) 2
theorem sc_Hall_shelve : FnScope ["self", "name", "verses", "shelf"] ["self", "name", "verses"] (defScope s_Hall_shelve) := ⟨rfl, rfl, rfl, by decide +kernel, rfl, by decide +kernel, by decide +kernel⟩
section
variable (hal : HallM) (name : Str) (verses : (List (List Str))) (xn1 : Str) (hp1 : verses.length ≤ 1000 ∧ ∀ l ∈ verses, l.length ≤ 1000) (hp2 : hal.done.length < 30000) (hp3 : name.length ≤ 1000) (ho_t : HalOk hal) (hs20 : PyData.strOk (name) = true) (hl_verses : verses.length ≤ 40000) (hE1 : (newErr (ksK hal.shelf) (name)) = some xn1)
include hal name verses xn1 hp1 hp2 hp3 ho_t hs20 hl_verses hE1
theorem vc_Hall_shelve_pre_need_new1 : (name).length ≤ 1000 := by
  first | exact hp3 | (rw [ksK_len]; exact ho_t.1.1)
theorem vc_Hall_shelve_pre_need_new2 : (ksK hal.shelf).length ≤ 900 := by
  first | exact hp3 | (rw [ksK_len]; exact ho_t.1.1)
theorem vc_Hall_shelve_raise1 : shvErr hal name verses = some (xn1, []) := by
  unfold shvErr
  rw [hE1]
end
section
variable (hal : HallM) (name : Str) (verses : (List (List Str)))
include hal name verses
section
variable (hp1 : verses.length ≤ 1000 ∧ ∀ l ∈ verses, l.length ≤ 1000) (hp2 : hal.done.length < 30000) (hp3 : name.length ≤ 1000) (ho_t : HalOk hal) (hs20 : PyData.strOk (name) = true) (hl_verses : verses.length ≤ 40000) (hE1 : (newErr (ksK hal.shelf) (name)) = none)
include hp1 hp2 hp3 ho_t hs20 hl_verses hE1
theorem vc_Hall_shelve_pre_need_new3 : (name).length ≤ 1000 := by
  first | exact hp3 | (rw [ksK_len]; exact ho_t.1.1)
theorem vc_Hall_shelve_pre_need_new4 : (ksK hal.shelf).length ≤ 900 := by
  first | exact hp3 | (rw [ksK_len]; exact ho_t.1.1)
section
variable (xn2 : Str) (fs2 : List (Str × V)) (hE2 : (needM verses) = some (xn2, fs2))
include xn2 fs2 hE2
theorem vc_Hall_shelve_pre_Book1 : (verses).length ≤ 1000 ∧ ∀ l ∈ verses, l.length ≤ 1000 := by
  exact hp1
theorem vc_Hall_shelve_raise2 : shvErr hal name verses = some (xn2, fs2) := by
  unfold shvErr
  rw [hE1]
  exact hE2
end
section
variable (hE2 : (needM verses) = none)
include hE2
theorem vc_Hall_shelve_room1 : hal.shelf.length < 900 := by
  exact room_of hE1
theorem vc_Hall_shelve_pre_Book2 : (verses).length ≤ 1000 ∧ ∀ l ∈ verses, l.length ≤ 1000 := by
  exact hp1
theorem vc_Hall_shelve_pre_Hall_become1 : (hal).done.length < 30000 := by
  exact hp2
section
variable (self_a1 : HallM) (ha1 : self_a1 = becM (hal) ((HDeed.shelve name verses)) (putKd hal.shelf name verses) (hal.floor))
include self_a1 ha1
theorem vc_Hall_shelve_none1 : shvErr hal name verses = none := by
  unfold shvErr
  rw [hE1]
  exact hE2
theorem vc_Hall_shelve_step1 : (shvM hal name verses) = (self_a1) := by
  rw [ha1]
  rfl
theorem vc_Hall_shelve_ret1 : (()) = (()) := by
  rfl
end
end
end
end
def R_Hall_shelve (K : PySem.W.Frag) (C_Book C_Deal C_Table C_Hall : Addr) : RlX := ⟨fun vs B Ps r => ∃ (hal : HallM) (N : Hp) (v : V) (name : Str) (verses : (List (List Str))), ArgsR B vs [⟨tIs v, ()⟩, ⟨tS, name⟩, ⟨(tL K (tL K tX)), verses⟩] ∧ Ps = [N] ∧ (stHall K C_Book C_Deal C_Table C_Hall).R B N v hal ∧ (verses.length ≤ 1000 ∧ ∀ l ∈ verses, l.length ≤ 1000) ∧ (hal.done.length < 30000) ∧ (name.length ≤ 1000) ∧ r = resXF (shvErr hal name verses) (fun G Ps' w => ∃ N', Ps' = [N'] ∧ (stHall K C_Book C_Deal C_Table C_Hall).R G N' v (shvM hal name verses) ∧ tN.R G w (())) (fun _ Ps' => Ps' = [N])⟩
theorem ok_Hall_shelve (B : Bt mg) {C_Book C_Deal C_Hall C_Table : Addr} (T_Hall : THall K mg C_Hall) (O_Book : OkC P w K mg base 4 C_Book "Book" ["self", "verses"] ((R_Book K C_Book).spI mg C_Book)) (O_Hall_become : OkM P w K mg base 3 C_Hall "become" ["self", "deed", "shelf", "floor"] ((R_Hall_become K C_Book C_Deal C_Table C_Hall).sp mg)) (O_need_new : Ok P w K mg base 1 "need_new" ["named", "name"] ((R_need_new K).sp mg)) (D : Dm K C_Hall "shelve" "Hall.shelve" s_Hall_shelve ["self", "name", "verses"]) : OkM P w K mg base 6 C_Hall "shelve" ["self", "name", "verses"] ((R_Hall_shelve K C_Book C_Deal C_Table C_Hall).sp mg) := by
  refine D.ok sc_Hall_shelve (fun vs H Q E h => ?_) (fun f cdv A outer s H vs Q E hr h => ?_)
  · obtain ⟨B0, Ps, r, _, ⟨hal, N0, v0, name, verses, ha, _⟩, _⟩ := h
    exact ha.len
  · obtain ⟨B0, Ps, r, o00, ⟨hal, N0, v0, name, verses, ha, rfl, hS, hp1, hp2, hp3, rfl⟩, k⟩ := h
    obtain ⟨v0', v1, v2, rfl, f0, f3, f4⟩ := args3 ha
    obtain rfl : v0 = v0' := f0.symm
    have ho_t := hal_ok hS
    obtain ⟨p5, dx6, u8, u9, p12, p13, xs14, xs15, hv_, hN_, hd7, f10, f11, f16, hb17, f18, hb19⟩ := hS
    subst hv_ hN_
    have o0 : Own (emp :: B0 :: (halN p5 p12 p13 (.ins C_Hall dx6 (halF u8 u9 (.ref p12) (.ref p13))) xs14 xs15) :: (rest2 [B0, halN p5 p12 p13 (.ins C_Hall dx6 (halF u8 u9 (.ref p12) (.ref p13))) xs14 xs15] H) :: []) H := own_start o00
    obtain ⟨rfl, hs20⟩ : v1 = .str name ∧ PyData.strOk (name) = true := f3
    have hl_verses : verses.length ≤ 40000 := len_ofL f4
    refine ⟨_, (pss_cons (ps_expr (pe_callO O_need_new (hr.mono (by omega)) (by rfl) (takes_of rfl rfl rfl rfl) (pa_cons (pe_fldK K (pv 0)) (pa_cons (pv 1) pa_nil))))
      (pss_cons (ps_set (i := 3) sc_Hall_shelve.nd rfl (.inl rfl) (pe_callTy call_dictD (by rfl) B.dict boot_ty_dict (pa_cons (pe_fldK K (pv 0)) pa_nil)))
      (pss_cons (ps_dput (hu_of hr) (pv 3) (pv 1) (pe_makeO O_Book (hr.mono (by omega)) (by rfl) (takes_of rfl rfl rfl rfl) (pa_cons (pv 2) pa_nil)) rfl)
      (pss_one (ps_expr (pe_methO O_Hall_become (pv 0) (hr.mono (by omega)) (takes_of rfl rfl rfl rfl) (pa_cons (pe_tup (pa_cons pe_str (pa_cons (pv 1) (pa_cons (pv 2) pa_nil)))) (pa_cons (pv 3) (pa_cons (pe_fldK K (pv 0)) pa_nil))))))))), ?_⟩
    cases hE1 : newErr (ksK hal.shelf) (name) with
    | some xn1 =>
      exact q_der (xn := xn1) (fs := []) (er_callB (S := (R_need_new K)) (Ex.refl _) (ebs_cons (T := tKn) (Ex.refl _) (ed_kn (ed_toB (Own.uh o0) (ed_fldO (T := (tKd (tBook K C_Book))) (ev_var rfl) (Own.exO o0 (j := 0) rfl _ _ (hal_p hd7)) T_Hall.cl T_Hall.n_shelf rfl (up (Own.ug o0) f10) (Own.uh o0)))) (ebs_cons (T := tS) (Ex.refl _) (ed_s (ev_var rfl) hs20) ebs_nil)) (fun vs G ha => ⟨(ksK hal.shelf), (name), ha, (vc_Hall_shelve_pre_need_new1 hal name verses xn1 hp1 hp2 hp3 ho_t hs20 hl_verses hE1), (vc_Hall_shelve_pre_need_new2 hal name verses xn1 hp1 hp2 hp3 ho_t hs20 hl_verses hE1), (res_err hE1).symm⟩)) (RaiseL.fwd (resXF_err (vc_Hall_shelve_raise1 hal name verses xn1 hp1 hp2 hp3 ho_t hs20 hl_verses hE1) k) o00 (Own.front o0 (j := 0) rfl) (List.mem_of_getElem? (i := 0) rfl) (fun _ _ => rfl))
    | none =>
      refine q_dv o0 (ep_callB (S := (R_need_new K)) (Ex.refl _) (ebs_cons (T := tKn) (Ex.refl _) (ed_kn (ed_toB (Own.uh o0) (ed_fldO (T := (tKd (tBook K C_Book))) (ev_var rfl) (Own.exO o0 (j := 0) rfl _ _ (hal_p hd7)) T_Hall.cl T_Hall.n_shelf rfl (up (Own.ug o0) f10) (Own.uh o0)))) (ebs_cons (T := tS) (Ex.refl _) (ed_s (ev_var rfl) hs20) ebs_nil)) (fun vs G ha => ⟨(ksK hal.shelf), (name), ha, (vc_Hall_shelve_pre_need_new3 hal name verses hp1 hp2 hp3 ho_t hs20 hl_verses hE1), (vc_Hall_shelve_pre_need_new4 hal name verses hp1 hp2 hp3 ho_t hs20 hl_verses hE1), (res_ok hE1).symm⟩)) fun H21 o22 => ?_
      refine q_kcp (i := 3) o22 (ed_fldO (T := (tKd (tBook K C_Book))) (ev_var rfl) (Own.exO o22 (j := 0) rfl _ _ (hal_p hd7)) T_Hall.cl T_Hall.n_shelf rfl (up (Own.ug o0) f10) (Own.uh o22)) fun p23 kv24 M25 H26 eM27 o28 f29 => ?_
      have o30 : Own (M25 :: B0 :: (sing p23 (.dK kv24)) :: (halN p5 p12 p13 (.ins C_Hall dx6 (halF u8 u9 (.ref p12) (.ref p13))) xs14 xs15) :: (rest2 [B0, halN p5 p12 p13 (.ins C_Hall dx6 (halF u8 u9 (.ref p12) (.ref p13))) xs14 xs15] H) :: []) H26 := o28
      cases hE2 : needM verses with
      | some qxn2 =>
        obtain ⟨xn2, fs2⟩ := qxn2
        exact q_kper (xn := xn2) (fs := fs2) (er_makeB (S := (R_Book K C_Book)) (Ex.refl _) (ebs_cons (T := (tL K (tL K tX))) (Ex.refl _) (ed_of (T := (tL K (tL K tX))) (up (Own.uh o30) (up (Own.uu o30 eM27) (up (Own.ug o0) f4))) rfl) ebs_nil) (fun vs G ha => ad_BookE ha (vc_Hall_shelve_pre_Book1 hal name verses hp1 hp2 hp3 ho_t hs20 hl_verses hE1 xn2 fs2 hE2) hE2)) (RaiseL.fwd (resXF_err (vc_Hall_shelve_raise2 hal name verses hp1 hp2 hp3 ho_t hs20 hl_verses hE1 xn2 fs2 hE2) k) o00 (Own.front o30 (j := 1) rfl) (List.mem_of_getElem? (i := 1) rfl) (fun _ _ => rfl))
      | none =>
        refine q_kput (T := (tBook K C_Book)) o30 (j := 0) rfl f29 (ev_var rfl) (ev_var rfl) hs20 (ed_p (T := (tBook K C_Book)) (ep_makeB (S := (R_Book K C_Book)) (Ex.refl _) (ebs_cons (T := (tL K (tL K tX))) (Ex.refl _) (ed_of (T := (tL K (tL K tX))) (up (Own.uh o30) (up (Own.uu o30 eM27) (up (Own.ug o0) f4))) rfl) ebs_nil) (fun vs G ha => ad_BookN ha (vc_Hall_shelve_pre_Book2 hal name verses hp1 hp2 hp3 ho_t hs20 hl_verses hE1 hE2) hE2)) (Own.uh o30) (fun _ _ h => h)) (vc_Hall_shelve_room1 hal name verses hp1 hp2 hp3 ho_t hs20 hl_verses hE1 hE2) fun kv31 M32 H33 eM34 o35 f36 => ?_
        have o37 : Own (M32 :: B0 :: (sing p23 (.dK kv31)) :: (halN p5 p12 p13 (.ins C_Hall dx6 (halF u8 u9 (.ref p12) (.ref p13))) xs14 xs15) :: (rest2 [B0, halN p5 p12 p13 (.ins C_Hall dx6 (halF u8 u9 (.ref p12) (.ref p13))) xs14 xs15] H) :: []) H33 := o35
        obtain ⟨M38, eM39, o40, f41⟩ := own_freezeK o37 (j := 0) rfl f36
        have o42 : Own (M38 :: B0 :: (halN p5 p12 p13 (.ins C_Hall dx6 (halF u8 u9 (.ref p12) (.ref p13))) xs14 xs15) :: (rest2 [B0, halN p5 p12 p13 (.ins C_Hall dx6 (halF u8 u9 (.ref p12) (.ref p13))) xs14 xs15] H) :: []) H33 := o40
        refine s_cd (ec_meth (S := (R_Hall_become K C_Book C_Deal C_Table C_Hall)) (W := (fun G Ns w => ∃ N', Ns = N' :: [rest2 [B0, halN p5 p12 p13 (.ins C_Hall dx6 (halF u8 u9 (.ref p12) (.ref p13))) xs14 xs15] H] ∧ (stHall K C_Book C_Deal C_Table C_Hall).R G N' (.ref p5) (becM (hal) ((HDeed.shelve name verses)) (putKd hal.shelf name verses) (hal.floor)) ∧ tN.R G w (()))) (Own.front o42 (j := 0) rfl) (ev_var rfl) (hal_ins (fun _ _ _ _ => rfl) (show (stHall K C_Book C_Deal C_Table C_Hall).R (uni B0 _) _ _ hal from ⟨p5, dx6, u8, u9, p12, p13, xs14, xs15, rfl, rfl, hd7, (up (Own.uu o42 (Ex.trans eM27 (Ex.trans eM34 eM39))) (up (Own.ug o0) f10)), (up (Own.uu o42 (Ex.trans eM27 (Ex.trans eM34 eM39))) (up (Own.ug o0) f11)), (paired_up (Own.uu o42 (Ex.trans eM27 (Ex.trans eM34 eM39))) (paired_up (Own.ug o0) f16)), hb17, (paired_up (Own.uu o42 (Ex.trans eM27 (Ex.trans eM34 eM39))) (paired_up (Own.ug o0) f18)), hb19⟩) (Own.exO o42 (j := 0) rfl)) (ebs_cons (T := (tHd K)) (Own.uh o42) (show Ed (tHd K) _ _ _ _ (HDeed.shelve name verses) from eb_tup (Own.uh o42) (ebs_cons (T := tS) (Own.uh o42) (ed_s ev_c (by decide +kernel)) (ebs_cons (T := tS) (Own.uh o42) (ed_s (ev_var rfl) hs20) (ebs_cons (T := (tL K (tL K tX))) (Own.uh o42) (ed_of (T := (tL K (tL K tX))) (up (Own.uu o42 (Ex.trans eM27 (Ex.trans eM34 eM39))) (up (Own.ug o0) f4)) rfl) ebs_nil))) (Nat.le_of_ble_eq_true rfl) hmk_shelve) (ebs_cons (T := (tKd (tBook K C_Book))) (Own.uh o42) (ed_of (T := (tKd (tBook K C_Book))) f41 rfl) (ebs_cons (T := (tKd (tFz (stTab K C_Book C_Deal C_Table)))) (Own.uh o42) (ed_fldO (T := (tKd (tFz (stTab K C_Book C_Deal C_Table)))) (ev_var rfl) (Own.exO o42 (j := 0) rfl _ _ (hal_p hd7)) T_Hall.cl T_Hall.n_floor rfl (up (Own.uu o42 (Ex.trans eM27 (Ex.trans eM34 eM39))) (up (Own.ug o0) f11)) (Own.uh o42)) ebs_nil))) (fun vs B eB ha => ⟨_, ⟨(hal), _, _, ((HDeed.shelve name verses)), (putKd hal.shelf name verses), (hal.floor), ⟨rfl, ha⟩, rfl, (St.up _ eB ⟨p5, dx6, u8, u9, p12, p13, xs14, xs15, rfl, rfl, hd7, (up (Own.uu o42 (Ex.trans eM27 (Ex.trans eM34 eM39))) (up (Own.ug o0) f10)), (up (Own.uu o42 (Ex.trans eM27 (Ex.trans eM34 eM39))) (up (Own.ug o0) f11)), (paired_up (Own.uu o42 (Ex.trans eM27 (Ex.trans eM34 eM39))) (paired_up (Own.ug o0) f16)), hb17, (paired_up (Own.uu o42 (Ex.trans eM27 (Ex.trans eM34 eM39))) (paired_up (Own.ug o0) f18)), hb19⟩), (vc_Hall_shelve_pre_Hall_become1 hal name verses hp1 hp2 hp3 ho_t hs20 hl_verses hE1 hE2), (resX_none rfl).symm⟩, fun _ _ _ ⟨N', h1, h2⟩ => ⟨N', by rw [h1]; rfl, h2⟩⟩)) fun v43 M44 Ns45 H46 eM47 o48 ⟨N49, hNs, fS50, fv51⟩ => ?_
        subst hNs
        obtain ⟨self_a1, ha1, fS50⟩ : ∃ z : HallM, z = (becM (hal) ((HDeed.shelve name verses)) (putKd hal.shelf name verses) (hal.floor)) ∧ (stHall K C_Book C_Deal C_Table C_Hall).R _ N49 (.ref p5) z := ⟨_, rfl, fS50⟩
        obtain ⟨p52, dx53, u55, u56, p59, p60, xs61, xs62, hv_, hN_, hd54, f57, f58, f63, hb64, f65, hb66⟩ := fS50
        cases hv_
        subst hN_
        have o67 : Own (M44 :: B0 :: (halN p5 p59 p60 (.ins C_Hall dx53 (halF u55 u56 (.ref p59) (.ref p60))) xs61 xs62) :: (rest2 [B0, halN p5 p12 p13 (.ins C_Hall dx6 (halF u8 u9 (.ref p12) (.ref p13))) xs14 xs15] H) :: []) H46 := o48
        exact s_rnQ o00 (Own.front o67 (j := 0) rfl) (List.mem_of_getElem? (i := 0) rfl) (resXF_ok (vc_Hall_shelve_none1 hal name verses hp1 hp2 hp3 ho_t hs20 hl_verses hE1 hE2 self_a1 ha1) k) ⟨_, rfl, (by rw [(vc_Hall_shelve_step1 hal name verses hp1 hp2 hp3 ho_t hs20 hl_verses hE1 hE2 self_a1 ha1)]; exact ⟨p5, dx53, u55, u56, p59, p60, xs61, xs62, rfl, rfl, hd54, f57, f58, f63, hb64, f65, hb66⟩), (by first | (rw [(vc_Hall_shelve_ret1 hal name verses hp1 hp2 hp3 ho_t hs20 hl_verses hE1 hE2 self_a1 ha1)]; exact rfl) | (rw [← (vc_Hall_shelve_ret1 hal name verses hp1 hp2 hp3 ho_t hs20 hl_verses hE1 hE2 self_a1 ha1)]; exact rfl))⟩
abbrev s_Hall_deeds : Stmt := inClass (topS 62) 17
theorem sc_Hall_deeds : FnScope ["self", "shelf", "floor", "deed"] ["self"] (defScope s_Hall_deeds) := ⟨rfl, rfl, rfl, by decide +kernel, rfl, by decide +kernel, by decide +kernel⟩
section
variable (hal : HallM) (ho_t : HalOk hal)
include hal ho_t
theorem vc_Hall_deeds_ret1 : ((hal.done.map fun s => s.c)) = ((hal.done).map fun e1 => (e1.c)) := by
  rfl
end
def R_Hall_deeds (K : PySem.W.Frag) (C_Book C_Deal C_Table C_Hall : Addr) : RlX := ⟨fun vs B Ps r => ∃ (hal : HallM) (N : Hp) (v : V), ArgsR B vs [⟨tIs v, ()⟩] ∧ Ps = [N] ∧ (stHall K C_Book C_Deal C_Table C_Hall).R B N v hal ∧ r = resX (none) (fun G Ps' w => Ps' = [N] ∧ (tW (tHd K)).R (uni G N) w ((hal.done.map fun s => s.c))) (fun _ Ps' => Ps' = [N])⟩
theorem ok_Hall_deeds (B : Bt mg) {C_Book C_Deal C_Hall C_Table : Addr} (T_Hall : THall K mg C_Hall) (O_copied_deed : Ok P w K mg base 2 "copied_deed" ["deed"] ((R_copied_deed K).spB mg)) (D : Dm K C_Hall "deeds" "Hall.deeds" s_Hall_deeds ["self"]) : OkM P w K mg base 3 C_Hall "deeds" ["self"] ((R_Hall_deeds K C_Book C_Deal C_Table C_Hall).sp mg) := by
  refine D.ok sc_Hall_deeds (fun vs H Q E h => ?_) (fun f cdv A outer s H vs Q E hr h => ?_)
  · obtain ⟨B0, Ps, r, _, ⟨hal, N0, v0, ha, _⟩, _⟩ := h
    exact ha.len
  · obtain ⟨B0, Ps, r, o00, ⟨hal, N0, v0, ha, rfl, hS, rfl⟩, k⟩ := h
    obtain ⟨v0', rfl, f0⟩ := args1 ha
    obtain rfl : v0 = v0' := f0.symm
    have ho_t := hal_ok hS
    obtain ⟨p1, dx2, u4, u5, p8, p9, xs10, xs11, hv_, hN_, hd3, f6, f7, f12, hb13, f14, hb15⟩ := hS
    subst hv_ hN_
    have o0 : Own (emp :: B0 :: (halN p1 p8 p9 (.ins C_Hall dx2 (halF u4 u5 (.ref p8) (.ref p9))) xs10 xs11) :: (rest2 [B0, halN p1 p8 p9 (.ins C_Hall dx2 (halF u4 u5 (.ref p8) (.ref p9))) xs10 xs11] H) :: []) H := own_start o00
    refine ⟨_, (pss_one (ps_ret (pe_lc (own := [("shelf", 1), ("floor", 2), ("deed", 3)]) rfl sc_Hall_deeds.nd (pi_listK K (pe_fldK K (pv 0))) (blkOk_by (N := ["self", "shelf", "floor", "deed"]) (sc := defScope s_Hall_deeds) (by decide +kernel)) (fun _ _ _ _ _ => (pg_tupK K (n := 3) rfl (pgs_cons (pg_name (i := 1) sc_Hall_deeds.nd rfl (.inl rfl)) (pgs_cons (pg_name (i := 2) sc_Hall_deeds.nd rfl (.inl rfl)) (pgs_cons (pg_name (i := 3) sc_Hall_deeds.nd rfl (.inl rfl)) pgs_nil))))) (fun _ _ _ _ _ => pts_nil) (fun _ _ _ _ _ => (pe_callO O_copied_deed (hr.mono (by omega)) (by rfl) takes0 (pa_cons (pv 3) pa_nil)))))), ?_⟩
    first | show tRet _ _ _ _ | (dsimp only; show tRet _ _ _ _) | (unfold unE; dsimp only; show tRet _ _ _ _)
    have kX := (resX_ok rfl k)
    refine s_rbXW (P := fun G w => (tW (tHd K)).R G w ((hal.done).map fun e1 => (e1.c))) o00 (Own.front o0 (j := 0) rfl) (List.mem_of_getElem? (i := 0) rfl) (ed_lcA (S := (tHd K)) (Z := fun B y σ σ2 => ∃ z16 z17 z18, σ2 = (((σ.set 1 (some z16)).set 2 (some z17)).set 3 (some z18)) ∧ (tKd (tBook K C_Book)).R B z16 y.a ∧ (tKd (tFz (stTab K C_Book C_Deal C_Table))).R B z17 y.b ∧ (tHd K).R B z18 y.c) (dr_list (T := (tT3 K (tKd (tBook K C_Book)) (tKd (tFz (stTab K C_Book C_Deal C_Table))) (tHd K))) (ed_to (T := (tW (tT3 K (tKd (tBook K C_Book)) (tKd (tFz (stTab K C_Book C_Deal C_Table))) (tHd K)))) (S := (tL K (tT3 K (tKd (tBook K C_Book)) (tKd (tFz (stTab K C_Book C_Deal C_Table))) (tHd K)))) (ed_fldO (T := (tW (tT3 K (tKd (tBook K C_Book)) (tKd (tFz (stTab K C_Book C_Deal C_Table))) (tHd K)))) (ev_var rfl) (Own.exO o0 (j := 0) rfl _ _ (hal_p hd3)) T_Hall.cl T_Hall.n_done rfl (tl_own (uni_r _ _ (hal_d hd3)) (paired_up (own_wl o0 (j := 0) rfl) (paired_up (Own.ug o0) f12)) hb13) (own_we o0 (j := 0) rfl))) (own_we o0 (j := 0) rfl) (fun G x y H' e hx σ' Q q => by obtain ⟨p25, w19, w20, w21, h26, h27, h22, h23, h24⟩ := hx; exact ⟨p25, [w19, w20, w21], h26, ex_t e h27, rfl, ⟨w19, [w20, w21], rfl, ⟨w20, [w21], rfl, ⟨w21, [], rfl, ⟨rfl, q _ ⟨w19, w20, w21, rfl, h22, h23, h24⟩⟩⟩⟩⟩⟩)) (own_we o0 (j := 0) rfl) (fun e1 : (T3 (List (Str × (List (List Str)))) (List (Str × TabM)) HDeed) => (e1.c)) (fun _ _ _ ⟨z16, z17, z18, h0, fz16, fz17, fz18⟩ => by subst h0; rfl) (fun G28 e1 σ2 H28 eb28 eg28 eh28 hm1 hz28 => by obtain ⟨z16, z17, z18, rfl, fz16, fz17, fz18⟩ := hz28; exact (ed_callS (S := (R_copied_deed K)) eg28 (ebs_cons (T := (tHd K)) eg28 (ed_of (T := (tHd K)) fz18 rfl) ebs_nil) (fun vs G ha => ⟨(e1.c), ha, rfl⟩))) (fun _ _ _ _ e ⟨z16, z17, z18, h0, fz16, fz17, fz18⟩ => ⟨z16, z17, z18, h0, up e fz16, up e fz17, up e fz18⟩)) kX (fun G w h G' eG eN => ⟨rfl, (tW (tHd K)).up eN (by rw [(vc_Hall_deeds_ret1 hal ho_t)]; exact h)⟩)
end
section
variable {P : Program} {w : World} {K : PySem.W.Frag} {mg : Str → Option Value} {base : Heap}
def whyT : Option (Str × List (Str × V)) → T3 Str Int Int
  | none => ⟨"", 0, 0⟩
  | some (x, []) => if x = ("BadBook" : Str) then ⟨"BadBook", 0, 0⟩ else ⟨"other", 0, 0⟩
  | some (_, [(_, .int i)]) => ⟨"BadVerse", i, 0⟩
  | some (_, [(_, .int j), (_, .int i)]) => ⟨"Alike", i, j⟩
  | some _ => ⟨"other", 0, 0⟩
theorem whyT_no {x : Str} (h : x ≠ ("BadBook" : Str)) : whyT (some (x, [])) = ⟨"other", 0, 0⟩ := if_neg h
theorem whyT_y {x : Str} (h : x = ("BadBook" : Str)) : whyT (some (x, [])) = ⟨"BadBook", 0, 0⟩ := if_pos h
theorem whyT_b : whyT (some (("BadBook" : Str), [])) = ⟨"BadBook", 0, 0⟩ := whyT_y rfl
def shvH (h : HallM) (n : Str) (vs : List (List Str)) : HallM := if (shvErr h n vs).isNone = true then shvM h n vs else h
theorem new_names {ks : List Str} {n x : Str} (h : newErr ks n = some x) : x = ("BadName" : Str) ∨ x = ("Taken" : Str) ∨ x = ("Full" : Str) := by
  unfold newErr at h
  by_cases h1 : nameB n = false
  · rw [if_pos h1] at h; exact .inl (Option.some.inj h).symm
  · rw [if_neg h1] at h
    by_cases h2 : n ∈ ks
    · rw [if_pos h2] at h; exact .inr (.inl (Option.some.inj h).symm)
    · rw [if_neg h2] at h
      by_cases h3 : 8 ≤ ks.length
      · rw [if_pos h3] at h; exact .inr (.inr (Option.some.inj h).symm)
      · rw [if_neg h3] at h; cases h
theorem need_names {vs : List (List Str)} {x : Str} {fs : List (Str × V)} (h : needM vs = some (x, fs)) : (x = ("BadBook" : Str) ∧ fs = []) ∨ (x = ("BadVerse" : Str) ∧ ∃ i : Int, fs = [(("row" : Str), V.int i)]) ∨ (x = ("Alike" : Str) ∧ ∃ j i : Int, fs = [(("other" : Str), V.int j), (("one" : Str), V.int i)]) := by
  unfold needM at h
  by_cases hb : 1 ≤ vs.length ∧ vs.length ≤ 40
  · rw [if_pos hb] at h
    cases er : badRow vs with
    | some i =>
      rw [er] at h
      cases h
      exact .inr (.inl ⟨rfl, _, rfl⟩)
    | none =>
      rw [er] at h
      cases e3 : badTwo vs with
      | some j =>
        rw [e3] at h
        cases h
        exact .inr (.inr ⟨rfl, _, _, rfl⟩)
      | none =>
        rw [e3] at h
        cases h
  · rw [if_neg hb] at h
    cases h
    exact .inl ⟨rfl, rfl⟩
theorem shv_names {h : HallM} {n : Str} {vs : List (List Str)} {x : Str} {fs : List (Str × V)} (hE : shvErr h n vs = some (x, fs)) : (x = ("BadName" : Str) ∧ fs = []) ∨ (x = ("Taken" : Str) ∧ fs = []) ∨ (x = ("Full" : Str) ∧ fs = []) ∨ (x = ("BadBook" : Str) ∧ fs = []) ∨ (x = ("BadVerse" : Str) ∧ ∃ i : Int, fs = [(("row" : Str), V.int i)]) ∨ (x = ("Alike" : Str) ∧ ∃ j i : Int, fs = [(("other" : Str), V.int j), (("one" : Str), V.int i)]) := by
  unfold shvErr at hE
  cases h1 : newErr (ksK h.shelf) n with
  | some y =>
    rw [h1] at hE
    cases hE
    rcases new_names h1 with z | z | z
    · exact .inl ⟨z, rfl⟩
    · exact .inr (.inl ⟨z, rfl⟩)
    · exact .inr (.inr (.inl ⟨z, rfl⟩))
  | none =>
    rw [h1] at hE
    exact .inr (.inr (.inr (need_names hE)))
theorem why_bad {vs : List (List Str)} : whyT (needM vs) = ⟨(badT vs).1, (((badT vs).2.1 : Nat) : Int), (((badT vs).2.2 : Nat) : Int)⟩ := by
  unfold needM badT
  by_cases hb : 1 ≤ vs.length ∧ vs.length ≤ 40
  · rw [if_pos hb, if_pos hb]
    cases badRow vs with
    | some i => rfl
    | none =>
      cases badTwo vs with
      | some j => rfl
      | none => rfl
  · rw [if_neg hb, if_neg hb]
    exact whyT_b
abbrev s__law_why_shelf : Stmt := topS 78
theorem sc__law_why_shelf : FnScope ["_law_hall", "_law_name_here", "_law_verses", "_law_why", "e"] ["_law_hall", "_law_name_here", "_law_verses"] (defScope s__law_why_shelf) := ⟨rfl, rfl, rfl, by decide +kernel, rfl, by decide +kernel, by decide +kernel⟩
section
variable (hal : HallM) (name_here : Str) (verses : (List (List Str))) (xn1 : Str) (fs1 : List (Str × V)) (hp1 : verses.length ≤ 1000 ∧ ∀ l ∈ verses, l.length ≤ 1000) (hp2 : hal.done.length < 30000) (hp3 : name_here.length ≤ 1000) (ho_t : HalOk hal) (hs5 : PyData.strOk (name_here) = true) (hl_verses : verses.length ≤ 40000) (hE1 : (shvErr (hal) (name_here) (verses)) = some (xn1, fs1))
include hal name_here verses xn1 fs1 hp1 hp2 hp3 ho_t hs5 hl_verses hE1
theorem vc__law_why_shelf_which1 : (xn1 = ("BadName" : Str) ∧ fs1 = []) ∨ (xn1 = ("Taken" : Str) ∧ fs1 = []) ∨ (xn1 = ("Full" : Str) ∧ fs1 = []) ∨ (xn1 = ("BadBook" : Str) ∧ fs1 = []) ∨ (xn1 = ("BadVerse" : Str) ∧ ∃ z0 : Int, fs1 = [(("row" : Str), V.int z0)]) ∨ (xn1 = ("Alike" : Str) ∧ ∃ z0 z1 : Int, fs1 = [(("other" : Str), V.int z0), (("one" : Str), V.int z1)]) := by
  exact shv_names hE1
end
section
variable (hal : HallM) (name_here : Str) (verses : (List (List Str)))
include hal name_here verses
section
variable (hp1 : verses.length ≤ 1000 ∧ ∀ l ∈ verses, l.length ≤ 1000) (hp2 : hal.done.length < 30000) (hp3 : name_here.length ≤ 1000) (ho_t : HalOk hal) (hs5 : PyData.strOk (name_here) = true) (hl_verses : verses.length ≤ 40000) (hE1 : (shvErr (hal) (name_here) (verses)) = some (("BadName" : Str), []))
include hp1 hp2 hp3 ho_t hs5 hl_verses hE1
theorem vc__law_why_shelf_pre_Hall_shelve1 : (verses).length ≤ 1000 ∧ ∀ l ∈ (verses), l.length ≤ 1000 := by
  wtm_at "kjw0"
theorem vc__law_why_shelf_pre_Hall_shelve2 : (hal).done.length < 30000 := by
  wtm_at "kjw0"
theorem vc__law_why_shelf_pre_Hall_shelve3 : (name_here).length ≤ 1000 := by
  wtm_at "kjw0"
section
variable (why_a1 : (T3 Str Int Int)) (ha1 : why_a1 = (⟨("other" : Str), (0 : Int), (0 : Int)⟩ : (T3 Str Int Int)))
include why_a1 ha1
theorem vc__law_why_shelf_step1 : (shvH hal name_here verses) = (hal) := by
  wtm_at "kjw1"
theorem vc__law_why_shelf_ret1 : (whyT (shvErr hal name_here verses)) = (why_a1) := by
  wtm_at "kjw2"
end
end
section
variable (hp1 : verses.length ≤ 1000 ∧ ∀ l ∈ verses, l.length ≤ 1000) (hp2 : hal.done.length < 30000) (hp3 : name_here.length ≤ 1000) (ho_t : HalOk hal) (hs5 : PyData.strOk (name_here) = true) (hl_verses : verses.length ≤ 40000)
include hp1 hp2 hp3 ho_t hs5 hl_verses
section
variable (hE1 : (shvErr (hal) (name_here) (verses)) = some (("Taken" : Str), []))
include hE1
theorem vc__law_why_shelf_pre_Hall_shelve4 : (verses).length ≤ 1000 ∧ ∀ l ∈ (verses), l.length ≤ 1000 := by
  wtm_at "kjw0"
theorem vc__law_why_shelf_pre_Hall_shelve5 : (hal).done.length < 30000 := by
  wtm_at "kjw0"
theorem vc__law_why_shelf_pre_Hall_shelve6 : (name_here).length ≤ 1000 := by
  wtm_at "kjw0"
section
variable (why_a2 : (T3 Str Int Int)) (ha2 : why_a2 = (⟨("other" : Str), (0 : Int), (0 : Int)⟩ : (T3 Str Int Int)))
include why_a2 ha2
theorem vc__law_why_shelf_step2 : (shvH hal name_here verses) = (hal) := by
  wtm_at "kjw1"
theorem vc__law_why_shelf_ret2 : (whyT (shvErr hal name_here verses)) = (why_a2) := by
  wtm_at "kjw2"
end
end
section
variable (hE1 : (shvErr (hal) (name_here) (verses)) = some (("Full" : Str), []))
include hE1
theorem vc__law_why_shelf_pre_Hall_shelve7 : (verses).length ≤ 1000 ∧ ∀ l ∈ (verses), l.length ≤ 1000 := by
  wtm_at "kjw0"
theorem vc__law_why_shelf_pre_Hall_shelve8 : (hal).done.length < 30000 := by
  wtm_at "kjw0"
theorem vc__law_why_shelf_pre_Hall_shelve9 : (name_here).length ≤ 1000 := by
  wtm_at "kjw0"
section
variable (why_a3 : (T3 Str Int Int)) (ha3 : why_a3 = (⟨("other" : Str), (0 : Int), (0 : Int)⟩ : (T3 Str Int Int)))
include why_a3 ha3
theorem vc__law_why_shelf_step3 : (shvH hal name_here verses) = (hal) := by
  wtm_at "kjw1"
theorem vc__law_why_shelf_ret3 : (whyT (shvErr hal name_here verses)) = (why_a3) := by
  wtm_at "kjw2"
end
end
section
variable (hE1 : (shvErr (hal) (name_here) (verses)) = some (("BadBook" : Str), []))
include hE1
theorem vc__law_why_shelf_pre_Hall_shelve10 : (verses).length ≤ 1000 ∧ ∀ l ∈ (verses), l.length ≤ 1000 := by
  wtm_at "kjw0"
theorem vc__law_why_shelf_pre_Hall_shelve11 : (hal).done.length < 30000 := by
  wtm_at "kjw0"
theorem vc__law_why_shelf_pre_Hall_shelve12 : (name_here).length ≤ 1000 := by
  wtm_at "kjw0"
section
variable (why_a4 : (T3 Str Int Int)) (ha4 : why_a4 = (⟨("BadBook" : Str), (0 : Int), (0 : Int)⟩ : (T3 Str Int Int)))
include why_a4 ha4
theorem vc__law_why_shelf_step4 : (shvH hal name_here verses) = (hal) := by
  wtm_at "kjw1"
theorem vc__law_why_shelf_ret4 : (whyT (shvErr hal name_here verses)) = (why_a4) := by
  wtm_at "kjw2"
end
end
section
variable (BadVerse_row : Int) (hE1 : (shvErr (hal) (name_here) (verses)) = some (("BadVerse" : Str), [(("row" : Str), V.int BadVerse_row)]))
include BadVerse_row hE1
theorem vc__law_why_shelf_pre_Hall_shelve13 : (verses).length ≤ 1000 ∧ ∀ l ∈ (verses), l.length ≤ 1000 := by
  wtm_at "kjw0"
theorem vc__law_why_shelf_pre_Hall_shelve14 : (hal).done.length < 30000 := by
  wtm_at "kjw0"
theorem vc__law_why_shelf_pre_Hall_shelve15 : (name_here).length ≤ 1000 := by
  wtm_at "kjw0"
section
variable (why_a5 : (T3 Str Int Int)) (ha5 : why_a5 = (⟨("BadVerse" : Str), BadVerse_row, (0 : Int)⟩ : (T3 Str Int Int)))
include why_a5 ha5
theorem vc__law_why_shelf_step5 : (shvH hal name_here verses) = (hal) := by
  wtm_at "kjw1"
theorem vc__law_why_shelf_ret5 : (whyT (shvErr hal name_here verses)) = (why_a5) := by
  wtm_at "kjw2"
end
end
section
variable (Alike_other : Int) (Alike_one : Int) (hE1 : (shvErr (hal) (name_here) (verses)) = some (("Alike" : Str), [(("other" : Str), V.int Alike_other), (("one" : Str), V.int Alike_one)]))
include Alike_other Alike_one hE1
theorem vc__law_why_shelf_pre_Hall_shelve16 : (verses).length ≤ 1000 ∧ ∀ l ∈ (verses), l.length ≤ 1000 := by
  wtm_at "kjw0"
theorem vc__law_why_shelf_pre_Hall_shelve17 : (hal).done.length < 30000 := by
  wtm_at "kjw0"
theorem vc__law_why_shelf_pre_Hall_shelve18 : (name_here).length ≤ 1000 := by
  wtm_at "kjw0"
section
variable (why_a6 : (T3 Str Int Int)) (ha6 : why_a6 = (⟨("Alike" : Str), Alike_one, Alike_other⟩ : (T3 Str Int Int)))
include why_a6 ha6
theorem vc__law_why_shelf_step6 : (shvH hal name_here verses) = (hal) := by
  wtm_at "kjw1"
theorem vc__law_why_shelf_ret6 : (whyT (shvErr hal name_here verses)) = (why_a6) := by
  wtm_at "kjw2"
end
end
section
variable (hE1 : (shvErr (hal) (name_here) (verses)) = none)
include hE1
theorem vc__law_why_shelf_pre_Hall_shelve19 : (verses).length ≤ 1000 ∧ ∀ l ∈ (verses), l.length ≤ 1000 := by
  wtm_at "kjw0"
theorem vc__law_why_shelf_pre_Hall_shelve20 : (hal).done.length < 30000 := by
  wtm_at "kjw0"
theorem vc__law_why_shelf_pre_Hall_shelve21 : (name_here).length ≤ 1000 := by
  wtm_at "kjw0"
theorem vc__law_why_shelf_step7 : (shvH hal name_here verses) = (shvM (hal) (name_here) (verses)) := by
  wtm_at "kjw1"
theorem vc__law_why_shelf_ret7 : (whyT (shvErr hal name_here verses)) = ((⟨("" : Str), (0 : Int), (0 : Int)⟩ : (T3 Str Int Int))) := by
  wtm_at "kjw2"
end
end
end
def R__law_why_shelf (K : PySem.W.Frag) (C_Book C_Deal C_Table C_Hall : Addr) : RlX := ⟨fun vs B Ps r => ∃ (hal : HallM) (N : Hp) (v : V) (name_here : Str) (verses : (List (List Str))), ArgsR B vs [⟨tIs v, ()⟩, ⟨tS, name_here⟩, ⟨(tL K (tL K tX)), verses⟩] ∧ Ps = [N] ∧ (stHall K C_Book C_Deal C_Table C_Hall).R B N v hal ∧ (verses.length ≤ 1000 ∧ ∀ l ∈ verses, l.length ≤ 1000) ∧ (hal.done.length < 30000) ∧ (name_here.length ≤ 1000) ∧ r = resX (none) (fun G Ps' w => ∃ N', Ps' = [N'] ∧ (stHall K C_Book C_Deal C_Table C_Hall).R G N' v (shvH hal name_here verses) ∧ (tT3 K tS tI tI).R G w (whyT (shvErr hal name_here verses))) (fun _ Ps' => Ps' = [N])⟩
theorem ok__law_why_shelf (B : Bt mg) {C_Alike C_BadBook C_BadName C_BadVerse C_Book C_Deal C_Full C_Hall C_SnatchError C_Table C_Taken : Addr} (X_BadBook : Xc K mg "BadBook" C_BadBook) (X_BadName : Xc K mg "BadName" C_BadName) (X_Full : Xc K mg "Full" C_Full) (X_SnatchError : Xc K mg "SnatchError" C_SnatchError) (X_Taken : Xc K mg "Taken" C_Taken) (X_Alike : Xi P w K mg base "Alike" C_Alike ["one", "other"]) (X_BadVerse : Xi P w K mg base "BadVerse" C_BadVerse ["row"]) (E_Alike_Alike : PySem.W.exmOne K (.ref C_Alike) (.ref C_Alike) = some true) (E_Alike_BadBook : PySem.W.exmOne K (.ref C_Alike) (.ref C_BadBook) = some false) (E_Alike_BadVerse : PySem.W.exmOne K (.ref C_Alike) (.ref C_BadVerse) = some false) (E_BadBook_BadBook : PySem.W.exmOne K (.ref C_BadBook) (.ref C_BadBook) = some true) (E_BadName_Alike : PySem.W.exmOne K (.ref C_BadName) (.ref C_Alike) = some false) (E_BadName_BadBook : PySem.W.exmOne K (.ref C_BadName) (.ref C_BadBook) = some false) (E_BadName_BadVerse : PySem.W.exmOne K (.ref C_BadName) (.ref C_BadVerse) = some false) (E_BadName_SnatchError : PySem.W.exmOne K (.ref C_BadName) (.ref C_SnatchError) = some true) (E_BadVerse_BadBook : PySem.W.exmOne K (.ref C_BadVerse) (.ref C_BadBook) = some false) (E_BadVerse_BadVerse : PySem.W.exmOne K (.ref C_BadVerse) (.ref C_BadVerse) = some true) (E_Full_Alike : PySem.W.exmOne K (.ref C_Full) (.ref C_Alike) = some false) (E_Full_BadBook : PySem.W.exmOne K (.ref C_Full) (.ref C_BadBook) = some false) (E_Full_BadVerse : PySem.W.exmOne K (.ref C_Full) (.ref C_BadVerse) = some false) (E_Full_SnatchError : PySem.W.exmOne K (.ref C_Full) (.ref C_SnatchError) = some true) (E_Taken_Alike : PySem.W.exmOne K (.ref C_Taken) (.ref C_Alike) = some false) (E_Taken_BadBook : PySem.W.exmOne K (.ref C_Taken) (.ref C_BadBook) = some false) (E_Taken_BadVerse : PySem.W.exmOne K (.ref C_Taken) (.ref C_BadVerse) = some false) (E_Taken_SnatchError : PySem.W.exmOne K (.ref C_Taken) (.ref C_SnatchError) = some true) (XF_Alike : XfC K C_Alike) (XF_BadVerse : XfC K C_BadVerse) (XN_Alike_one : PySem.W.findIn K (.ref C_Alike) "one" = some none) (XN_Alike_other : PySem.W.findIn K (.ref C_Alike) "other" = some none) (XN_BadVerse_row : PySem.W.findIn K (.ref C_BadVerse) "row" = some none) (O_Hall_shelve : OkM P w K mg base 6 C_Hall "shelve" ["self", "name", "verses"] ((R_Hall_shelve K C_Book C_Deal C_Table C_Hall).sp mg)) (D : Df K mg "_law_why_shelf" s__law_why_shelf ["_law_hall", "_law_name_here", "_law_verses"]) : Ok P w K mg base 7 "_law_why_shelf" ["_law_hall", "_law_name_here", "_law_verses"] ((R__law_why_shelf K C_Book C_Deal C_Table C_Hall).sp mg) := by
  refine D.ok sc__law_why_shelf (fun vs H Q E h => ?_) (fun f cdv A outer s H vs Q E hr h => ?_)
  · obtain ⟨B0, Ps, r, _, ⟨hal, N0, v0, name_here, verses, ha, _⟩, _⟩ := h
    exact ha.len
  · obtain ⟨B0, Ps, r, o00, ⟨hal, N0, v0, name_here, verses, ha, rfl, hS, hp1, hp2, hp3, rfl⟩, k⟩ := h
    obtain ⟨v0', v1, v2, rfl, f0, f3, f4⟩ := args3 ha
    obtain rfl : v0 = v0' := f0.symm
    have ho_t := hal_ok hS
    have o0 : Own (emp :: B0 :: (N0) :: (rest2 [B0, N0] H) :: []) H := own_start o00
    obtain ⟨rfl, hs5⟩ : v1 = .str name_here ∧ PyData.strOk (name_here) = true := f3
    have hl_verses : verses.length ≤ 40000 := len_ofL f4
    refine ⟨_, (pss_cons (ps_set (i := 3) sc__law_why_shelf.nd rfl (.inl rfl) (pe_tup (pa_cons pe_str (pa_cons pe_int (pa_cons pe_int pa_nil)))))
      (Evl.pss_cut (ps_try_mix rfl rfl (takes_of rfl rfl rfl rfl)
        (fun W1 pn1 xe1 tk1 po1 => (pss_one (ps_expr (pe_methO O_Hall_shelve (pv 0) (hr.mono (by omega)) tk1 (pa_cons (pv 1) (pa_cons (pv 2) pa_nil))))))
        (.cons ⟨rfl, by decide, .inl X_BadBook.g⟩ (fun a oe cls d pn hz hf => (pss_one (ps_set (i := 3) sc__law_why_shelf.nd rfl (.inl rfl) (pe_tup (pa_cons pe_str (pa_cons pe_int (pa_cons pe_int pa_nil)))))))
        (.named (i := 4) sc__law_why_shelf.nd rfl rfl ⟨rfl, by decide, .inl X_BadVerse.g⟩ (fun a oe cls d pn hz hf => (pss_one (ps_set (i := 3) sc__law_why_shelf.nd rfl (.inl rfl) (pe_tup (pa_cons pe_str (pa_cons (pe_xfK K XF_BadVerse XN_BadVerse_row hz hf (pv 4)) (pa_cons pe_int pa_nil)))))))
        (.named (i := 4) sc__law_why_shelf.nd rfl rfl ⟨rfl, by decide, .inl X_Alike.g⟩ (fun a oe cls d pn hz hf => (pss_one (ps_set (i := 3) sc__law_why_shelf.nd rfl (.inl rfl) (pe_tup (pa_cons pe_str (pa_cons (pe_xfK K XF_Alike XN_Alike_one hz hf (pv 4)) (pa_cons (pe_xfK K XF_Alike XN_Alike_other hz hf (pv 4)) pa_nil)))))))
        (.cons ⟨rfl, by decide, .inl X_SnatchError.g⟩ (fun a oe cls d pn hz hf => (pss_one (ps_set (i := 3) sc__law_why_shelf.nd rfl (.inl rfl) (pe_tup (pa_cons pe_str (pa_cons pe_int (pa_cons pe_int pa_nil)))))))
        .nil)))))
      (pss_one (ps_ret (pv 3))))), ?_⟩
    refine q_b (i := 3) o0 (ed_tup3 (K := K) (Own.e0 o0) (ebs_cons (T := tS) (Own.e0 o0) (ed_s ev_c (by decide +kernel)) (ebs_cons (T := tI) (Own.e0 o0) (ed_i ev_c) (ebs_cons (T := tI) (Own.e0 o0) (ed_i ev_c) ebs_nil)))) fun v6 M7 H8 eM9 o10 f11 => ?_
    refine st_is (σ' := [some v0, some (.str name_here), some v2, some v6, none]) rfl ?_
    refine ⟨_, ?_, fun _ _ h => h⟩
    cases hE1 : shvErr (hal) (name_here) (verses) with
    | some qxn1 =>
      obtain ⟨xn1, fs1⟩ := qxn1
      rcases (vc__law_why_shelf_which1 hal name_here verses xn1 fs1 hp1 hp2 hp3 ho_t hs5 hl_verses hE1) with ⟨rfl, rfl⟩ | ⟨rfl, rfl⟩ | ⟨rfl, rfl⟩ | ⟨rfl, rfl⟩ | ⟨rfl, BadVerse_row, rfl⟩ | ⟨rfl, Alike_other, Alike_one, rfl⟩
      · refine s_der (xn := "BadName") (fs := []) (er_methP (S := (R_Hall_shelve K C_Book C_Deal C_Table C_Hall)) (Own.front o10 (j := 0) rfl) (ev_var rfl) (hal_ins (fun _ _ _ _ => rfl) (show (stHall K C_Book C_Deal C_Table C_Hall).R (uni B0 _) _ _ hal from (St.up _ (Own.uu o10 eM9) (St.up _ (Own.ug o0) hS))) (Own.exO o10 (j := 0) rfl)) (ebs_cons (T := tS) (Own.uh o10) (ed_s (ev_var rfl) hs5) (ebs_cons (T := (tL K (tL K tX))) (Own.uh o10) (ed_of (T := (tL K (tL K tX))) (up (Own.uu o10 eM9) (up (Own.ug o0) f4)) rfl) ebs_nil)) (fun vs B eB ha => ⟨_, ⟨(hal), _, _, (name_here), (verses), ⟨rfl, ha⟩, rfl, (St.up _ eB (St.up _ (Own.uu o10 eM9) (St.up _ (Own.ug o0) hS))), (vc__law_why_shelf_pre_Hall_shelve1 hal name_here verses hp1 hp2 hp3 ho_t hs5 hl_verses hE1), (vc__law_why_shelf_pre_Hall_shelve2 hal name_here verses hp1 hp2 hp3 ho_t hs5 hl_verses hE1), (vc__law_why_shelf_pre_Hall_shelve3 hal name_here verses hp1 hp2 hp3 ho_t hs5 hl_verses hE1), (resXF_some hE1).symm⟩, fun _ _ h => h⟩)) (mix_miss X_BadName.g E_BadName_BadBook (mix_miss X_BadName.g E_BadName_BadVerse (mix_miss X_BadName.g E_BadName_Alike (mix_hit X_BadName.g E_BadName_SnatchError fun H12 d15 a16 e13 _ cc17 => ?_))))
        have o14 := Own.mono e13 o10
        refine s_b (i := 3) o14 (ed_tup3 (K := K) (Own.e0 o14) (ebs_cons (T := tS) (Own.e0 o14) (ed_s ev_c (by decide +kernel)) (ebs_cons (T := tI) (Own.e0 o14) (ed_i ev_c) (ebs_cons (T := tI) (Own.e0 o14) (ed_i ev_c) ebs_nil)))) fun v18 M19 H20 eM21 o22 f23 => ?_
        obtain ⟨why_a1, ha1, f23⟩ : ∃ z : (T3 Str Int Int), z = ((⟨("other" : Str), (0 : Int), (0 : Int)⟩ : (T3 Str Int Int))) ∧ (tT3 K tS tI tI).R M19 v18 z := ⟨_, rfl, f23⟩
        first | show tRet _ _ _ _ | (dsimp only; show tRet _ _ _ _) | (unfold unE; dsimp only; show tRet _ _ _ _)
        have kX := (resX_ok rfl k)
        refine s_rbX (P := fun G w => (tT3 K tS tI tI).R G w (why_a1)) o00 (Own.front o22 (j := 0) rfl) (List.mem_of_getElem? (i := 0) rfl) (ed_of (T := (tT3 K tS tI tI)) (up uni_r f23) rfl) kX (fun G w eG h => ⟨_, rfl, (by rw [(vc__law_why_shelf_step1 hal name_here verses hp1 hp2 hp3 ho_t hs5 hl_verses hE1 why_a1 ha1)]; exact (St.up _ eG (St.up _ (Own.uu o22 (Ex.trans eM9 eM21)) (St.up _ (Own.ug o0) hS)))), (by rw [(vc__law_why_shelf_ret1 hal name_here verses hp1 hp2 hp3 ho_t hs5 hl_verses hE1 why_a1 ha1)]; exact h)⟩)
      · refine s_der (xn := "Taken") (fs := []) (er_methP (S := (R_Hall_shelve K C_Book C_Deal C_Table C_Hall)) (Own.front o10 (j := 0) rfl) (ev_var rfl) (hal_ins (fun _ _ _ _ => rfl) (show (stHall K C_Book C_Deal C_Table C_Hall).R (uni B0 _) _ _ hal from (St.up _ (Own.uu o10 eM9) (St.up _ (Own.ug o0) hS))) (Own.exO o10 (j := 0) rfl)) (ebs_cons (T := tS) (Own.uh o10) (ed_s (ev_var rfl) hs5) (ebs_cons (T := (tL K (tL K tX))) (Own.uh o10) (ed_of (T := (tL K (tL K tX))) (up (Own.uu o10 eM9) (up (Own.ug o0) f4)) rfl) ebs_nil)) (fun vs B eB ha => ⟨_, ⟨(hal), _, _, (name_here), (verses), ⟨rfl, ha⟩, rfl, (St.up _ eB (St.up _ (Own.uu o10 eM9) (St.up _ (Own.ug o0) hS))), (vc__law_why_shelf_pre_Hall_shelve4 hal name_here verses hp1 hp2 hp3 ho_t hs5 hl_verses hE1), (vc__law_why_shelf_pre_Hall_shelve5 hal name_here verses hp1 hp2 hp3 ho_t hs5 hl_verses hE1), (vc__law_why_shelf_pre_Hall_shelve6 hal name_here verses hp1 hp2 hp3 ho_t hs5 hl_verses hE1), (resXF_some hE1).symm⟩, fun _ _ h => h⟩)) (mix_miss X_Taken.g E_Taken_BadBook (mix_miss X_Taken.g E_Taken_BadVerse (mix_miss X_Taken.g E_Taken_Alike (mix_hit X_Taken.g E_Taken_SnatchError fun H24 d27 a28 e25 _ cc29 => ?_))))
        have o26 := Own.mono e25 o10
        refine s_b (i := 3) o26 (ed_tup3 (K := K) (Own.e0 o26) (ebs_cons (T := tS) (Own.e0 o26) (ed_s ev_c (by decide +kernel)) (ebs_cons (T := tI) (Own.e0 o26) (ed_i ev_c) (ebs_cons (T := tI) (Own.e0 o26) (ed_i ev_c) ebs_nil)))) fun v30 M31 H32 eM33 o34 f35 => ?_
        obtain ⟨why_a2, ha2, f35⟩ : ∃ z : (T3 Str Int Int), z = ((⟨("other" : Str), (0 : Int), (0 : Int)⟩ : (T3 Str Int Int))) ∧ (tT3 K tS tI tI).R M31 v30 z := ⟨_, rfl, f35⟩
        first | show tRet _ _ _ _ | (dsimp only; show tRet _ _ _ _) | (unfold unE; dsimp only; show tRet _ _ _ _)
        have kX := (resX_ok rfl k)
        refine s_rbX (P := fun G w => (tT3 K tS tI tI).R G w (why_a2)) o00 (Own.front o34 (j := 0) rfl) (List.mem_of_getElem? (i := 0) rfl) (ed_of (T := (tT3 K tS tI tI)) (up uni_r f35) rfl) kX (fun G w eG h => ⟨_, rfl, (by rw [(vc__law_why_shelf_step2 hal name_here verses hp1 hp2 hp3 ho_t hs5 hl_verses hE1 why_a2 ha2)]; exact (St.up _ eG (St.up _ (Own.uu o34 (Ex.trans eM9 eM33)) (St.up _ (Own.ug o0) hS)))), (by rw [(vc__law_why_shelf_ret2 hal name_here verses hp1 hp2 hp3 ho_t hs5 hl_verses hE1 why_a2 ha2)]; exact h)⟩)
      · refine s_der (xn := "Full") (fs := []) (er_methP (S := (R_Hall_shelve K C_Book C_Deal C_Table C_Hall)) (Own.front o10 (j := 0) rfl) (ev_var rfl) (hal_ins (fun _ _ _ _ => rfl) (show (stHall K C_Book C_Deal C_Table C_Hall).R (uni B0 _) _ _ hal from (St.up _ (Own.uu o10 eM9) (St.up _ (Own.ug o0) hS))) (Own.exO o10 (j := 0) rfl)) (ebs_cons (T := tS) (Own.uh o10) (ed_s (ev_var rfl) hs5) (ebs_cons (T := (tL K (tL K tX))) (Own.uh o10) (ed_of (T := (tL K (tL K tX))) (up (Own.uu o10 eM9) (up (Own.ug o0) f4)) rfl) ebs_nil)) (fun vs B eB ha => ⟨_, ⟨(hal), _, _, (name_here), (verses), ⟨rfl, ha⟩, rfl, (St.up _ eB (St.up _ (Own.uu o10 eM9) (St.up _ (Own.ug o0) hS))), (vc__law_why_shelf_pre_Hall_shelve7 hal name_here verses hp1 hp2 hp3 ho_t hs5 hl_verses hE1), (vc__law_why_shelf_pre_Hall_shelve8 hal name_here verses hp1 hp2 hp3 ho_t hs5 hl_verses hE1), (vc__law_why_shelf_pre_Hall_shelve9 hal name_here verses hp1 hp2 hp3 ho_t hs5 hl_verses hE1), (resXF_some hE1).symm⟩, fun _ _ h => h⟩)) (mix_miss X_Full.g E_Full_BadBook (mix_miss X_Full.g E_Full_BadVerse (mix_miss X_Full.g E_Full_Alike (mix_hit X_Full.g E_Full_SnatchError fun H36 d39 a40 e37 _ cc41 => ?_))))
        have o38 := Own.mono e37 o10
        refine s_b (i := 3) o38 (ed_tup3 (K := K) (Own.e0 o38) (ebs_cons (T := tS) (Own.e0 o38) (ed_s ev_c (by decide +kernel)) (ebs_cons (T := tI) (Own.e0 o38) (ed_i ev_c) (ebs_cons (T := tI) (Own.e0 o38) (ed_i ev_c) ebs_nil)))) fun v42 M43 H44 eM45 o46 f47 => ?_
        obtain ⟨why_a3, ha3, f47⟩ : ∃ z : (T3 Str Int Int), z = ((⟨("other" : Str), (0 : Int), (0 : Int)⟩ : (T3 Str Int Int))) ∧ (tT3 K tS tI tI).R M43 v42 z := ⟨_, rfl, f47⟩
        first | show tRet _ _ _ _ | (dsimp only; show tRet _ _ _ _) | (unfold unE; dsimp only; show tRet _ _ _ _)
        have kX := (resX_ok rfl k)
        refine s_rbX (P := fun G w => (tT3 K tS tI tI).R G w (why_a3)) o00 (Own.front o46 (j := 0) rfl) (List.mem_of_getElem? (i := 0) rfl) (ed_of (T := (tT3 K tS tI tI)) (up uni_r f47) rfl) kX (fun G w eG h => ⟨_, rfl, (by rw [(vc__law_why_shelf_step3 hal name_here verses hp1 hp2 hp3 ho_t hs5 hl_verses hE1 why_a3 ha3)]; exact (St.up _ eG (St.up _ (Own.uu o46 (Ex.trans eM9 eM45)) (St.up _ (Own.ug o0) hS)))), (by rw [(vc__law_why_shelf_ret3 hal name_here verses hp1 hp2 hp3 ho_t hs5 hl_verses hE1 why_a3 ha3)]; exact h)⟩)
      · refine s_der (xn := "BadBook") (fs := []) (er_methP (S := (R_Hall_shelve K C_Book C_Deal C_Table C_Hall)) (Own.front o10 (j := 0) rfl) (ev_var rfl) (hal_ins (fun _ _ _ _ => rfl) (show (stHall K C_Book C_Deal C_Table C_Hall).R (uni B0 _) _ _ hal from (St.up _ (Own.uu o10 eM9) (St.up _ (Own.ug o0) hS))) (Own.exO o10 (j := 0) rfl)) (ebs_cons (T := tS) (Own.uh o10) (ed_s (ev_var rfl) hs5) (ebs_cons (T := (tL K (tL K tX))) (Own.uh o10) (ed_of (T := (tL K (tL K tX))) (up (Own.uu o10 eM9) (up (Own.ug o0) f4)) rfl) ebs_nil)) (fun vs B eB ha => ⟨_, ⟨(hal), _, _, (name_here), (verses), ⟨rfl, ha⟩, rfl, (St.up _ eB (St.up _ (Own.uu o10 eM9) (St.up _ (Own.ug o0) hS))), (vc__law_why_shelf_pre_Hall_shelve10 hal name_here verses hp1 hp2 hp3 ho_t hs5 hl_verses hE1), (vc__law_why_shelf_pre_Hall_shelve11 hal name_here verses hp1 hp2 hp3 ho_t hs5 hl_verses hE1), (vc__law_why_shelf_pre_Hall_shelve12 hal name_here verses hp1 hp2 hp3 ho_t hs5 hl_verses hE1), (resXF_some hE1).symm⟩, fun _ _ h => h⟩)) (mix_hit X_BadBook.g E_BadBook_BadBook fun H48 d51 a52 e49 _ cc53 => ?_)
        have o50 := Own.mono e49 o10
        refine s_b (i := 3) o50 (ed_tup3 (K := K) (Own.e0 o50) (ebs_cons (T := tS) (Own.e0 o50) (ed_s ev_c (by decide +kernel)) (ebs_cons (T := tI) (Own.e0 o50) (ed_i ev_c) (ebs_cons (T := tI) (Own.e0 o50) (ed_i ev_c) ebs_nil)))) fun v54 M55 H56 eM57 o58 f59 => ?_
        obtain ⟨why_a4, ha4, f59⟩ : ∃ z : (T3 Str Int Int), z = ((⟨("BadBook" : Str), (0 : Int), (0 : Int)⟩ : (T3 Str Int Int))) ∧ (tT3 K tS tI tI).R M55 v54 z := ⟨_, rfl, f59⟩
        first | show tRet _ _ _ _ | (dsimp only; show tRet _ _ _ _) | (unfold unE; dsimp only; show tRet _ _ _ _)
        have kX := (resX_ok rfl k)
        refine s_rbX (P := fun G w => (tT3 K tS tI tI).R G w (why_a4)) o00 (Own.front o58 (j := 0) rfl) (List.mem_of_getElem? (i := 0) rfl) (ed_of (T := (tT3 K tS tI tI)) (up uni_r f59) rfl) kX (fun G w eG h => ⟨_, rfl, (by rw [(vc__law_why_shelf_step4 hal name_here verses hp1 hp2 hp3 ho_t hs5 hl_verses hE1 why_a4 ha4)]; exact (St.up _ eG (St.up _ (Own.uu o58 (Ex.trans eM9 eM57)) (St.up _ (Own.ug o0) hS)))), (by rw [(vc__law_why_shelf_ret4 hal name_here verses hp1 hp2 hp3 ho_t hs5 hl_verses hE1 why_a4 ha4)]; exact h)⟩)
      · refine s_der (xn := "BadVerse") (fs := [(("row" : Str), V.int BadVerse_row)]) (er_methP (S := (R_Hall_shelve K C_Book C_Deal C_Table C_Hall)) (Own.front o10 (j := 0) rfl) (ev_var rfl) (hal_ins (fun _ _ _ _ => rfl) (show (stHall K C_Book C_Deal C_Table C_Hall).R (uni B0 _) _ _ hal from (St.up _ (Own.uu o10 eM9) (St.up _ (Own.ug o0) hS))) (Own.exO o10 (j := 0) rfl)) (ebs_cons (T := tS) (Own.uh o10) (ed_s (ev_var rfl) hs5) (ebs_cons (T := (tL K (tL K tX))) (Own.uh o10) (ed_of (T := (tL K (tL K tX))) (up (Own.uu o10 eM9) (up (Own.ug o0) f4)) rfl) ebs_nil)) (fun vs B eB ha => ⟨_, ⟨(hal), _, _, (name_here), (verses), ⟨rfl, ha⟩, rfl, (St.up _ eB (St.up _ (Own.uu o10 eM9) (St.up _ (Own.ug o0) hS))), (vc__law_why_shelf_pre_Hall_shelve13 hal name_here verses hp1 hp2 hp3 ho_t hs5 hl_verses BadVerse_row hE1), (vc__law_why_shelf_pre_Hall_shelve14 hal name_here verses hp1 hp2 hp3 ho_t hs5 hl_verses BadVerse_row hE1), (vc__law_why_shelf_pre_Hall_shelve15 hal name_here verses hp1 hp2 hp3 ho_t hs5 hl_verses BadVerse_row hE1), (resXF_some hE1).symm⟩, fun _ _ h => h⟩)) (mix_miss X_BadVerse.g E_BadVerse_BadBook (mix_hitN X_BadVerse.g E_BadVerse_BadVerse fun H60 d63 a64 e61 _ cc65 => ?_))
        have o62 := Own.mono e61 o10
        obtain ⟨dd66, rfl, hdd67⟩ := xda_some cc65 (fun h => nomatch h)
        refine s_b (i := 3) o62 (ed_tup3 (K := K) (Own.e0 o62) (ebs_cons (T := tS) (Own.e0 o62) (ed_s ev_c (by decide +kernel)) (ebs_cons (T := tI) (Own.e0 o62) (ed_i (ev_xf (ev_var rfl) hdd67 rfl)) (ebs_cons (T := tI) (Own.e0 o62) (ed_i ev_c) ebs_nil)))) fun v68 M69 H70 eM71 o72 f73 => ?_
        obtain ⟨why_a5, ha5, f73⟩ : ∃ z : (T3 Str Int Int), z = ((⟨("BadVerse" : Str), BadVerse_row, (0 : Int)⟩ : (T3 Str Int Int))) ∧ (tT3 K tS tI tI).R M69 v68 z := ⟨_, rfl, f73⟩
        refine st_is (σ' := [some v0, some (.str name_here), some v2, some v68, some (.ref a64)]) rfl ?_
        first | show tRet _ _ _ _ | (dsimp only; show tRet _ _ _ _) | (unfold unE; dsimp only; show tRet _ _ _ _)
        have kX := (resX_ok rfl k)
        refine s_rbX (P := fun G w => (tT3 K tS tI tI).R G w (why_a5)) o00 (Own.front o72 (j := 0) rfl) (List.mem_of_getElem? (i := 0) rfl) (ed_of (T := (tT3 K tS tI tI)) (up uni_r f73) rfl) kX (fun G w eG h => ⟨_, rfl, (by rw [(vc__law_why_shelf_step5 hal name_here verses hp1 hp2 hp3 ho_t hs5 hl_verses BadVerse_row hE1 why_a5 ha5)]; exact (St.up _ eG (St.up _ (Own.uu o72 (Ex.trans eM9 eM71)) (St.up _ (Own.ug o0) hS)))), (by rw [(vc__law_why_shelf_ret5 hal name_here verses hp1 hp2 hp3 ho_t hs5 hl_verses BadVerse_row hE1 why_a5 ha5)]; exact h)⟩)
      · refine s_der (xn := "Alike") (fs := [(("other" : Str), V.int Alike_other), (("one" : Str), V.int Alike_one)]) (er_methP (S := (R_Hall_shelve K C_Book C_Deal C_Table C_Hall)) (Own.front o10 (j := 0) rfl) (ev_var rfl) (hal_ins (fun _ _ _ _ => rfl) (show (stHall K C_Book C_Deal C_Table C_Hall).R (uni B0 _) _ _ hal from (St.up _ (Own.uu o10 eM9) (St.up _ (Own.ug o0) hS))) (Own.exO o10 (j := 0) rfl)) (ebs_cons (T := tS) (Own.uh o10) (ed_s (ev_var rfl) hs5) (ebs_cons (T := (tL K (tL K tX))) (Own.uh o10) (ed_of (T := (tL K (tL K tX))) (up (Own.uu o10 eM9) (up (Own.ug o0) f4)) rfl) ebs_nil)) (fun vs B eB ha => ⟨_, ⟨(hal), _, _, (name_here), (verses), ⟨rfl, ha⟩, rfl, (St.up _ eB (St.up _ (Own.uu o10 eM9) (St.up _ (Own.ug o0) hS))), (vc__law_why_shelf_pre_Hall_shelve16 hal name_here verses hp1 hp2 hp3 ho_t hs5 hl_verses Alike_other Alike_one hE1), (vc__law_why_shelf_pre_Hall_shelve17 hal name_here verses hp1 hp2 hp3 ho_t hs5 hl_verses Alike_other Alike_one hE1), (vc__law_why_shelf_pre_Hall_shelve18 hal name_here verses hp1 hp2 hp3 ho_t hs5 hl_verses Alike_other Alike_one hE1), (resXF_some hE1).symm⟩, fun _ _ h => h⟩)) (mix_miss X_Alike.g E_Alike_BadBook (mix_miss X_Alike.g E_Alike_BadVerse (mix_hitN X_Alike.g E_Alike_Alike fun H74 d77 a78 e75 _ cc79 => ?_)))
        have o76 := Own.mono e75 o10
        obtain ⟨dd80, rfl, hdd81⟩ := xda_some cc79 (fun h => nomatch h)
        refine s_b (i := 3) o76 (ed_tup3 (K := K) (Own.e0 o76) (ebs_cons (T := tS) (Own.e0 o76) (ed_s ev_c (by decide +kernel)) (ebs_cons (T := tI) (Own.e0 o76) (ed_i (ev_xf (ev_var rfl) hdd81 rfl)) (ebs_cons (T := tI) (Own.e0 o76) (ed_i (ev_xf (ev_var rfl) hdd81 rfl)) ebs_nil)))) fun v82 M83 H84 eM85 o86 f87 => ?_
        obtain ⟨why_a6, ha6, f87⟩ : ∃ z : (T3 Str Int Int), z = ((⟨("Alike" : Str), Alike_one, Alike_other⟩ : (T3 Str Int Int))) ∧ (tT3 K tS tI tI).R M83 v82 z := ⟨_, rfl, f87⟩
        refine st_is (σ' := [some v0, some (.str name_here), some v2, some v82, some (.ref a78)]) rfl ?_
        first | show tRet _ _ _ _ | (dsimp only; show tRet _ _ _ _) | (unfold unE; dsimp only; show tRet _ _ _ _)
        have kX := (resX_ok rfl k)
        refine s_rbX (P := fun G w => (tT3 K tS tI tI).R G w (why_a6)) o00 (Own.front o86 (j := 0) rfl) (List.mem_of_getElem? (i := 0) rfl) (ed_of (T := (tT3 K tS tI tI)) (up uni_r f87) rfl) kX (fun G w eG h => ⟨_, rfl, (by rw [(vc__law_why_shelf_step6 hal name_here verses hp1 hp2 hp3 ho_t hs5 hl_verses Alike_other Alike_one hE1 why_a6 ha6)]; exact (St.up _ eG (St.up _ (Own.uu o86 (Ex.trans eM9 eM85)) (St.up _ (Own.ug o0) hS)))), (by rw [(vc__law_why_shelf_ret6 hal name_here verses hp1 hp2 hp3 ho_t hs5 hl_verses Alike_other Alike_one hE1 why_a6 ha6)]; exact h)⟩)
    | none =>
      refine s_cd (ec_meth (S := (R_Hall_shelve K C_Book C_Deal C_Table C_Hall)) (W := (fun G Ns w => ∃ N', Ns = N' :: [rest2 [B0, N0] H] ∧ (stHall K C_Book C_Deal C_Table C_Hall).R G N' v0 (shvM (hal) (name_here) (verses)) ∧ tN.R G w (()))) (Own.front o10 (j := 0) rfl) (ev_var rfl) (hal_ins (fun _ _ _ _ => rfl) (show (stHall K C_Book C_Deal C_Table C_Hall).R (uni B0 _) _ _ hal from (St.up _ (Own.uu o10 eM9) (St.up _ (Own.ug o0) hS))) (Own.exO o10 (j := 0) rfl)) (ebs_cons (T := tS) (Own.uh o10) (ed_s (ev_var rfl) hs5) (ebs_cons (T := (tL K (tL K tX))) (Own.uh o10) (ed_of (T := (tL K (tL K tX))) (up (Own.uu o10 eM9) (up (Own.ug o0) f4)) rfl) ebs_nil)) (fun vs B eB ha => ⟨_, ⟨(hal), _, _, (name_here), (verses), ⟨rfl, ha⟩, rfl, (St.up _ eB (St.up _ (Own.uu o10 eM9) (St.up _ (Own.ug o0) hS))), (vc__law_why_shelf_pre_Hall_shelve19 hal name_here verses hp1 hp2 hp3 ho_t hs5 hl_verses hE1), (vc__law_why_shelf_pre_Hall_shelve20 hal name_here verses hp1 hp2 hp3 ho_t hs5 hl_verses hE1), (vc__law_why_shelf_pre_Hall_shelve21 hal name_here verses hp1 hp2 hp3 ho_t hs5 hl_verses hE1), (resXF_none hE1).symm⟩, fun _ _ _ ⟨N', h1, h2⟩ => ⟨N', by rw [h1]; rfl, h2⟩⟩)) fun v88 M89 Ns90 H91 eM92 o93 ⟨N94, hNs, fS95, fv96⟩ => ?_
      subst hNs
      have o97 : Own (M89 :: B0 :: (N94) :: (rest2 [B0, N0] H) :: []) H91 := o93
      first | show tRet _ _ _ _ | (dsimp only; show tRet _ _ _ _) | (unfold unE; dsimp only; show tRet _ _ _ _)
      have kX := (resX_ok rfl k)
      refine s_rbX (P := fun G w => (tT3 K tS tI tI).R G w ((⟨("" : Str), (0 : Int), (0 : Int)⟩ : (T3 Str Int Int)))) o00 (Own.front o97 (j := 0) rfl) (List.mem_of_getElem? (i := 0) rfl) (ed_of (T := (tT3 K tS tI tI)) (up uni_r (up eM92 f11)) rfl) kX (fun G w eG h => ⟨_, rfl, (by rw [(vc__law_why_shelf_step7 hal name_here verses hp1 hp2 hp3 ho_t hs5 hl_verses hE1)]; exact (St.up _ eG fS95)), (by rw [(vc__law_why_shelf_ret7 hal name_here verses hp1 hp2 hp3 ho_t hs5 hl_verses hE1)]; exact h)⟩)
end
section
variable {P : Program} {w : World} {K : PySem.W.Frag} {mg : Str → Option Value} {base : Heap}
abbrev s__law_name : Stmt := topS 77
theorem sc__law_name : FnScope ["_law_number", "_law_letters", "_law_k"] ["_law_number"] (defScope s__law_name) := ⟨rfl, rfl, rfl, by decide +kernel, rfl, by decide +kernel, by decide +kernel⟩
def nmC (a b : Nat) (k : Int) : Nat := LT.getD (((a : Int) + k * (b : Int)) % 26).toNat 0
def nmF (a b m : Nat) : Str := Txt.join ("" : Str) ((List.range (1 + m)).map fun i => (⟨#[nmC a b (i : Nat)]⟩ : Str))
def nmS (n : Int) : Str := nmF (n / 8 % 26).toNat (n / 61 % 5).toNat (n % 8).toNat
theorem nmF_all : (List.range 26).all (fun a => (List.range 5).all fun b => (List.range 8).all fun m => nameB (nmF a b m) && PyData.strOk (nmF a b m)) = true := by decide +kernel
theorem nmS_ok (n : Int) : nameB (nmS n) = true ∧ PyData.strOk (nmS n) = true := by
  have h1 : (n / 8 % 26).toNat < 26 := by omega
  have h2 : (n / 61 % 5).toNat < 5 := by omega
  have h3 : (n % 8).toNat < 8 := by omega
  have z := List.all_eq_true.mp (List.all_eq_true.mp (List.all_eq_true.mp nmF_all _ (List.mem_range.mpr h1)) _ (List.mem_range.mpr h2)) _ (List.mem_range.mpr h3)
  exact Bool.and_eq_true_iff.mp z
theorem nm_at (n k : Int) : atI LT ((n / 8 + k * (n / 61 % 5)) % 26) = some (nmC (n / 8 % 26).toNat (n / 61 % 5).toNat k) := by
  have ha : (((n / 8 % 26).toNat : Nat) : Int) = n / 8 % 26 := by omega
  have hb : (((n / 61 % 5).toNat : Nat) : Int) = n / 61 % 5 := by omega
  have e : (n / 8 + k * (n / 61 % 5)) % 26 = ((((n / 8 % 26).toNat : Nat) : Int) + k * (((n / 61 % 5).toNat : Nat) : Int)) % 26 := by
    rw [ha, hb]
    generalize k * (n / 61 % 5) = z
    omega
  have h0 : 0 ≤ (n / 8 + k * (n / 61 % 5)) % 26 := Int.emod_nonneg _ (by decide)
  have h1 : (n / 8 + k * (n / 61 % 5)) % 26 < 26 := Int.emod_lt_of_pos _ (by decide)
  unfold nmC
  rw [← e]
  generalize (n / 8 + k * (n / 61 % 5)) % 26 = z at *
  obtain ⟨m, rfl⟩ : ∃ m : Nat, z = m := ⟨z.toNat, by omega⟩
  have hl : LT.length = 26 := by decide +kernel
  have hm : m < LT.length := by omega
  have e2 : LT.getD m 0 = LT[m] := by rw [List.getD_eq_getElem?_getD, List.getElem?_eq_getElem hm]; rfl
  rw [show ((m : Nat) : Int).toNat = m from rfl, e2]
  exact atI_nat (List.getElem?_eq_getElem hm)
def R__law_name (K : PySem.W.Frag) : Rl := ⟨fun vs H r => ∃ n : Int, ArgsR H vs [⟨tI, n⟩] ∧ (0 ≤ n ∧ n < 1000000) ∧ r = .ok (fun N v => tS.R N v (nmS n)), fun e ⟨n, h1, h2⟩ => ⟨n, h1.up e, h2⟩⟩
theorem ok__law_name (B : Bt mg) (D : Df K mg "_law_name" s__law_name ["_law_number"]) : Ok P w K mg base 1 "_law_name" ["_law_number"] ((R__law_name K).sp mg) := by
  refine D.ok sc__law_name (fun vs H Q E h => ?_) (fun f cdv A outer s H vs Q E hr h => ?_)
  · obtain ⟨r, ⟨n, ha, _⟩, _⟩ := h
    exact ha.len
  · obtain ⟨r, ⟨n, ha, hn, rfl⟩, k⟩ := h
    obtain ⟨v1, rfl, rfl⟩ := args1 ha
    refine ⟨_, (pss_cons (ps_set (i := 1) sc__law_name.nd rfl (.inr rfl) pe_str)
      (pss_one (ps_ret (pe_bmK K PySem.F.plainAttrs_str PySem.F.slot_str_join PySem.F.type_str_join (mt_joinK K) pe_str (pa_cons (pe_lc (own := [("_law_k", 2)]) rfl sc__law_name.nd (pi_range1 (by rfl) B.range (pa_cons (pe_op (op_addK K) pe_int (pe_op op_mod (pv 0) pe_int)) pa_nil)) (blkOk_by (N := ["_law_number", "_law_letters", "_law_k"]) (sc := defScope s__law_name) (by decide +kernel)) (fun _ _ _ _ _ => (pg_name (i := 2) sc__law_name.nd rfl (.inl rfl))) (fun _ _ _ _ _ => pts_nil) (fun _ _ _ _ _ => (pe_ix (ix_seqK K) (pv 1) (pe_op op_mod (pe_op (op_addK K) (pe_op op_fdiv (pv 0) pe_int) (pe_op op_mulU (pv 2) (pe_op op_mod (pe_op op_fdiv (pv 0) pe_int) pe_int))) pe_int) (fun _ _ => rfl)))) pa_nil))))), ?_⟩
    refine q_v (Own.one H) ev_c fun H1 o => ?_
    have hm : (1 + n % 8).toNat = 1 + (n % 8).toNat := by omega
    have h61 : -10 ≤ n / 61 % 5 ∧ n / 61 % 5 ≤ 10 := by omega
    have hln : ∀ l : List Nat, ((l.map fun i => (⟨#[nmC (n / 8 % 26).toNat (n / 61 % 5).toNat (i : Nat)]⟩ : Str)).map (·.length)).sum = l.length := fun l => by
      induction l with
      | nil => rfl
      | cons a l ih => rw [List.map_cons, List.map_cons, List.sum_cons, ih, List.length_cons]; exact Nat.add_comm 1 _
    refine s_rv o (mt_join_ev (ys := (List.range (1 + (n % 8).toNat)).map fun i => (⟨#[nmC (n / 8 % 26).toNat (n / 61 % 5).toNat (i : Nat)]⟩ : Str)) (el_is (el_lcX (fun x => [some (.int n), some (.str "abcdefghijklmnopqrstuvwxyz"), some x]) (fun _ => true) (fun x => match x with | .int i => .str ⟨#[nmC (n / 8 % 26).toNat (n / 61 % 5).toNat i]⟩ | _ => .non) (ei_rngX (m := 1 + n % 8) (G := H1) (by wtm_at "ev") (by omega)) (Ex.refl _) (by rw [rngV_len]; omega) (fun _ _ _ _ q => q) (fun _ => rfl) (fun _ _ _ _ => et_yes) ?_) ?_) ?_) fun H1 o => o.retV k (j := 0) rfl ⟨rfl, (nmS_ok n).2⟩
    · intro x H2 e2 hx _
      obtain ⟨i, hi, rfl⟩ := List.mem_map.mp hx
      have hi := List.mem_range.mp hi
      exact ev_op (ev_var rfl) (ev_op (ev_op (by wtm_at "ev") (ev_op (ev_var rfl) (ev_op (by wtm_at "ev") ev_c (rv_I (by decide))) (rv_mulI (cmul_small (by omega) (by omega)))) rv_addI) ev_c (rv_I (by decide))) (rv_ixSs (by decide) (nm_at n (i : Nat)))
    · rw [filter_all]
      unfold rngV
      rw [List.map_map, List.map_map, hm]
      rfl
    · rw [hln]
      have h3 : ("" : Str).length = 0 := by decide +kernel
      rw [h3, List.length_map, List.length_range]
      omega

end
section
variable {P : Program} {w : World} {K : PySem.W.Frag} {mg : Str → Option Value} {base : Heap}
def Sz0 (ls : List (List Str)) : Prop := ls.length ≤ 1000 ∧ ∀ l ∈ ls, l.length ≤ 1000 ∧ ∀ s ∈ l, TxtOk s
theorem Cells.bk {H : Hp} {p : Addr} {ls : List (List Str)} (h : Cells H p ls) (hz : Sz0 ls) : Bk K H p ls := by
  obtain ⟨xs, h1, h2⟩ := h
  exact ⟨dp_book.mpr ⟨p, xs, rfl, sq_of h1, CR.rows h2⟩, hz⟩
theorem Sz.z0 {m : Nat} {ls : List (List Str)} (h : Sz m ls) (hm : m ≤ 1000) : Sz0 ls := ⟨Nat.le_trans h.len hm, fun l hl => ⟨Nat.le_trans (h.ok l hl).1 hm, (h.ok l hl).2⟩⟩
theorem GB.sz {n : Nat} {ls : List (List Str)} (h : GB n ls) (hn : n ≤ 40) : Sz 40 ls := ⟨h.pos, Nat.le_trans h.len hn, fun l hl => ⟨by have := (isVer_iff.mp (h.ver l hl)).2.1; omega, (ver_txt (h.ver l hl)).2⟩⟩
def badTT (ls : List (List Str)) : T3 Str Int Int := ⟨(badT ls).1, (((badT ls).2.1 : Nat) : Int), (((badT ls).2.2 : Nat) : Int)⟩
theorem badT_ok (ls : List (List Str)) : PyData.strOk (badT ls).1 = true := by
  unfold badT
  by_cases hb : 1 ≤ ls.length ∧ ls.length ≤ 40
  · rw [if_pos hb]
    cases badRow ls with
    | some i => exact (by decide +kernel : PyData.strOk ("BadVerse" : Str) = true)
    | none =>
      cases badTwo ls with
      | some j => exact (by decide +kernel : PyData.strOk ("Alike" : Str) = true)
      | none => exact (by decide +kernel : PyData.strOk ("" : Str) = true)
  · rw [if_neg hb]
    exact (by decide +kernel : PyData.strOk ("BadBook" : Str) = true)
theorem ad__law_book_bad {G : Hp} {vs : List V} {ls : List (List Str)} (ha : ArgsR G vs [⟨tL K (tL K tX), ls⟩]) (h : ls.length ≤ 1000 ∧ ∀ l ∈ ls, l.length ≤ 1000) : (R__law_book_bad K).R vs G (.ok (pT3 (badT ls))) := by
  obtain ⟨v, rfl, h1⟩ := args1 ha
  obtain ⟨p, rfl, h2⟩ := bk_of h1 h.1 h.2
  exact ⟨p, ls, rfl, h2, rfl⟩
theorem cv_badT {ls : List (List Str)} : ∀ N v, pT3 (badT ls) N v → (tT3 K tS tI tI).R N v (badTT ls) := fun N v ⟨p, h1, h2⟩ => by
  subst h1
  exact ⟨p, _, _, _, rfl, st_of h2, ⟨rfl, badT_ok ls⟩, rfl, rfl⟩
theorem ad__law_book_told {C : Addr} {G : Hp} {vs : List V} {b ls : List (List Str)} (ha : ArgsR G vs [⟨tBook K C, b⟩, ⟨tL K (tL K tX), ls⟩]) (h : b = ls ∧ ls.length ≤ 1000 ∧ ∀ l ∈ ls, l.length ≤ 1000) : (R__law_book_told K C).R vs G (.ok (is (.bl true))) := by
  obtain ⟨v, w, rfl, h1, h2⟩ := args2 ha
  obtain ⟨rfl, h3, h4⟩ := h
  obtain ⟨p, rfl, h5⟩ := bk_of h2 h3 h4
  obtain ⟨q, rfl, h6⟩ := h1
  exact ⟨q, p, _, rfl, h6, h5, rfl⟩
def NmsOk (l : List Str) : Prop := l.length ≤ 1 ∧ ∀ n ∈ l, nameB n = true
def hkN (l : List Str) (i : Nat) : HallM := if i = 0 then hal0 else shvM hal0 (l.getD 0 "") [[("a" : Str)]]
theorem nms_ok {x : Str} {z : Int} (h : nameB x = true) : NmsOk (cutI [x] none (some (z % 2))) := by
  have hz : z % 2 = 0 ∨ z % 2 = 1 := by omega
  rcases hz with e | e
  · rw [e]
    exact ⟨Nat.le_of_ble_eq_true rfl, fun n hn => nomatch hn⟩
  · rw [e]
    refine ⟨Nat.le_of_ble_eq_true rfl, fun n hn => ?_⟩
    rw [List.mem_singleton.mp hn]
    exact h
theorem name_len {n : Str} (h : nameB n = true) : n.length ≤ 1000 := by
  unfold nameB at h
  simp only [Bool.and_eq_true, decide_eq_true_eq] at h
  omega
theorem new_ok {ks : List Str} {n : Str} (h : nameB n = true) (h1 : n ∉ ks) (h2 : ks.length < 8) : newErr ks n = none := by
  unfold newErr
  rw [if_neg (by rw [h]; decide), if_neg h1, if_neg (by omega)]
theorem need_a : needM [[("a" : Str)]] = none := by decide +kernel
theorem hkN_hal {l : List Str} (h : NmsOk l) : ksK (hkN l l.length).shelf = l ∧ (hkN l l.length).done.length = l.length := by
  match l, h with
  | [], _ => exact ⟨rfl, rfl⟩
  | [x], _ => exact ⟨rfl, rfl⟩
theorem shv_a {l : List Str} {i : Nat} {y : Str} (h : NmsOk l) (hi : l[i]? = some y) : i = 0 ∧ shvErr (hkN l i) y [[("a" : Str)]] = none ∧ (hkN l i).done.length < 30000 ∧ shvM (hkN l i) y [[("a" : Str)]] = hkN l (i + 1) := by
  have hl := h.1
  have z : i < l.length := (List.getElem?_eq_some_iff.mp hi).1
  obtain rfl : i = 0 := by omega
  have hy := h.2 y (List.mem_of_getElem? hi)
  refine ⟨rfl, ?_, Nat.lt_of_lt_of_eq (by decide : 0 < 30000) rfl, ?_⟩
  · unfold shvErr
    have e : newErr (ksK (hkN l 0).shelf) y = none := new_ok hy (fun z => nomatch z) (show 0 < 8 by decide)
    rw [e]
    exact need_a
  · unfold hkN
    rw [if_pos rfl, if_neg (by omega), List.getD_eq_getElem?_getD, hi]
    rfl
theorem put_fresh {α : Type} {l : List (Str × α)} {k : Str} {x : α} [Inhabited α] (h : k ∉ ksK l) : ksK (putKd l k x) = ksK l ++ [k] ∧ getK (putKd l k x) k = x := by
  unfold putKd
  rw [if_neg h]
  refine ⟨by unfold ksK; rw [List.map_append]; rfl, ?_⟩
  unfold getK
  have z : ∀ q ∈ l, ¬ (decide (q.1 = k)) = true := fun q hq e => h (List.mem_map.mpr ⟨q, hq, of_decide_eq_true e⟩)
  rw [List.find?_append, List.find?_eq_none.mpr z]
  simp
theorem badT_no {ls : List (List Str)} (h : (badTT ls).a = ("" : Str)) : needM ls = none := by
  cases z : needM ls with
  | none => rfl
  | some q =>
    have w := why_bad (vs := ls)
    rw [z] at w
    obtain ⟨x, fs⟩ := q
    have ha : (whyT (some (x, fs))).a = ("" : Str) := by rw [w]; exact h
    rcases need_names z with ⟨rfl, rfl⟩ | ⟨rfl, i, rfl⟩ | ⟨rfl, j, i, rfl⟩
    · rw [whyT_b] at ha
      exact absurd ha (by decide +kernel : ("BadBook" : Str) ≠ "")
    · exact absurd ha (by decide +kernel : ("BadVerse" : Str) ≠ "")
    · exact absurd ha (by decide +kernel : ("Alike" : Str) ≠ "")
theorem badT_so {ls : List (List Str)} (h : (badTT ls).a ≠ ("" : Str)) : ∃ q, needM ls = some q := by
  cases z : needM ls with
  | some q => exact ⟨q, rfl⟩
  | none =>
    have w := why_bad (vs := ls)
    rw [z] at w
    exact absurd (show (badTT ls).a = ("" : Str) from (congrArg (fun t : T3 Str Int Int => t.a) w).symm) h
/-- the hall that k63 speaks of, and a new name -/
structure HkO (l : List Str) (n : Str) (h : HallM) : Prop where
  ok : NmsOk l
  h : h = hkN l l.length
  nm : nameB n = true
  no : n ∉ l
theorem HkO.new {l : List Str} {n : Str} {h : HallM} (a : HkO l n h) : newErr (ksK h.shelf) n = none := by
  have h1 := a.ok.1
  rw [a.h, (hkN_hal a.ok).1]
  exact new_ok a.nm a.no (by omega)
theorem HkO.err {l : List Str} {n : Str} {h : HallM} {ls : List (List Str)} (a : HkO l n h) : shvErr h n ls = needM ls := by
  unfold shvErr
  rw [a.new]
theorem HkO.bad {l : List Str} {n : Str} {h : HallM} {ls : List (List Str)} (a : HkO l n h) (hb : (badTT ls).a ≠ ("" : Str)) : shvH h n ls = h := by
  obtain ⟨q, hq⟩ := badT_so hb
  unfold shvH
  rw [a.err, hq]
  rfl
theorem HkO.good {l : List Str} {n : Str} {h : HallM} {ls : List (List Str)} (a : HkO l n h) (hb : (badTT ls).a = ("" : Str)) : ksK (shvH h n ls).shelf = l ++ [n] ∧ getK (shvH h n ls).shelf n = ls ∧ bokErr (shvH h n ls) n = none := by
  have e : shvH h n ls = shvM h n ls := by
    unfold shvH
    rw [a.err, badT_no hb]
    rfl
  have hn : n ∉ ksK h.shelf := by rw [a.h, (hkN_hal a.ok).1]; exact a.no
  have p := put_fresh (x := ls) hn
  rw [e]
  have e1 : ksK (shvM h n ls).shelf = l ++ [n] := by
    show ksK (putKd h.shelf n ls) = _
    rw [p.1, a.h, (hkN_hal a.ok).1]
  refine ⟨e1, p.2, ?_⟩
  unfold bokErr
  rw [e1, if_pos (by simp)]
abbrev s_law : Stmt := topS 79
theorem sc_law : FnScope ["_law_script", "_law_numbers_here", "_law_verses", "_law_k", "_law_hall", "_law_names", "_law_name_here", "_law_handed", "_law_due"] ["_law_script"] (defScope s_law) := ⟨rfl, rfl, rfl, by decide +kernel, rfl, by decide +kernel, by decide +kernel⟩
section
variable (ms : List Int) (ls : List (List Str)) (hms2 : Nums 290 ms) (hz0 : Sz0 ls)
include ms ls hms2 hz0
theorem vc_law_ix1 : -((ms).length : Int) ≤ (270 : Int) ∧ (270 : Int) < (ms).length := by
  wtm_at "vc"
theorem vc_law_pre_name1 : 0 ≤ getI ms (270 : Int) ∧ getI ms (270 : Int) < 1000000 := by
  have h := hms2.2 _ (getI_mem (by rw [hms2.1]; exact ⟨by decide, by decide⟩) : getI ms 270 ∈ ms)
  exact ⟨h.1, by omega⟩
theorem vc_law_ix2 : -((ms).length : Int) ≤ (271 : Int) ∧ (271 : Int) < (ms).length := by
  wtm_at "vc"
section
variable (names_a1 : (List Str)) (ha1 : names_a1 = cutI (([nmS (getI ms (270 : Int))] : List Str)) none (some ((getI ms (271 : Int)) % (2 : Int))))
include names_a1 ha1
theorem vc_law_inv1i1 : hal0 = hkN names_a1 0 := by
  rfl
section
variable (hall_1 : HallM) (ix1 : Nat) (y1 : Str) (hj1_1 : hall_1 = hkN names_a1 ix1) (hi1 : (names_a1)[ix1]? = some y1)
include hall_1 ix1 y1 hj1_1 hi1
theorem vc_law_pre_Hall_shelve1 : (([([("a" : Str)] : List Str)] : List (List Str))).length ≤ 1000 ∧ ∀ l ∈ (([([("a" : Str)] : List Str)] : List (List Str))), l.length ≤ 1000 := by
  exact ⟨by decide, fun l hl => by rw [List.mem_singleton.mp hl]; decide⟩
theorem vc_law_pre_Hall_shelve2 : (hall_1).done.length < 30000 := by
  have hn : NmsOk names_a1 := by rw [ha1]; exact nms_ok (nmS_ok _).1
  have s := shv_a hn hi1
  rw [hj1_1]
  exact s.2.2.1
theorem vc_law_pre_Hall_shelve3 : (y1).length ≤ 1000 := by
  have hn : NmsOk names_a1 := by rw [ha1]; exact nms_ok (nmS_ok _).1
  exact name_len (hn.2 _ (List.mem_of_getElem? hi1))
theorem vc_law_safe1 : shvErr (hall_1) (y1) (([([("a" : Str)] : List Str)] : List (List Str))) = none := by
  have hn : NmsOk names_a1 := by rw [ha1]; exact nms_ok (nmS_ok _).1
  have s := shv_a hn hi1
  rw [hj1_1]
  exact s.2.1
section
variable (hall_a2 : HallM) (ha2 : hall_a2 = shvM (hall_1) (y1) (([([("a" : Str)] : List Str)] : List (List Str))))
include hall_a2 ha2
theorem vc_law_inv1s1 : hall_a2 = hkN names_a1 (ix1 + 1) := by
  have hn : NmsOk names_a1 := by rw [ha1]; exact nms_ok (nmS_ok _).1
  have s := shv_a hn hi1
  rw [ha2, hj1_1]
  exact s.2.2.2
end
end
section
variable (hall_1 : HallM)
include hall_1
section
variable (hj1_1 : hall_1 = hkN names_a1 ((names_a1).length))
include hj1_1
theorem vc_law_ix3 : -((ms).length : Int) ≤ (272 : Int) ∧ (272 : Int) < (ms).length := by
  wtm_at "vc"
theorem vc_law_pre_name2 : 0 ≤ getI ms (272 : Int) ∧ getI ms (272 : Int) < 1000000 := by
  have h := hms2.2 _ (getI_mem (by rw [hms2.1]; exact ⟨by decide, by decide⟩) : getI ms 272 ∈ ms)
  exact ⟨h.1, by omega⟩
section
variable (c1 : (decide ((nmS (getI ms (272 : Int))) ∈ names_a1)) = true)
include c1
theorem vc_law_ret1 : (true) = (true) := by
  rfl
end
section
variable (c1 : (decide ((nmS (getI ms (272 : Int))) ∈ names_a1)) = false)
include c1
theorem vc_law_pre_copy1 : (ls).length ≤ 1000 ∧ ∀ l ∈ ls, l.length ≤ 1000 := by
  exact ⟨hz0.1, fun l hl => (hz0.2 l hl).1⟩
theorem vc_law_pre_book_bad1 : (ls).length ≤ 1000 ∧ ∀ l ∈ ls, l.length ≤ 1000 := by
  exact ⟨hz0.1, fun l hl => (hz0.2 l hl).1⟩
theorem vc_law_pre_why_shelf1 : (ls).length ≤ 1000 ∧ ∀ l ∈ (ls), l.length ≤ 1000 := by
  exact ⟨hz0.1, fun l hl => (hz0.2 l hl).1⟩
theorem vc_law_pre_why_shelf2 : (hall_1).done.length < 30000 := by
  have a : HkO names_a1 (nmS (getI ms 272)) hall_1 := ⟨by rw [ha1]; exact nms_ok (nmS_ok _).1, by assumption, (nmS_ok _).1, by simpa using c1⟩
  rw [a.h, (hkN_hal a.ok).2]
  have := a.ok.1
  omega
theorem vc_law_pre_why_shelf3 : (nmS (getI ms (272 : Int))).length ≤ 1000 := by
  exact name_len (nmS_ok _).1
theorem vc_law_pre_same1 : (whyT (shvErr (hall_1) (nmS (getI ms (272 : Int))) (ls))) = (badTT ls) := by
  have a : HkO names_a1 (nmS (getI ms 272)) hall_1 := ⟨by rw [ha1]; exact nms_ok (nmS_ok _).1, by assumption, (nmS_ok _).1, by simpa using c1⟩
  rw [a.err]
  exact why_bad
section
variable (c2 : (!decide (ls = ls)) = true)
include c2
theorem vc_law_never1 : False := by
  first
  | simp_all
  | omega
end
section
variable (c2 : (!decide (ls = ls)) = false) (c3 : (!decide (((badTT ls).a) = (("" : Str)))) = true)
include c2 c3
theorem vc_law_ret2 : (true) = (((decide ((ksK (shvH (hall_1) (nmS (getI ms (272 : Int))) (ls)).shelf) = names_a1)) && (decide ((((((shvH (hall_1) (nmS (getI ms (272 : Int))) (ls)).done.map fun s => s.c)).length : Int)) = (((names_a1).length : Int)))))) := by
  have a : HkO names_a1 (nmS (getI ms 272)) hall_1 := ⟨by rw [ha1]; exact nms_ok (nmS_ok _).1, by assumption, (nmS_ok _).1, by simpa using c1⟩
  have b : (badTT ls).a ≠ ("" : Str) := by simpa using c3
  rw [a.bad b, List.length_map, a.h, (hkN_hal a.ok).1, (hkN_hal a.ok).2]
  simp
end
section
variable (c2 : (!decide (ls = ls)) = false)
include c2
section
variable (c3 : (!decide (((badTT ls).a) = (("" : Str)))) = false)
include c3
theorem vc_law_cat1 : (names_a1).length + (([nmS (getI ms (272 : Int))] : List Str)).length ≤ 40000 := by
  have hn : NmsOk names_a1 := by rw [ha1]; exact nms_ok (nmS_ok _).1
  have := hn.1
  rw [List.length_singleton]
  omega
section
variable (hc78 : (decide ((ksK (shvH (hall_1) (nmS (getI ms (272 : Int))) (ls)).shelf) = (names_a1 ++ (([nmS (getI ms (272 : Int))] : List Str))))) = true)
include hc78
theorem vc_law_safe2 : bokErr (shvH (hall_1) (nmS (getI ms (272 : Int))) (ls)) (nmS (getI ms (272 : Int))) = none := by
  have a : HkO names_a1 (nmS (getI ms 272)) hall_1 := ⟨by rw [ha1]; exact nms_ok (nmS_ok _).1, by assumption, (nmS_ok _).1, by simpa using c1⟩
  exact (a.good (by simpa using c3)).2.2
theorem vc_law_pre_book_told1 : (getK (shvH (hall_1) (nmS (getI ms (272 : Int))) (ls)).shelf (nmS (getI ms (272 : Int)))) = ls ∧ (ls).length ≤ 1000 ∧ ∀ l ∈ ls, l.length ≤ 1000 := by
  have a : HkO names_a1 (nmS (getI ms 272)) hall_1 := ⟨by rw [ha1]; exact nms_ok (nmS_ok _).1, by assumption, (nmS_ok _).1, by simpa using c1⟩
  exact ⟨(a.good (by simpa using c3)).2.1, hz0.1, fun l hl => (hz0.2 l hl).1⟩
end
theorem vc_law_ret3 : (true) = (((decide ((ksK (shvH (hall_1) (nmS (getI ms (272 : Int))) (ls)).shelf) = (names_a1 ++ (([nmS (getI ms (272 : Int))] : List Str))))) && true)) := by
  have a : HkO names_a1 (nmS (getI ms 272)) hall_1 := ⟨by rw [ha1]; exact nms_ok (nmS_ok _).1, by assumption, (nmS_ok _).1, by simpa using c1⟩
  rw [(a.good (by simpa using c3)).1]
  simp
end
end
end
end
end
end
end
theorem ok_law (B : Bt mg) {C_Book C_Deal C_Hall C_Table : Addr} (O_Hall : OkC P w K mg base 1 C_Hall "Hall" ["self"] ((R_Hall K C_Book C_Deal C_Table C_Hall).spI mg C_Hall)) (O_Hall_book : OkM P w K mg base 1 C_Hall "book" ["self", "name"] ((R_Hall_book K C_Book C_Deal C_Table C_Hall).sp mg)) (O_Hall_books : OkM P w K mg base 1 C_Hall "books" ["self"] ((R_Hall_books K C_Book C_Deal C_Table C_Hall).sp mg)) (O_Hall_deeds : OkM P w K mg base 3 C_Hall "deeds" ["self"] ((R_Hall_deeds K C_Book C_Deal C_Table C_Hall).sp mg)) (O_Hall_shelve : OkM P w K mg base 6 C_Hall "shelve" ["self", "name", "verses"] ((R_Hall_shelve K C_Book C_Deal C_Table C_Hall).sp mg)) (O__law_book : Ok P w K mg base 3 "_law_book" ["_law_d", "_law_most"] ((R__law_book K).sp mg)) (O__law_book_bad : Ok P w K mg base 2 "_law_book_bad" ["_law_verses"] ((R__law_book_bad K).sp mg)) (O__law_book_told : Ok P w K mg base 4 "_law_book_told" ["_law_book_here", "_law_verses"] ((R__law_book_told K C_Book).sp mg)) (O__law_copy : Ok P w K mg base 1 "_law_copy" ["_law_rows"] ((R__law_copy2 K).sp mg)) (O__law_name : Ok P w K mg base 1 "_law_name" ["_law_number"] ((R__law_name K).sp mg)) (O__law_numbers : Ok P w K mg base 1 "_law_numbers" ["_law_script", "_law_many"] ((R__law_numbers K).sp mg)) (O__law_same : ∀ n, Ok P w K mg base n "_law_same" ["_law_found", "_law_due"] ((R__law_same K n).sp mg)) (O__law_spoilt_book : Ok P w K mg base 1 "_law_spoilt_book" ["_law_verses", "_law_d"] ((R__law_spoilt_book K).sp)) (O__law_why_shelf : Ok P w K mg base 7 "_law_why_shelf" ["_law_hall", "_law_name_here", "_law_verses"] ((R__law_why_shelf K C_Book C_Deal C_Table C_Hall).sp mg)) (D : Df K mg "law" s_law ["_law_script"]) : Ok P w K mg base 8 "law" ["_law_script"] (spLaw K) := by
  refine D.ok sc_law (fun vs H Q E h => ?_) (fun f cdv A outer s H vs Q E hr h => ?_)
  · obtain ⟨a, ns, rfl, _⟩ := h
    rfl
  · obtain ⟨a, ns, rfl, hS, hl, k0⟩ := h
    have O__law_same := O__law_same 4
    refine ⟨_, (pss_cons (ps_set (i := 1) sc_law.nd rfl (.inl rfl) (pe_callO O__law_numbers (hr.mono (by omega)) (by rfl) (takes_of rfl rfl rfl rfl) (pa_cons (pv 0) (pa_cons pe_int pa_nil))))
      (pss_cons (ps_set (i := 2) sc_law.nd rfl (.inl rfl) (pe_callO O__law_book (hr.mono (by omega)) (by rfl) (takes_of rfl rfl rfl rfl) (pa_cons (pe_slice (sl_K K) (pv 1) (po_some pe_int) po_none) (pa_cons (pe_ix (ix_seqK K) (pe_lst (pa_cons pe_int (pa_cons pe_int (pa_cons pe_int pa_nil)))) (pe_op op_mod (pe_ix (ix_seqK K) (pv 1) pe_int (fun _ _ => rfl)) pe_int) (fun _ _ => rfl)) pa_nil))))
      (pss_cons (ps_for (passes_of rfl) rfl (pi_range1 (by rfl) B.range (pa_cons (pe_op op_mod (pe_ix (ix_seqK K) (pv 1) pe_int (fun _ _ => rfl)) pe_int) pa_nil)) (pg_name (i := 3) sc_law.nd rfl (.inl rfl))
        (pss_one (ps_set (i := 2) sc_law.nd rfl (.inl rfl) (pe_callO O__law_spoilt_book (hr.mono (by omega)) (by rfl) (takes_of rfl rfl rfl rfl) (pa_cons (pv 2) (pa_cons (pe_slice (sl_K K) (pv 1) (po_some (pe_op (op_addK K) pe_int (pe_op op_mulU pe_int (pv 3)))) po_none) pa_nil))))))
      (Evl.pss_cut (ps_if (pt_cmpR (op_eqK K (hu65 hr)) (pe_op op_mod (pe_ix (ix_seqK K) (pv 1) pe_int (fun _ _ => rfl)) pe_int) pe_int (nomark _))
        (pss_one (ps_set (i := 2) sc_law.nd rfl (.inl rfl) (pe_lst pa_nil)))
        pss_nil)
      (pss_cons (ps_set (i := 4) sc_law.nd rfl (.inl rfl) (pe_makeO0 O_Hall (hr.mono (by omega)) (by rfl) (takes_of rfl rfl rfl rfl)))
      (pss_cons (ps_set (i := 5) sc_law.nd rfl (.inl rfl) (pe_slice (sl_K K) (pe_lst (pa_cons (pe_callO O__law_name (hr.mono (by omega)) (by rfl) (takes_of rfl rfl rfl rfl) (pa_cons (pe_ix (ix_seqK K) (pv 1) pe_int (fun _ _ => rfl)) pa_nil)) pa_nil)) po_none (po_some (pe_op op_mod (pe_ix (ix_seqK K) (pv 1) pe_int (fun _ _ => rfl)) pe_int))))
      (pss_cons (ps_for (passes_of rfl) rfl (pi_listK K (pv 5)) (pg_name (i := 6) sc_law.nd rfl (.inl rfl))
        (pss_one (ps_expr (pe_methO O_Hall_shelve (pv 4) (hr.mono (by omega)) (takes_of rfl rfl rfl rfl) (pa_cons (pv 6) (pa_cons (pe_lst (pa_cons (pe_lst (pa_cons pe_str pa_nil)) pa_nil)) pa_nil))))))
      (pss_cons (ps_set (i := 6) sc_law.nd rfl (.inl rfl) (pe_callO O__law_name (hr.mono (by omega)) (by rfl) (takes_of rfl rfl rfl rfl) (pa_cons (pe_ix (ix_seqK K) (pv 1) pe_int (fun _ _ => rfl)) pa_nil)))
      (pss_cons (ps_if (pt_cmpR (op_inK K (hu65 hr)) (pv 6) (pv 5) (by rfl))
        (pss_one (ps_ret pe_bl))
        pss_nil)
      (pss_cons (ps_set (i := 7) sc_law.nd rfl (.inl rfl) (pe_callO O__law_copy (hr.mono (by omega)) (by rfl) (takes_of rfl rfl rfl rfl) (pa_cons (pv 2) pa_nil)))
      (pss_cons (ps_set (i := 8) sc_law.nd rfl (.inl rfl) (pe_callO O__law_book_bad (hr.mono (by omega)) (by rfl) (takes_of rfl rfl rfl rfl) (pa_cons (pv 2) pa_nil)))
      (pss_cons (ps_if (PW.pt (pw_or (pt_not (pt_val (pe_callO O__law_same (hr.mono (by omega)) (by rfl) (takes_of rfl rfl rfl rfl) (pa_cons (pe_callO O__law_why_shelf (hr.mono (by omega)) (by rfl) (takes_of rfl rfl rfl rfl) (pa_cons (pv 4) (pa_cons (pv 6) (pa_cons (pv 7) pa_nil)))) (pa_cons (pv 8) pa_nil))))) (pw_or1 (pt_cmpR (op_neK K (hu65 hr)) (pv 7) (pv 2) (nomark _)))))
        (pss_one (ps_ret pe_bl))
        pss_nil)
      (pss_cons (ps_if (pt_cmpR (op_neK K (hu65 hr)) (pe_ix (ix_seqK K) (pv 8) pe_int (fun _ _ => rfl)) pe_str (nomark _))
        (pss_one (ps_ret (pe_and (pe_cmpR (op_eqK K (hu65 hr)) (pe_methO0 O_Hall_books (pv 4) (hr.mono (by omega)) (takes_of rfl rfl rfl rfl)) (pv 5) (nomark _)) (pe_one (pe_cmpR (op_eqK K (hu65 hr)) (pe_callB (call_lenK K) (by rfl) B.len boot_b_len (pa_cons (pe_methO0 O_Hall_deeds (pv 4) (hr.mono (by omega)) (takes_of rfl rfl rfl rfl)) pa_nil)) (pe_callB (call_lenK K) (by rfl) B.len boot_b_len (pa_cons (pv 5) pa_nil)) (nomark _))))))
        pss_nil)
      (pss_one (ps_ret (pe_and (pe_cmpR (op_eqK K (hu65 hr)) (pe_methO0 O_Hall_books (pv 4) (hr.mono (by omega)) (takes_of rfl rfl rfl rfl)) (pe_op (op_addK K) (pv 5) (pe_lst (pa_cons (pv 6) pa_nil))) (nomark _)) (pe_one (pe_callO O__law_book_told (hr.mono (by omega)) (by rfl) (takes_of rfl rfl rfl rfl) (pa_cons (pe_methO O_Hall_book (pv 4) (hr.mono (by omega)) (takes_of rfl rfl rfl rfl) (pa_cons (pv 6) pa_nil)) (pa_cons (pv 2) pa_nil)))))))))))))))))))), ?_⟩
    refine q_n (P := pNums 290) (Own.one H) (ep_call (by wtm_at "ev") ⟨a, ns, 290, rfl, hS, by decide, by decide, rfl⟩) fun v H1 N1 o hp => ?_
    obtain ⟨b, ms, rfl, hb, hms, hall⟩ := hp
    have a0 := atI_map (ns := ms) (j := 0) (by omega)
    have a1 := atI_map (ns := ms) (j := 1) (by omega)
    have a2 := atI_map (ns := ms) (j := 2) (by omega)
    obtain ⟨t, ht, ht2⟩ := mod_nat (a := ms[0]) (b := 3) (by decide)
    obtain ⟨mo, hmo, hmo1, hmo2⟩ : ∃ mo : Int, atI [V.int 5, .int 12, .int 40] ((t : Nat) : Int) = some (.int mo) ∧ 1 ≤ mo ∧ mo ≤ 40 := by
      rcases t with _ | _ | _ | t
      · exact ⟨5, rfl, by decide, by decide⟩
      · exact ⟨12, rfl, by decide, by decide⟩
      · exact ⟨40, rfl, by decide, by decide⟩
      · omega
    have hb1 := o.e0 _ _ hb
    refine q_n (P := pGood K mo.toNat) o (ep_callN (S := R__law_book K) (eps_cons (P := pLst ((ms.drop 20).map V.int)) (ep_l (el_is (el_sl' (ev_var rfl) (eo_some ev_c) eo_none (sq_of hb1)) (cut_ints ms 20))) (eps_cons (P := is (.int mo)) (ep_v (ev_op1 (P := pLst [.int 5, .int 12, .int 40]) (ep_lst (by wtm_at "ev")) (ev_is (ev_op (ev_op (ev_var rfl) ev_c (rv_ixLs (sq_of hb1) a0)) ev_c (rv_I (by decide))) (congrArg V.int ht)) fun v N H1 _ i1 ⟨c, e, hc⟩ => by subst e; exact rv_ixLs (sq_of (i1 _ _ hc)) hmo)) eps_nil)) fun vs H2 e2 ha => ?_) fun v H1 N2 o hp => ?_
    · obtain ⟨x, y, rfl, ⟨N, iN, c, rfl, hc⟩, _, _, h2⟩ := all2_two ha
      have h2 : y = .int mo := h2
      subst h2
      exact ⟨c, _, mo, rfl, ⟨sq_of (iN _ _ hc), fun n hn => hall n (List.mem_of_mem_drop hn)⟩, by rw [List.length_drop]; omega, hmo1, hmo2, rfl⟩
    obtain ⟨p1, ls1, rfl, hV1, hG1, hC1⟩ := hp
    have n1 := hall _ (List.getElem_mem (show 1 < ms.length by omega))
    refine q_forN (G := emp) o (ei_rng1 (m := ms[1] % 4) (ea_cons (ev_op (ev_op (ev_var rfl) ev_c (rv_ixLs (sq_of (o.e1 _ _ hb)) a1)) ev_c (rv_I (by decide))) ea_nil) (by omega)) (fun i σ H' => ∃ p ls y3, σ = [some (.ref a), some (.ref b), some (.ref p), y3, none, none, none, none, none] ∧ Own [N1, H] H' ∧ Cells H' p ls ∧ Sz (40 * 2 ^ i) ls) (fun H1 o => ⟨p1, ls1, _, rfl, o.tail, hC1.mono o.e0, hG1.sz (by omega)⟩) (fun i σ H' _ _ => emp_ex) ?_ ?_
    · rintro i x σ H2 H3 hi ⟨p, ls, y3, rfl, o, hC, hz⟩ e rfl
      have o := o.mono e
      have hC := hC.mono e
      have hi : i < 4 := by omega
      have hpw : 40 * 2 ^ i ≤ 320 := by
        rcases i with _ | _ | _ | _ | i
        · decide
        · decide
        · decide
        · decide
        · omega
      have hpw1 : 40 ≤ 40 * 2 ^ i := Nat.le_mul_of_pos_right _ (Nat.pow_pos (by decide))
      have hi3 : i < 3 := by omega
      have hpw : 40 * 2 ^ i ≤ 160 := by
        rcases i with _ | _ | _ | i
        · decide
        · decide
        · decide
        · omega
      refine s_h (eh_call (S := R__law_spoilt_book K) (C := cBook (2 * (40 * 2 ^ i))) (ehs_cons (eh_v (ev_var rfl)) (fun _ h => h) (ehs_cons (eh_l (el_is (el_sl' (lo := some ((3 + 5 * i : Nat) : Int)) (ev_var rfl) (eo_some (ev_is (ev_op ev_c (ev_op ev_c (ev_var rfl) (rv_mulI (cmul_small (by decide) (by omega)))) rv_addI) (by congr 1))) eo_none (sq_of (o.e0 _ _ hb))) (cut_ints ms _))) (cL_up fun _ h => h) ehs_nil)) ?_) fun v H1 e1 hc => ?_
      · rintro vs H4 e4 ⟨x, us, rfl, rfl, y, us2, rfl, ⟨c, ys, rfl, hc, rfl⟩, rfl⟩
        exact ⟨p, c, ls, ms.drop (3 + 5 * i), 40 * 2 ^ i, rfl, hC.mono e4, hz, hpw1, by omega, ⟨sq_of hc, fun n hn => hall n (List.mem_of_mem_drop hn)⟩, by rw [List.length_drop]; omega, rfl⟩
      · obtain ⟨p2, ls2, rfl, hC2, hz2⟩ := hc
        refine ⟨p2, ls2, _, rfl, o.mono e1, hC2, ?_⟩
        rw [Nat.pow_succ, ← Nat.mul_assoc, Nat.mul_comm (40 * 2 ^ i) 2]
        exact hz2
    · rintro σ H2 ⟨p, ls, y3, rfl, o, hC, hz⟩
      have hpw : 40 * 2 ^ (ms[1] % 4).toNat ≤ 1000 := by
        have hi : (ms[1] % 4).toNat < 4 := by omega
        generalize (ms[1] % 4).toNat = i at hi
        rcases i with _ | _ | _ | _ | i
        · decide
        · decide
        · decide
        · decide
        · omega
      have hz0 := hz.z0 hpw
      refine q_cut (M := fun σ H' => ∃ p ls y3, σ = [some (.ref a), some (.ref b), some (.ref p), y3, none, none, none, none, none] ∧ Own [N1, H] H' ∧ Cells H' p ls ∧ Sz0 ls) ?_ ?_
      · refine s_wh (Own.one H2) (et_test (ev_op (ev_op (ev_op (ev_var rfl) ev_c (rv_ixLs (sq_of (o.e0 _ _ hb)) a2)) ev_c (rv_I (by decide))) ev_c rv_eqI)) (fun _ H3 o3 => ?_) (fun _ H3 o3 => ?_)
        · refine s_l (o.mono o3.e0) (by wtm_at "ev") fun q H4 o4 => ⟨q, [], _, rfl, o4.tail, ⟨[], o4.e0 _ _ sing_at, .nil⟩, by decide, fun _ h => nomatch h⟩
        · exact ⟨p, ls, _, rfl, o.mono o3.e0, hC.mono o3.e0, hz0⟩
      · rintro σ H3 ⟨p, ls, y3, rfl, o, hC, hz0⟩
        have hms2 : Nums 290 ms := ⟨hms, hall⟩
        have fms : (tW tI).R H3 (.ref b) ms := w_ints (o.e0 _ _ hb) (by omega)
        have fvs : (tW (tW tX)).R H3 (.ref p) ls := w_cells hC hz0.1 fun l hl => ⟨(hz0.2 l hl).1, (hz0.2 l hl).2⟩
        have o0 := Own.init H3
        have k : RetNew H3 Q (fun N v => tB.R N v true) := fun v H' N _ _ _ h => by cases h; exact k0 H'
        refine q_c (i := 4) (ec_make (S := (R_Hall K C_Book C_Deal C_Table C_Hall)) (W := (fun G Ns w => ∃ N', Ns = N' :: [] ∧ (stHall K C_Book C_Deal C_Table C_Hall).R G N' w (hal0))) o0 ebs_nil (fun vs B eB ha => ⟨_, ⟨ha, rfl, (resX_none rfl).symm⟩, fun _ _ _ ⟨N', h1, h2⟩ => ⟨N', by rw [h1]; rfl, h2⟩⟩)) fun v3 M4 Ns5 H6 eM7 o8 ⟨N9, hNs, fS10⟩ => ?_
        subst hNs
        have o12 : Own (M4 :: H3 :: (N9) :: []) H6 := o8
        refine q_b (i := 5) o12 (ed_slF (B := M4) (ed_to (T := (tW tS)) (S := (tL K tS)) (ed_lst (T := tS) (l := ([nmS (getI ms (270 : Int))] : List Str)) (Own.e0 o12) (ebs_cons (T := tS) (Own.e0 o12) (ed_p (T := tS) (ep_callB (S := (R__law_name K)) (Ex.refl _) (ebs_cons (T := tI) (Ex.refl _) (ed_i (ev_i (ed_ixG (ed_to (T := (tW tI)) (S := (tL K tI)) (ed_of (T := (tW tI)) (up (Own.uu o12 eM7) (up (Own.ug o0) fms)) rfl)) ev_c (vc_law_ix1 ms ls hms2 hz0) (Own.uh o12)))) ebs_nil) (fun vs G ha => ⟨(getI ms (270 : Int)), ha, (vc_law_pre_name1 ms ls hms2 hz0), rfl⟩)) (Own.e0 o12) (fun _ _ h => h)) ebs_nil) (Nat.le_of_ble_eq_true rfl))) eo_none (eo_some (ev_op (ev_i (ed_ixG (ed_to (T := (tW tI)) (S := (tL K tI)) (ed_of (T := (tW tI)) (up (Own.uu o12 eM7) (up (Own.ug o0) fms)) rfl)) ev_c (vc_law_ix2 ms ls hms2 hz0) (Own.uh o12))) ev_c (rv_I (by decide)))) (Own.e0 o12)) fun v13 M14 H15 eM16 o17 f18 => ?_
        obtain ⟨names_a1, ha1, f18⟩ : ∃ z : (List Str), z = (cutI (([nmS (getI ms (270 : Int))] : List Str)) none (some ((getI ms (271 : Int)) % (2 : Int)))) ∧ (tW tS).R M14 v13 z := ⟨_, rfl, f18⟩
        refine q_fo (Z := fun B y σ σ2 => ∃ z19, σ2 = (σ.set 6 (some z19)) ∧ tS.R B z19 y) o17 (dr_list (T := tS) (ed_to (T := (tW tS)) (S := (tL K tS)) (ed_of (T := (tW tS)) f18 rfl)) (Own.e0 o17) (fun G x y H' e hx σ' Q q => by exact q _ ⟨x, rfl, hx⟩)) (fun Mx ix σ' H' => ∃ (M20 : Hp) (g23 : Option V) (N24 : Hp) (hall_1 : HallM), (σ' = [some (.ref a), some (.ref b), some (.ref p), y3, some v3, some v13, g23, none, none]) ∧ (Ex Mx M20) ∧ (Own (M20 :: H3 :: N24 :: []) H') ∧ ((stHall K C_Book C_Deal C_Table C_Hall).R (uni H3 M20) N24 v3 hall_1) ∧ (hall_1 = hkN names_a1 ix)) (fun M1_1 H1 eM1_1 o1 => ?_) (fun M1_1 ix σ' H' eM1_1 ⟨M20, g23, N24, hall_1, _, eM22, o21, _, _⟩ => ?_) ?_ ?_
        · exact ⟨M1_1, _, _, (hal0), rfl, Ex.refl _, o1, (St.up _ (Own.uu o1 (Ex.trans eM16 eM1_1)) fS10), (vc_law_inv1i1 ms ls hms2 hz0 names_a1 ha1)⟩
        · exact (eM22.trans (Own.e0 o21))
        · rintro M1_1 ix1 y1 σ' H' H'' σ2 eM1_1 hi1 ⟨M20, g23, N24, hall_1, rfl, eM22, o21, fS25, hj1_1⟩ eH26 ⟨z28, rfl, f29⟩
          have o27 := Own.mono eH26 o21
          obtain ⟨rfl, hs30⟩ : z28 = .str (y1) ∧ PyData.strOk (y1) = true := f29
          refine s_cd (ec_meth (S := (R_Hall_shelve K C_Book C_Deal C_Table C_Hall)) (W := (fun G Ns w => ∃ N', Ns = N' :: [] ∧ (stHall K C_Book C_Deal C_Table C_Hall).R G N' v3 (shvM (hall_1) (y1) (([([("a" : Str)] : List Str)] : List (List Str)))) ∧ tN.R G w (()))) (Own.front o27 (j := 0) rfl) (ev_var rfl) (hal_ins (fun _ _ _ _ => rfl) (fS25) (Own.exO o27 (j := 0) rfl)) (ebs_cons (T := tS) (Own.uh o27) (ed_s (ev_var rfl) hs30) (ebs_cons (T := (tL K (tL K tX))) (Own.uh o27) (ed_to (T := (tW (tW tX))) (S := (tL K (tL K tX))) (ed_lst (T := (tW tX)) (l := ([([("a" : Str)] : List Str)] : List (List Str))) (Own.uh o27) (ebs_cons (T := (tW tX)) (Own.uh o27) (ed_lst (T := tX) (l := ([("a" : Str)] : List Str)) (Own.uh o27) (ebs_cons (T := tX) (Own.uh o27) (ed_x ev_c ⟨by decide +kernel, by decide +kernel⟩) ebs_nil) (Nat.le_of_ble_eq_true rfl)) ebs_nil) (Nat.le_of_ble_eq_true rfl))) ebs_nil)) (fun vs B eB ha => ⟨_, ⟨(hall_1), _, _, (y1), (([([("a" : Str)] : List Str)] : List (List Str))), ⟨rfl, ha⟩, rfl, (St.up _ eB fS25), (vc_law_pre_Hall_shelve1 ms ls hms2 hz0 names_a1 ha1 hall_1 ix1 y1 hj1_1 hi1), (vc_law_pre_Hall_shelve2 ms ls hms2 hz0 names_a1 ha1 hall_1 ix1 y1 hj1_1 hi1), (vc_law_pre_Hall_shelve3 ms ls hms2 hz0 names_a1 ha1 hall_1 ix1 y1 hj1_1 hi1), (resXF_none (vc_law_safe1 ms ls hms2 hz0 names_a1 ha1 hall_1 ix1 y1 hj1_1 hi1)).symm⟩, fun _ _ _ ⟨N', h1, h2⟩ => ⟨N', by rw [h1]; rfl, h2⟩⟩)) fun v31 M32 Ns33 H34 eM35 o36 ⟨N37, hNs, fS38, fv39⟩ => ?_
          subst hNs
          obtain ⟨hall_a2, ha2, fS38⟩ : ∃ z : HallM, z = (shvM (hall_1) (y1) (([([("a" : Str)] : List Str)] : List (List Str)))) ∧ (stHall K C_Book C_Deal C_Table C_Hall).R _ N37 v3 z := ⟨_, rfl, fS38⟩
          have o40 : Own (M32 :: H3 :: (N37) :: []) H34 := o36
          exact ⟨M32, _, _, (hall_a2), rfl, (Ex.trans eM22 eM35), o40, fS38, (vc_law_inv1s1 ms ls hms2 hz0 names_a1 ha1 hall_1 ix1 y1 hj1_1 hi1 hall_a2 ha2)⟩
        · rintro M1_1 σ' H' eM1_1 ⟨M20, g23, N24, hall_1, rfl, eM22, o21, fS25, hj1_1⟩
          refine q_b (i := 6) o21 (ed_p (T := tS) (ep_callB (S := (R__law_name K)) (Ex.refl _) (ebs_cons (T := tI) (Ex.refl _) (ed_i (ev_i (ed_ixG (ed_to (T := (tW tI)) (S := (tL K tI)) (ed_of (T := (tW tI)) (up (Own.uu o21 (Ex.trans eM7 (Ex.trans eM16 (Ex.trans eM1_1 eM22)))) (up (Own.ug o0) fms)) rfl)) ev_c (vc_law_ix3 ms ls hms2 hz0 names_a1 ha1 hall_1 hj1_1) (Own.uh o21)))) ebs_nil) (fun vs G ha => ⟨(getI ms (272 : Int)), ha, (vc_law_pre_name2 ms ls hms2 hz0 names_a1 ha1 hall_1 hj1_1), rfl⟩)) (Own.e0 o21) (fun _ _ h => h)) fun v41 M42 H43 eM44 o45 f46 => ?_
          obtain ⟨rfl, hs47⟩ : v41 = .str (nmS (getI ms (272 : Int))) ∧ PyData.strOk (nmS (getI ms (272 : Int))) = true := f46
          refine q_wh o45 (et_test (ev_inB (T := tS) (ed_s (ev_var rfl) hs47) (ed_to (T := (tW tS)) (S := (tL K tS)) (ed_of (T := (tW tS)) (up (Ex.trans eM1_1 (Ex.trans eM22 eM44)) f18) rfl)) (Own.e0 o45))) (fun c1 H48 o49 => ?_) (fun c1 H48 o49 => ?_)
          · skip
            exact s_rv' o49 ev_c k (by first | (rw [(vc_law_ret1 ms ls hms2 hz0 names_a1 ha1 hall_1 hj1_1 c1)]; exact rfl) | (rw [← (vc_law_ret1 ms ls hms2 hz0 names_a1 ha1 hall_1 hj1_1 c1)]; exact rfl))
          · skip
            refine q_b (i := 7) o49 (ed_p (T := (tW (tW tX))) (ep_callB (S := (R__law_copy2 K)) (Ex.refl _) (ebs_cons (T := (tL K (tL K tX))) (Ex.refl _) (ed_to (T := (tW (tW tX))) (S := (tL K (tL K tX))) (ed_of (T := (tW (tW tX))) (up (Own.uh o49) (up (Own.uu o49 (Ex.trans eM7 (Ex.trans eM16 (Ex.trans eM1_1 (Ex.trans eM22 eM44))))) (up (Own.ug o0) fvs))) rfl)) ebs_nil) (fun vs G ha => ad__law_copyT ha (vc_law_pre_copy1 ms ls hms2 hz0 names_a1 ha1 hall_1 hj1_1 c1))) (Own.e0 o49) (cv_rows)) fun v50 M51 H52 eM53 o54 f55 => ?_
            refine q_b (i := 8) o54 (ed_p (T := (tT3 K tS tI tI)) (ep_callB (S := (R__law_book_bad K)) (Ex.refl _) (ebs_cons (T := (tL K (tL K tX))) (Ex.refl _) (ed_to (T := (tW (tW tX))) (S := (tL K (tL K tX))) (ed_of (T := (tW (tW tX))) (up (Own.uh o54) (up (Own.uu o54 (Ex.trans eM7 (Ex.trans eM16 (Ex.trans eM1_1 (Ex.trans eM22 (Ex.trans eM44 eM53)))))) (up (Own.ug o0) fvs))) rfl)) ebs_nil) (fun vs G ha => ad__law_book_bad ha (vc_law_pre_book_bad1 ms ls hms2 hz0 names_a1 ha1 hall_1 hj1_1 c1))) (Own.e0 o54) (cv_badT)) fun v56 M57 H58 eM59 o60 f61 => ?_
            refine q_ifNotOr (ec_call1 (ec_call (S := (R__law_why_shelf K C_Book C_Deal C_Table C_Hall)) (W := (fun G Ns w => ∃ N', Ns = N' :: [] ∧ (stHall K C_Book C_Deal C_Table C_Hall).R G N' v3 (shvH (hall_1) (nmS (getI ms (272 : Int))) (ls)) ∧ (tT3 K tS tI tI).R G w (whyT (shvErr (hall_1) (nmS (getI ms (272 : Int))) (ls))))) (Own.front o60 (j := 0) rfl) (ebs_cons (T := tIs v3) (Own.uh o60) (ed_isv (ev_var rfl)) (ebs_cons (T := tS) (Own.uh o60) (ed_s (ev_var rfl) hs47) (ebs_cons (T := (tL K (tL K tX))) (Own.uh o60) (ed_to (T := (tW (tW tX))) (S := (tL K (tL K tX))) (ed_of (T := (tW (tW tX))) (up uni_r (up eM59 f55)) rfl)) ebs_nil))) (fun vs B eB ha => ⟨_, ⟨(hall_1), _, _, (nmS (getI ms (272 : Int))), (ls), ha, rfl, (St.up _ eB (St.up _ (Own.uu o60 (Ex.trans eM44 (Ex.trans eM53 eM59))) fS25)), (vc_law_pre_why_shelf1 ms ls hms2 hz0 names_a1 ha1 hall_1 hj1_1 c1), (vc_law_pre_why_shelf2 ms ls hms2 hz0 names_a1 ha1 hall_1 hj1_1 c1), (vc_law_pre_why_shelf3 ms ls hms2 hz0 names_a1 ha1 hall_1 hj1_1 c1), (resX_none rfl).symm⟩, fun _ _ _ ⟨N', h1, h2⟩ => ⟨N', by rw [h1]; rfl, h2⟩⟩)) (fun v62 M63 Ns64 H65 eM66 o67 ⟨N68, hNs, fS69, fv70⟩ => ?_)) (fun _ _ _ ⟨h, _⟩ => h) fun M63 Ns64 H65 eM66 o67 ⟨_, v62, N68, hNs, fS69, fv70⟩ => ?_
            · subst hNs
              have o71 : Own (M63 :: H3 :: (N68) :: []) H65 := o67
              exact (ev_p (v := (.bl (true))) (ep_imp (ep_callB (S := (R__law_same K 4)) (Ex.refl _) (ebs_cons (T := (tT3 K tS tI tI)) (Ex.refl _) (ed_w (up (Own.uh o71) fv70)) (ebs_cons (T := (tT3 K tS tI tI)) (Ex.refl _) (ed_of (T := (tT3 K tS tI tI)) (up (Own.e0 o71) (up eM66 f61)) rfl) ebs_nil)) (fun vs G ha => ad__law_same rfl (Nat.le_of_ble_eq_true rfl) ha (vc_law_pre_same1 ms ls hms2 hz0 names_a1 ha1 hall_1 hj1_1 c1))) (fun _ _ h => h)))
            · subst hNs
              have o72 : Own (M63 :: H3 :: (N68) :: []) H65 := o67
              refine q_wh o72 (et_test (ev_neB (T := (tW (tW tX))) (ed_of (T := (tW (tW tX))) (up uni_r (up (Ex.trans eM59 eM66) f55)) rfl) (ed_of (T := (tW (tW tX))) (up (Own.uu o72 (Ex.trans eM7 (Ex.trans eM16 (Ex.trans eM1_1 (Ex.trans eM22 (Ex.trans eM44 (Ex.trans eM53 (Ex.trans eM59 eM66)))))))) (up (Own.ug o0) fvs)) rfl) (Own.uh o72))) (fun c2 H73 o74 => ?_) (fun c2 H73 o74 => ?_)
              · skip
                exact ((vc_law_never1 ms ls hms2 hz0 names_a1 ha1 hall_1 hj1_1 c1 c2) : False).elim
              · skip
                refine q_wh o74 (et_test (ev_op (ev_s (ed_3a (ed_of (T := (tT3 K tS tI tI)) (up eM66 f61) rfl) (Own.e0 o74))) ev_c rv_neT)) (fun c3 H75 o76 => ?_) (fun c3 H75 o76 => ?_)
                · skip
                  exact s_rv' o76 (ev_andV (ev_eqB (T := (tW tS)) (ed_methP (S := (R_Hall_books K C_Book C_Deal C_Table C_Hall)) (T := (tW tS)) (Own.front o76 (j := 0) rfl) (ev_var rfl) (hal_ins (fun _ _ _ _ => rfl) (fS69) (Own.exO o76 (j := 0) rfl)) ebs_nil (fun vs B eB ha => ⟨_, ⟨(shvH (hall_1) (nmS (getI ms (272 : Int))) (ls)), _, _, ⟨rfl, ha⟩, rfl, (St.up _ eB fS69), (resX_none rfl).symm⟩, fun _ _ _ h => h⟩)) (ed_of (T := (tW tS)) (up uni_r (up (Ex.trans eM1_1 (Ex.trans eM22 (Ex.trans eM44 (Ex.trans eM53 (Ex.trans eM59 eM66))))) f18)) rfl) (Own.uh o76)) fun hc77 => (ev_op (ev_lenB (T := (tHd K)) (ed_to (T := (tW (tHd K))) (S := (tL K (tHd K))) (ed_methH (S := (R_Hall_deeds K C_Book C_Deal C_Table C_Hall)) (T := (tW (tHd K))) (Own.front o76 (j := 0) rfl) (ev_var rfl) (hal_ins (fun _ _ _ _ => rfl) (fS69) (Own.exO o76 (j := 0) rfl)) ebs_nil (fun vs B eB ha => ⟨_, ⟨(shvH (hall_1) (nmS (getI ms (272 : Int))) (ls)), _, _, ⟨rfl, ha⟩, rfl, (St.up _ eB fS69), (resX_none rfl).symm⟩, fun _ _ _ h => h⟩))) (Ex.refl _)) (ev_lenB (T := tS) (ed_to (T := (tW tS)) (S := (tL K tS)) (ed_of (T := (tW tS)) (up (Ex.trans eM1_1 (Ex.trans eM22 (Ex.trans eM44 (Ex.trans eM53 (Ex.trans eM59 eM66))))) f18) rfl)) (Own.e0 o76)) rv_eqI)) k (by first | (rw [(vc_law_ret2 ms ls hms2 hz0 names_a1 ha1 hall_1 hj1_1 c1 c2 c3)]; exact rfl) | (rw [← (vc_law_ret2 ms ls hms2 hz0 names_a1 ha1 hall_1 hj1_1 c1 c2 c3)]; exact rfl))
                · skip
                  exact s_rv' o76 (ev_andV (ev_eqB (T := (tW tS)) (ed_methP (S := (R_Hall_books K C_Book C_Deal C_Table C_Hall)) (T := (tW tS)) (Own.front o76 (j := 0) rfl) (ev_var rfl) (hal_ins (fun _ _ _ _ => rfl) (fS69) (Own.exO o76 (j := 0) rfl)) ebs_nil (fun vs B eB ha => ⟨_, ⟨(shvH (hall_1) (nmS (getI ms (272 : Int))) (ls)), _, _, ⟨rfl, ha⟩, rfl, (St.up _ eB fS69), (resX_none rfl).symm⟩, fun _ _ _ h => h⟩)) (ed_cat (ed_of (T := (tW tS)) (up uni_r (up (Ex.trans eM1_1 (Ex.trans eM22 (Ex.trans eM44 (Ex.trans eM53 (Ex.trans eM59 eM66))))) f18)) rfl) (ed_lst (T := tS) (l := ([nmS (getI ms (272 : Int))] : List Str)) (Own.uh o76) (ebs_cons (T := tS) (Own.uh o76) (ed_s (ev_var rfl) hs47) ebs_nil) (Nat.le_of_ble_eq_true rfl)) (Own.uh o76) (vc_law_cat1 ms ls hms2 hz0 names_a1 ha1 hall_1 hj1_1 c1 c2 c3)) (Own.uh o76)) fun hc78 => (ev_p (v := (.bl (true))) (ep_imp (ep_callB (S := (R__law_book_told K C_Book)) (Ex.refl _) (ebs_cons (T := (tBook K C_Book)) (Ex.refl _) (ed_toB (Own.uh o76) (ed_methP (S := (R_Hall_book K C_Book C_Deal C_Table C_Hall)) (T := (tBook K C_Book)) (Own.front o76 (j := 0) rfl) (ev_var rfl) (hal_ins (fun _ _ _ _ => rfl) (fS69) (Own.exO o76 (j := 0) rfl)) (ebs_cons (T := tS) (Own.uh o76) (ed_s (ev_var rfl) hs47) ebs_nil) (fun vs B eB ha => ⟨_, ⟨(shvH (hall_1) (nmS (getI ms (272 : Int))) (ls)), _, _, (nmS (getI ms (272 : Int))), ⟨rfl, ha⟩, rfl, (St.up _ eB fS69), (resX_none (vc_law_safe2 ms ls hms2 hz0 names_a1 ha1 hall_1 hj1_1 c1 c2 c3 hc78)).symm⟩, fun _ _ _ h => h⟩))) (ebs_cons (T := (tL K (tL K tX))) (Ex.refl _) (ed_to (T := (tW (tW tX))) (S := (tL K (tL K tX))) (ed_of (T := (tW (tW tX))) (up (Own.uh o76) (up (Own.uu o76 (Ex.trans eM7 (Ex.trans eM16 (Ex.trans eM1_1 (Ex.trans eM22 (Ex.trans eM44 (Ex.trans eM53 (Ex.trans eM59 eM66)))))))) (up (Own.ug o0) fvs))) rfl)) ebs_nil)) (fun vs G ha => ad__law_book_told ha (vc_law_pre_book_told1 ms ls hms2 hz0 names_a1 ha1 hall_1 hj1_1 c1 c2 c3 hc78))) (fun _ _ h => h)))) k (by first | (rw [(vc_law_ret3 ms ls hms2 hz0 names_a1 ha1 hall_1 hj1_1 c1 c2 c3)]; exact rfl) | (rw [← (vc_law_ret3 ms ls hms2 hz0 names_a1 ha1 hall_1 hj1_1 c1 c2 c3)]; exact rfl))
end

theorem all_mkH {l : PySem.W.OpenLaw} {w : World} {K : PySem.W.Frag} {h : Heap} {mg : Str → Option Value} {fa : Addr} (X : K.In h) (G : h.Ns mainGlobals mg) (hfa : mg "law" = some (.ref fa)) (c : He.SaysX fa_ fn_ [] tf_ ex_ w h K) : LamX.LawAtS l w K (L2.CX l.prog w) 8 63 "_law_script" mg fa h := by
  have B : Bt mg := ⟨He.free_ok X G (c.t.d.fact 0 (f := .free "abs") rfl), He.free_ok X G (c.t.d.fact 1 (f := .free "all") rfl), He.free_ok X G (c.t.d.fact 2 (f := .free "any") rfl), He.free_ok X G (c.t.d.fact 3 (f := .free "dict") rfl), He.free_ok X G (c.t.d.fact 4 (f := .free "enumerate") rfl), He.free_ok X G (c.t.d.fact 5 (f := .free "int") rfl), He.free_ok X G (c.t.d.fact 6 (f := .free "isinstance") rfl), He.free_ok X G (c.t.d.fact 7 (f := .free "len") rfl), He.free_ok X G (c.t.d.fact 8 (f := .free "list") rfl), He.free_ok X G (c.t.d.fact 9 (f := .free "max") rfl), He.free_ok X G (c.t.d.fact 10 (f := .free "min") rfl), He.free_ok X G (c.t.d.fact 11 (f := .free "range") rfl), He.free_ok X G (c.t.d.fact 12 (f := .free "sorted") rfl), He.free_ok X G (c.t.d.fact 13 (f := .free "str") rfl), He.free_ok X G (c.t.d.fact 14 (f := .free "sum") rfl), He.free_ok X G (c.t.d.fact 15 (f := .free "tuple") rfl), He.free_ok X G (c.t.d.fact 16 (f := .free "zip") rfl), He.free_ok X G (c.t.d.fact 17 (f := .free "bool") rfl), He.free_ok X G (c.t.d.fact 18 (f := .free "set") rfl)⟩
  obtain ⟨t_LETTERS_books, c_LETTERS_books⟩ := He.str_ok X G (c.t.d.fact 19 (f := .str "LETTERS_books" "abcdefghijklmnopqrstuvwxyz") rfl)
  obtain ⟨t_MOST_SIGNS_books, c_MOST_SIGNS_books⟩ := He.int_ok X G (c.t.d.fact 20 (f := .int "MOST_SIGNS_books" 3) rfl)
  obtain ⟨t_MOST_SYLLABLES, c_MOST_SYLLABLES⟩ := He.int_ok X G (c.t.d.fact 21 (f := .int "MOST_SYLLABLES" 8) rfl)
  obtain ⟨t_MOST_VERSES, c_MOST_VERSES⟩ := He.int_ok X G (c.t.d.fact 22 (f := .int "MOST_VERSES" 40) rfl)
  obtain ⟨t_LETTERS_hall, c_LETTERS_hall⟩ := He.str_ok X G (c.t.d.fact 23 (f := .str "LETTERS_hall" "abcdefghijklmnopqrstuvwxyz") rfl)
  obtain ⟨t_MOST_NAMED, c_MOST_NAMED⟩ := He.int_ok X G (c.t.d.fact 24 (f := .int "MOST_NAMED" 8) rfl)
  obtain ⟨t_MOST_SIGNS_hall, c_MOST_SIGNS_hall⟩ := He.int_ok X G (c.t.d.fact 25 (f := .int "MOST_SIGNS_hall" 8) rfl)
  have z_BadBook := He.exc_ok (c.t.d.fact 26 (f := .exc "BadBook") rfl)
  have X_BadBook : Xc K mg "BadBook" (He.ga K "BadBook") := ⟨(He.glo_ok X G (c.t.d.fact 27 (f := .glo "BadBook") rfl)), z_BadBook.1, z_BadBook.2.1, z_BadBook.2.2.1, z_BadBook.2.2.2⟩
  obtain ⟨fd_BadVersed__initd_, F_BadVersed__initd_⟩ := c.t.d.def_ 0 (d := dd_BadVersed__initd_) rfl
  have F_BadVersed__initd_ : FunD K "__init__" "BadVerse.__init__" (defArgs s_BadVersed__initd_) (defBody s_BadVersed__initd_) (defScope s_BadVersed__initd_) [] [] (He.fAd K ("BadVerse", some "__init__")) fd_BadVersed__initd_ := F_BadVersed__initd_
  have z_BadVerse := xi_ok (x := "BadVerse") (ba c.more).1
  obtain ⟨fd_Aliked__initd_, F_Aliked__initd_⟩ := c.t.d.def_ 1 (d := dd_Aliked__initd_) rfl
  have F_Aliked__initd_ : FunD K "__init__" "Alike.__init__" (defArgs s_Aliked__initd_) (defBody s_Aliked__initd_) (defScope s_Aliked__initd_) [] [] (He.fAd K ("Alike", some "__init__")) fd_Aliked__initd_ := F_Aliked__initd_
  have z_Alike := xi_ok (x := "Alike") (ba (ba c.more).2).1
  have z_NoVerse := He.exc_ok (c.t.d.fact 33 (f := .exc "NoVerse") rfl)
  have X_NoVerse : Xc K mg "NoVerse" (He.ga K "NoVerse") := ⟨(He.glo_ok X G (c.t.d.fact 34 (f := .glo "NoVerse") rfl)), z_NoVerse.1, z_NoVerse.2.1, z_NoVerse.2.2.1, z_NoVerse.2.2.2⟩
  have z_BadName := He.exc_ok (c.t.d.fact 35 (f := .exc "BadName") rfl)
  have X_BadName : Xc K mg "BadName" (He.ga K "BadName") := ⟨(He.glo_ok X G (c.t.d.fact 36 (f := .glo "BadName") rfl)), z_BadName.1, z_BadName.2.1, z_BadName.2.2.1, z_BadName.2.2.2⟩
  have z_Full := He.exc_ok (c.t.d.fact 37 (f := .exc "Full") rfl)
  have X_Full : Xc K mg "Full" (He.ga K "Full") := ⟨(He.glo_ok X G (c.t.d.fact 38 (f := .glo "Full") rfl)), z_Full.1, z_Full.2.1, z_Full.2.2.1, z_Full.2.2.2⟩
  have z_Taken := He.exc_ok (c.t.d.fact 39 (f := .exc "Taken") rfl)
  have X_Taken : Xc K mg "Taken" (He.ga K "Taken") := ⟨(He.glo_ok X G (c.t.d.fact 40 (f := .glo "Taken") rfl)), z_Taken.1, z_Taken.2.1, z_Taken.2.2.1, z_Taken.2.2.2⟩
  have z_NoBook := He.exc_ok (c.t.d.fact 41 (f := .exc "NoBook") rfl)
  have X_NoBook : Xc K mg "NoBook" (He.ga K "NoBook") := ⟨(He.glo_ok X G (c.t.d.fact 42 (f := .glo "NoBook") rfl)), z_NoBook.1, z_NoBook.2.1, z_NoBook.2.2.1, z_NoBook.2.2.2⟩
  have z_SnatchError := He.exc_ok (c.t.d.fact 43 (f := .exc "SnatchError") rfl)
  have X_SnatchError : Xc K mg "SnatchError" (He.ga K "SnatchError") := ⟨(He.glo_ok X G (c.t.d.fact 44 (f := .glo "SnatchError") rfl)), z_SnatchError.1, z_SnatchError.2.1, z_SnatchError.2.2.1, z_SnatchError.2.2.2⟩
  have XF_Alike := xf_ok (x := "Alike") (ba (ba (ba c.more).2).2).1
  have XF_BadVerse := xf_ok (x := "BadVerse") (ba (ba (ba (ba c.more).2).2).2).1
  have XN_Alike_one := He.noat_ok (c.t.d.fact 31 (f := .noat "Alike" "one") rfl)
  have XN_Alike_other := He.noat_ok (c.t.d.fact 32 (f := .noat "Alike" "other") rfl)
  have XN_BadVerse_row := He.noat_ok (c.t.d.fact 29 (f := .noat "BadVerse" "row") rfl)
  have E_Alike_Alike : PySem.W.exmOne K (.ref (He.ga K "Alike")) (.ref (He.ga K "Alike")) = some true := He.exm_ok (c.t.d.fact 45 (f := .exm "Alike" "Alike" true) rfl)
  have E_Alike_BadBook : PySem.W.exmOne K (.ref (He.ga K "Alike")) (.ref (He.ga K "BadBook")) = some false := He.exm_ok (c.t.d.fact 46 (f := .exm "Alike" "BadBook" false) rfl)
  have E_Alike_BadVerse : PySem.W.exmOne K (.ref (He.ga K "Alike")) (.ref (He.ga K "BadVerse")) = some false := He.exm_ok (c.t.d.fact 47 (f := .exm "Alike" "BadVerse" false) rfl)
  have E_BadBook_BadBook : PySem.W.exmOne K (.ref (He.ga K "BadBook")) (.ref (He.ga K "BadBook")) = some true := He.exm_ok (c.t.d.fact 48 (f := .exm "BadBook" "BadBook" true) rfl)
  have E_BadName_Alike : PySem.W.exmOne K (.ref (He.ga K "BadName")) (.ref (He.ga K "Alike")) = some false := He.exm_ok (c.t.d.fact 49 (f := .exm "BadName" "Alike" false) rfl)
  have E_BadName_BadBook : PySem.W.exmOne K (.ref (He.ga K "BadName")) (.ref (He.ga K "BadBook")) = some false := He.exm_ok (c.t.d.fact 50 (f := .exm "BadName" "BadBook" false) rfl)
  have E_BadName_BadVerse : PySem.W.exmOne K (.ref (He.ga K "BadName")) (.ref (He.ga K "BadVerse")) = some false := He.exm_ok (c.t.d.fact 51 (f := .exm "BadName" "BadVerse" false) rfl)
  have E_BadName_SnatchError : PySem.W.exmOne K (.ref (He.ga K "BadName")) (.ref (He.ga K "SnatchError")) = some true := He.exm_ok (c.t.d.fact 52 (f := .exm "BadName" "SnatchError" true) rfl)
  have E_BadVerse_BadBook : PySem.W.exmOne K (.ref (He.ga K "BadVerse")) (.ref (He.ga K "BadBook")) = some false := He.exm_ok (c.t.d.fact 53 (f := .exm "BadVerse" "BadBook" false) rfl)
  have E_BadVerse_BadVerse : PySem.W.exmOne K (.ref (He.ga K "BadVerse")) (.ref (He.ga K "BadVerse")) = some true := He.exm_ok (c.t.d.fact 54 (f := .exm "BadVerse" "BadVerse" true) rfl)
  have E_Full_Alike : PySem.W.exmOne K (.ref (He.ga K "Full")) (.ref (He.ga K "Alike")) = some false := He.exm_ok (c.t.d.fact 55 (f := .exm "Full" "Alike" false) rfl)
  have E_Full_BadBook : PySem.W.exmOne K (.ref (He.ga K "Full")) (.ref (He.ga K "BadBook")) = some false := He.exm_ok (c.t.d.fact 56 (f := .exm "Full" "BadBook" false) rfl)
  have E_Full_BadVerse : PySem.W.exmOne K (.ref (He.ga K "Full")) (.ref (He.ga K "BadVerse")) = some false := He.exm_ok (c.t.d.fact 57 (f := .exm "Full" "BadVerse" false) rfl)
  have E_Full_SnatchError : PySem.W.exmOne K (.ref (He.ga K "Full")) (.ref (He.ga K "SnatchError")) = some true := He.exm_ok (c.t.d.fact 58 (f := .exm "Full" "SnatchError" true) rfl)
  have E_Taken_Alike : PySem.W.exmOne K (.ref (He.ga K "Taken")) (.ref (He.ga K "Alike")) = some false := He.exm_ok (c.t.d.fact 59 (f := .exm "Taken" "Alike" false) rfl)
  have E_Taken_BadBook : PySem.W.exmOne K (.ref (He.ga K "Taken")) (.ref (He.ga K "BadBook")) = some false := He.exm_ok (c.t.d.fact 60 (f := .exm "Taken" "BadBook" false) rfl)
  have E_Taken_BadVerse : PySem.W.exmOne K (.ref (He.ga K "Taken")) (.ref (He.ga K "BadVerse")) = some false := He.exm_ok (c.t.d.fact 61 (f := .exm "Taken" "BadVerse" false) rfl)
  have E_Taken_SnatchError : PySem.W.exmOne K (.ref (He.ga K "Taken")) (.ref (He.ga K "SnatchError")) = some true := He.exm_ok (c.t.d.fact 62 (f := .exm "Taken" "SnatchError" true) rfl)
  have T_Book : TBook K mg (He.ga K "Book") := ⟨He.cls_ok (c.t.d.fact 63 (f := .cls "Book") rfl), (He.glo_ok X G (c.t.d.fact 64 (f := .glo "Book") rfl)), He.noat_ok (c.t.d.fact 65 (f := .noat "Book" "lines") rfl)⟩
  have T_Hall : THall K mg (He.ga K "Hall") := ⟨He.cls_ok (c.t.d.fact 66 (f := .cls "Hall") rfl), (He.glo_ok X G (c.t.d.fact 67 (f := .glo "Hall") rfl)), He.noat_ok (c.t.d.fact 68 (f := .noat "Hall" "shelf") rfl), He.noat_ok (c.t.d.fact 69 (f := .noat "Hall" "floor") rfl), He.noat_ok (c.t.d.fact 70 (f := .noat "Hall" "done") rfl), He.noat_ok (c.t.d.fact 71 (f := .noat "Hall" "undone") rfl)⟩
  obtain ⟨fd__law_numbers, F__law_numbers⟩ := c.t.d.def_ 2 (d := dd__law_numbers) rfl
  have F__law_numbers : FunD K "_law_numbers" "_law_numbers" (defArgs s__law_numbers) (defBody s__law_numbers) (defScope s__law_numbers) [] [] (He.fAd K ("_law_numbers", none)) fd__law_numbers := F__law_numbers
  have D__law_numbers : Df K mg "_law_numbers" s__law_numbers ["_law_script", "_law_many"] := ⟨He.fAd K ("_law_numbers", none), fd__law_numbers, (He.glo_ok X G (c.t.d.fact 72 (f := .glo "_law_numbers") rfl)), fun_ofD F__law_numbers, (FunD.bindsN (ps := ["_law_script", "_law_many"]) F__law_numbers fun _ _ _ _ _ _ us hl => match us, hl with | [_, _], _ => rfl)⟩
  obtain ⟨fd__law_same, F__law_same⟩ := c.t.d.def_ 3 (d := dd__law_same) rfl
  have F__law_same : FunD K "_law_same" "_law_same" (defArgs s__law_same) (defBody s__law_same) (defScope s__law_same) [] [] (He.fAd K ("_law_same", none)) fd__law_same := F__law_same
  have D__law_same : Df K mg "_law_same" s__law_same ["_law_found", "_law_due"] := ⟨He.fAd K ("_law_same", none), fd__law_same, (He.glo_ok X G (c.t.d.fact 73 (f := .glo "_law_same") rfl)), fun_ofD F__law_same, (FunD.bindsN (ps := ["_law_found", "_law_due"]) F__law_same fun _ _ _ _ _ _ us hl => match us, hl with | [_, _], _ => rfl)⟩
  obtain ⟨fd_is_syllable, F_is_syllable⟩ := c.t.d.def_ 4 (d := dd_is_syllable) rfl
  have F_is_syllable : FunD K "is_syllable" "is_syllable" (defArgs s_is_syllable) (defBody s_is_syllable) (defScope s_is_syllable) [] [] (He.fAd K ("is_syllable", none)) fd_is_syllable := F_is_syllable
  have D_is_syllable : Df K mg "is_syllable" s_is_syllable ["text"] := ⟨He.fAd K ("is_syllable", none), fd_is_syllable, (He.glo_ok X G (c.t.d.fact 74 (f := .glo "is_syllable") rfl)), fun_ofD F_is_syllable, (FunD.bindsN (ps := ["text"]) F_is_syllable fun _ _ _ _ _ _ us hl => match us, hl with | [_], _ => rfl)⟩
  obtain ⟨fd_is_verse, F_is_verse⟩ := c.t.d.def_ 5 (d := dd_is_verse) rfl
  have F_is_verse : FunD K "is_verse" "is_verse" (defArgs s_is_verse) (defBody s_is_verse) (defScope s_is_verse) [] [] (He.fAd K ("is_verse", none)) fd_is_verse := F_is_verse
  have D_is_verse : Df K mg "is_verse" s_is_verse ["line"] := ⟨He.fAd K ("is_verse", none), fd_is_verse, (He.glo_ok X G (c.t.d.fact 75 (f := .glo "is_verse") rfl)), fun_ofD F_is_verse, (FunD.bindsN (ps := ["line"]) F_is_verse fun _ _ _ _ _ _ us hl => match us, hl with | [_], _ => rfl)⟩
  obtain ⟨fd_begins, F_begins⟩ := c.t.d.def_ 6 (d := dd_begins) rfl
  have F_begins : FunD K "begins" "begins" (defArgs s_begins) (defBody s_begins) (defScope s_begins) [] [] (He.fAd K ("begins", none)) fd_begins := F_begins
  have D_begins : Df K mg "begins" s_begins ["heard", "line"] := ⟨He.fAd K ("begins", none), fd_begins, (He.glo_ok X G (c.t.d.fact 76 (f := .glo "begins") rfl)), fun_ofD F_begins, (FunD.bindsN (ps := ["heard", "line"]) F_begins fun _ _ _ _ _ _ us hl => match us, hl with | [_, _], _ => rfl)⟩
  obtain ⟨fd_alike, F_alike⟩ := c.t.d.def_ 7 (d := dd_alike) rfl
  have F_alike : FunD K "alike" "alike" (defArgs s_alike) (defBody s_alike) (defScope s_alike) [] [] (He.fAd K ("alike", none)) fd_alike := F_alike
  have D_alike : Df K mg "alike" s_alike ["one", "other"] := ⟨He.fAd K ("alike", none), fd_alike, (He.glo_ok X G (c.t.d.fact 77 (f := .glo "alike") rfl)), fun_ofD F_alike, (FunD.bindsN (ps := ["one", "other"]) F_alike fun _ _ _ _ _ _ us hl => match us, hl with | [_, _], _ => rfl)⟩
  obtain ⟨fd_need_verses, F_need_verses⟩ := c.t.d.def_ 8 (d := dd_need_verses) rfl
  have F_need_verses : FunD K "need_verses" "need_verses" (defArgs s_need_verses) (defBody s_need_verses) (defScope s_need_verses) [] [] (He.fAd K ("need_verses", none)) fd_need_verses := F_need_verses
  have D_need_verses : Df K mg "need_verses" s_need_verses ["verses"] := ⟨He.fAd K ("need_verses", none), fd_need_verses, (He.glo_ok X G (c.t.d.fact 78 (f := .glo "need_verses") rfl)), fun_ofD F_need_verses, (FunD.bindsN (ps := ["verses"]) F_need_verses fun _ _ _ _ _ _ us hl => match us, hl with | [_], _ => rfl)⟩
  obtain ⟨fd_Bookd__initd_, F_Bookd__initd_⟩ := c.t.d.def_ 9 (d := dd_Bookd__initd_) rfl
  have F_Bookd__initd_ : FunD K "__init__" "Book.__init__" (defArgs s_Bookd__initd_) (defBody s_Bookd__initd_) (defScope s_Bookd__initd_) [] [] (He.fAd K ("Book", some "__init__")) fd_Bookd__initd_ := F_Bookd__initd_
  have D_Bookd__initd_ : Dm K (He.ga K "Book") "__init__" "Book.__init__" s_Bookd__initd_ ["self", "verses"] := ⟨T_Book.cl, He.fAd K ("Book", some "__init__"), fd_Bookd__initd_, He.meth_ok (c.t.d.fact 79 (f := .meth "Book" "__init__") rfl), fun_ofD F_Bookd__initd_, (FunD.bindsN (ps := ["self", "verses"]) F_Bookd__initd_ fun _ _ _ _ _ _ us hl => match us, hl with | [_, _], _ => rfl)⟩
  obtain ⟨fd_Book_many, F_Book_many⟩ := c.t.d.def_ 10 (d := dd_Book_many) rfl
  have F_Book_many : FunD K "many" "Book.many" (defArgs s_Book_many) (defBody s_Book_many) (defScope s_Book_many) [] [] (He.fAd K ("Book", some "many")) fd_Book_many := F_Book_many
  have D_Book_many : Dm K (He.ga K "Book") "many" "Book.many" s_Book_many ["self"] := ⟨T_Book.cl, He.fAd K ("Book", some "many"), fd_Book_many, He.meth_ok (c.t.d.fact 80 (f := .meth "Book" "many") rfl), fun_ofD F_Book_many, (FunD.bindsN (ps := ["self"]) F_Book_many fun _ _ _ _ _ _ us hl => match us, hl with | [_], _ => rfl)⟩
  obtain ⟨fd_Book_verse, F_Book_verse⟩ := c.t.d.def_ 11 (d := dd_Book_verse) rfl
  have F_Book_verse : FunD K "verse" "Book.verse" (defArgs s_Book_verse) (defBody s_Book_verse) (defScope s_Book_verse) [] [] (He.fAd K ("Book", some "verse")) fd_Book_verse := F_Book_verse
  have D_Book_verse : Dm K (He.ga K "Book") "verse" "Book.verse" s_Book_verse ["self", "number"] := ⟨T_Book.cl, He.fAd K ("Book", some "verse"), fd_Book_verse, He.meth_ok (c.t.d.fact 81 (f := .meth "Book" "verse") rfl), fun_ofD F_Book_verse, (FunD.bindsN (ps := ["self", "number"]) F_Book_verse fun _ _ _ _ _ _ us hl => match us, hl with | [_, _], _ => rfl)⟩
  obtain ⟨fd_Book_verses, F_Book_verses⟩ := c.t.d.def_ 12 (d := dd_Book_verses) rfl
  have F_Book_verses : FunD K "verses" "Book.verses" (defArgs s_Book_verses) (defBody s_Book_verses) (defScope s_Book_verses) [] [] (He.fAd K ("Book", some "verses")) fd_Book_verses := F_Book_verses
  have D_Book_verses : Dm K (He.ga K "Book") "verses" "Book.verses" s_Book_verses ["self"] := ⟨T_Book.cl, He.fAd K ("Book", some "verses"), fd_Book_verses, He.meth_ok (c.t.d.fact 82 (f := .meth "Book" "verses") rfl), fun_ofD F_Book_verses, (FunD.bindsN (ps := ["self"]) F_Book_verses fun _ _ _ _ _ _ us hl => match us, hl with | [_], _ => rfl)⟩
  obtain ⟨fd__law_sound, F__law_sound⟩ := c.t.d.def_ 13 (d := dd__law_sound) rfl
  have F__law_sound : FunD K "_law_sound" "_law_sound" (defArgs s__law_sound) (defBody s__law_sound) (defScope s__law_sound) [] [] (He.fAd K ("_law_sound", none)) fd__law_sound := F__law_sound
  have D__law_sound : Df K mg "_law_sound" s__law_sound ["_law_number"] := ⟨He.fAd K ("_law_sound", none), fd__law_sound, (He.glo_ok X G (c.t.d.fact 83 (f := .glo "_law_sound") rfl)), fun_ofD F__law_sound, (FunD.bindsN (ps := ["_law_number"]) F__law_sound fun _ _ _ _ _ _ us hl => match us, hl with | [_], _ => rfl)⟩
  obtain ⟨fd__law_pool, F__law_pool⟩ := c.t.d.def_ 14 (d := dd__law_pool) rfl
  have F__law_pool : FunD K "_law_pool" "_law_pool" (defArgs s__law_pool) (defBody s__law_pool) (defScope s__law_pool) [] [] (He.fAd K ("_law_pool", none)) fd__law_pool := F__law_pool
  have D__law_pool : Df K mg "_law_pool" s__law_pool ["_law_d"] := ⟨He.fAd K ("_law_pool", none), fd__law_pool, (He.glo_ok X G (c.t.d.fact 84 (f := .glo "_law_pool") rfl)), fun_ofD F__law_pool, (FunD.bindsN (ps := ["_law_d"]) F__law_pool fun _ _ _ _ _ _ us hl => match us, hl with | [_], _ => rfl)⟩
  obtain ⟨fd__law_alike, F__law_alike⟩ := c.t.d.def_ 15 (d := dd__law_alike) rfl
  have F__law_alike : FunD K "_law_alike" "_law_alike" (defArgs s__law_alike) (defBody s__law_alike) (defScope s__law_alike) [] [] (He.fAd K ("_law_alike", none)) fd__law_alike := F__law_alike
  have D__law_alike : Df K mg "_law_alike" s__law_alike ["_law_one", "_law_other"] := ⟨He.fAd K ("_law_alike", none), fd__law_alike, (He.glo_ok X G (c.t.d.fact 85 (f := .glo "_law_alike") rfl)), fun_ofD F__law_alike, (FunD.bindsN (ps := ["_law_one", "_law_other"]) F__law_alike fun _ _ _ _ _ _ us hl => match us, hl with | [_, _], _ => rfl)⟩
  obtain ⟨fd__law_verse, F__law_verse⟩ := c.t.d.def_ 16 (d := dd__law_verse) rfl
  have F__law_verse : FunD K "_law_verse" "_law_verse" (defArgs s__law_verse) (defBody s__law_verse) (defScope s__law_verse) [] [] (He.fAd K ("_law_verse", none)) fd__law_verse := F__law_verse
  have D__law_verse : Df K mg "_law_verse" s__law_verse ["_law_verses", "_law_pool_here", "_law_d"] := ⟨He.fAd K ("_law_verse", none), fd__law_verse, (He.glo_ok X G (c.t.d.fact 86 (f := .glo "_law_verse") rfl)), fun_ofD F__law_verse, (FunD.bindsN (ps := ["_law_verses", "_law_pool_here", "_law_d"]) F__law_verse fun _ _ _ _ _ _ us hl => match us, hl with | [_, _, _], _ => rfl)⟩
  obtain ⟨fd__law_wide, F__law_wide⟩ := c.t.d.def_ 17 (d := dd__law_wide) rfl
  have F__law_wide : FunD K "_law_wide" "_law_wide" (defArgs s__law_wide) (defBody s__law_wide) (defScope s__law_wide) [] [] (He.fAd K ("_law_wide", none)) fd__law_wide := F__law_wide
  have D__law_wide : Df K mg "_law_wide" s__law_wide ["_law_d", "_law_size"] := ⟨He.fAd K ("_law_wide", none), fd__law_wide, (He.glo_ok X G (c.t.d.fact 87 (f := .glo "_law_wide") rfl)), fun_ofD F__law_wide, (FunD.bindsN (ps := ["_law_d", "_law_size"]) F__law_wide fun _ _ _ _ _ _ us hl => match us, hl with | [_, _], _ => rfl)⟩
  obtain ⟨fd__law_book, F__law_book⟩ := c.t.d.def_ 18 (d := dd__law_book) rfl
  have F__law_book : FunD K "_law_book" "_law_book" (defArgs s__law_book) (defBody s__law_book) (defScope s__law_book) [] [] (He.fAd K ("_law_book", none)) fd__law_book := F__law_book
  have D__law_book : Df K mg "_law_book" s__law_book ["_law_d", "_law_most"] := ⟨He.fAd K ("_law_book", none), fd__law_book, (He.glo_ok X G (c.t.d.fact 88 (f := .glo "_law_book") rfl)), fun_ofD F__law_book, (FunD.bindsN (ps := ["_law_d", "_law_most"]) F__law_book fun _ _ _ _ _ _ us hl => match us, hl with | [_, _], _ => rfl)⟩
  obtain ⟨fd__law_book_told, F__law_book_told⟩ := c.t.d.def_ 19 (d := dd__law_book_told) rfl
  have F__law_book_told : FunD K "_law_book_told" "_law_book_told" (defArgs s__law_book_told) (defBody s__law_book_told) (defScope s__law_book_told) [] [] (He.fAd K ("_law_book_told", none)) fd__law_book_told := F__law_book_told
  have D__law_book_told : Df K mg "_law_book_told" s__law_book_told ["_law_book_here", "_law_verses"] := ⟨He.fAd K ("_law_book_told", none), fd__law_book_told, (He.glo_ok X G (c.t.d.fact 89 (f := .glo "_law_book_told") rfl)), fun_ofD F__law_book_told, (FunD.bindsN (ps := ["_law_book_here", "_law_verses"]) F__law_book_told fun _ _ _ _ _ _ us hl => match us, hl with | [_, _], _ => rfl)⟩
  obtain ⟨fd__law_is_line, F__law_is_line⟩ := c.t.d.def_ 20 (d := dd__law_is_line) rfl
  have F__law_is_line : FunD K "_law_is_line" "_law_is_line" (defArgs s__law_is_line) (defBody s__law_is_line) (defScope s__law_is_line) [] [] (He.fAd K ("_law_is_line", none)) fd__law_is_line := F__law_is_line
  have D__law_is_line : Df K mg "_law_is_line" s__law_is_line ["_law_line"] := ⟨He.fAd K ("_law_is_line", none), fd__law_is_line, (He.glo_ok X G (c.t.d.fact 90 (f := .glo "_law_is_line") rfl)), fun_ofD F__law_is_line, (FunD.bindsN (ps := ["_law_line"]) F__law_is_line fun _ _ _ _ _ _ us hl => match us, hl with | [_], _ => rfl)⟩
  obtain ⟨fd__law_book_bad, F__law_book_bad⟩ := c.t.d.def_ 21 (d := dd__law_book_bad) rfl
  have F__law_book_bad : FunD K "_law_book_bad" "_law_book_bad" (defArgs s__law_book_bad) (defBody s__law_book_bad) (defScope s__law_book_bad) [] [] (He.fAd K ("_law_book_bad", none)) fd__law_book_bad := F__law_book_bad
  have D__law_book_bad : Df K mg "_law_book_bad" s__law_book_bad ["_law_verses"] := ⟨He.fAd K ("_law_book_bad", none), fd__law_book_bad, (He.glo_ok X G (c.t.d.fact 91 (f := .glo "_law_book_bad") rfl)), fun_ofD F__law_book_bad, (FunD.bindsN (ps := ["_law_verses"]) F__law_book_bad fun _ _ _ _ _ _ us hl => match us, hl with | [_], _ => rfl)⟩
  obtain ⟨fd__law_spoilt_book, F__law_spoilt_book⟩ := c.t.d.def_ 22 (d := dd__law_spoilt_book) rfl
  have F__law_spoilt_book : FunD K "_law_spoilt_book" "_law_spoilt_book" (defArgs s__law_spoilt_book) (defBody s__law_spoilt_book) (defScope s__law_spoilt_book) [] [] (He.fAd K ("_law_spoilt_book", none)) fd__law_spoilt_book := F__law_spoilt_book
  have D__law_spoilt_book : Df K mg "_law_spoilt_book" s__law_spoilt_book ["_law_verses", "_law_d"] := ⟨He.fAd K ("_law_spoilt_book", none), fd__law_spoilt_book, (He.glo_ok X G (c.t.d.fact 92 (f := .glo "_law_spoilt_book") rfl)), fun_ofD F__law_spoilt_book, (FunD.bindsN (ps := ["_law_verses", "_law_d"]) F__law_spoilt_book fun _ _ _ _ _ _ us hl => match us, hl with | [_, _], _ => rfl)⟩
  obtain ⟨fd__law_copy, F__law_copy⟩ := c.t.d.def_ 23 (d := dd__law_copy) rfl
  have F__law_copy : FunD K "_law_copy" "_law_copy" (defArgs s__law_copy) (defBody s__law_copy) (defScope s__law_copy) [] [] (He.fAd K ("_law_copy", none)) fd__law_copy := F__law_copy
  have D__law_copy : Df K mg "_law_copy" s__law_copy ["_law_rows"] := ⟨He.fAd K ("_law_copy", none), fd__law_copy, (He.glo_ok X G (c.t.d.fact 93 (f := .glo "_law_copy") rfl)), fun_ofD F__law_copy, (FunD.bindsN (ps := ["_law_rows"]) F__law_copy fun _ _ _ _ _ _ us hl => match us, hl with | [_], _ => rfl)⟩
  obtain ⟨fd_need_new, F_need_new⟩ := c.t.d.def_ 24 (d := dd_need_new) rfl
  have F_need_new : FunD K "need_new" "need_new" (defArgs s_need_new) (defBody s_need_new) (defScope s_need_new) [] [] (He.fAd K ("need_new", none)) fd_need_new := F_need_new
  have D_need_new : Df K mg "need_new" s_need_new ["named", "name"] := ⟨He.fAd K ("need_new", none), fd_need_new, (He.glo_ok X G (c.t.d.fact 94 (f := .glo "need_new") rfl)), fun_ofD F_need_new, (FunD.bindsN (ps := ["named", "name"]) F_need_new fun _ _ _ _ _ _ us hl => match us, hl with | [_, _], _ => rfl)⟩
  obtain ⟨fd_copied_rows, F_copied_rows⟩ := c.t.d.def_ 25 (d := dd_copied_rows) rfl
  have F_copied_rows : FunD K "copied_rows" "copied_rows" (defArgs s_copied_rows) (defBody s_copied_rows) (defScope s_copied_rows) [] [] (He.fAd K ("copied_rows", none)) fd_copied_rows := F_copied_rows
  have D_copied_rows : Df K mg "copied_rows" s_copied_rows ["rows"] := ⟨He.fAd K ("copied_rows", none), fd_copied_rows, (He.glo_ok X G (c.t.d.fact 95 (f := .glo "copied_rows") rfl)), fun_ofD F_copied_rows, (FunD.bindsN (ps := ["rows"]) F_copied_rows fun _ _ _ _ _ _ us hl => match us, hl with | [_], _ => rfl)⟩
  obtain ⟨fd_copied_deed, F_copied_deed⟩ := c.t.d.def_ 26 (d := dd_copied_deed) rfl
  have F_copied_deed : FunD K "copied_deed" "copied_deed" (defArgs s_copied_deed) (defBody s_copied_deed) (defScope s_copied_deed) [] [] (He.fAd K ("copied_deed", none)) fd_copied_deed := F_copied_deed
  have D_copied_deed : Df K mg "copied_deed" s_copied_deed ["deed"] := ⟨He.fAd K ("copied_deed", none), fd_copied_deed, (He.glo_ok X G (c.t.d.fact 96 (f := .glo "copied_deed") rfl)), fun_ofD F_copied_deed, (FunD.bindsN (ps := ["deed"]) F_copied_deed fun _ _ _ _ _ _ us hl => match us, hl with | [_], _ => rfl)⟩
  obtain ⟨fd_Halld__initd_, F_Halld__initd_⟩ := c.t.d.def_ 27 (d := dd_Halld__initd_) rfl
  have F_Halld__initd_ : FunD K "__init__" "Hall.__init__" (defArgs s_Halld__initd_) (defBody s_Halld__initd_) (defScope s_Halld__initd_) [] [] (He.fAd K ("Hall", some "__init__")) fd_Halld__initd_ := F_Halld__initd_
  have D_Halld__initd_ : Dm K (He.ga K "Hall") "__init__" "Hall.__init__" s_Halld__initd_ ["self"] := ⟨T_Hall.cl, He.fAd K ("Hall", some "__init__"), fd_Halld__initd_, He.meth_ok (c.t.d.fact 97 (f := .meth "Hall" "__init__") rfl), fun_ofD F_Halld__initd_, (FunD.bindsN (ps := ["self"]) F_Halld__initd_ fun _ _ _ _ _ _ us hl => match us, hl with | [_], _ => rfl)⟩
  obtain ⟨fd_Hall_books, F_Hall_books⟩ := c.t.d.def_ 28 (d := dd_Hall_books) rfl
  have F_Hall_books : FunD K "books" "Hall.books" (defArgs s_Hall_books) (defBody s_Hall_books) (defScope s_Hall_books) [] [] (He.fAd K ("Hall", some "books")) fd_Hall_books := F_Hall_books
  have D_Hall_books : Dm K (He.ga K "Hall") "books" "Hall.books" s_Hall_books ["self"] := ⟨T_Hall.cl, He.fAd K ("Hall", some "books"), fd_Hall_books, He.meth_ok (c.t.d.fact 98 (f := .meth "Hall" "books") rfl), fun_ofD F_Hall_books, (FunD.bindsN (ps := ["self"]) F_Hall_books fun _ _ _ _ _ _ us hl => match us, hl with | [_], _ => rfl)⟩
  obtain ⟨fd_Hall_book, F_Hall_book⟩ := c.t.d.def_ 29 (d := dd_Hall_book) rfl
  have F_Hall_book : FunD K "book" "Hall.book" (defArgs s_Hall_book) (defBody s_Hall_book) (defScope s_Hall_book) [] [] (He.fAd K ("Hall", some "book")) fd_Hall_book := F_Hall_book
  have D_Hall_book : Dm K (He.ga K "Hall") "book" "Hall.book" s_Hall_book ["self", "name"] := ⟨T_Hall.cl, He.fAd K ("Hall", some "book"), fd_Hall_book, He.meth_ok (c.t.d.fact 99 (f := .meth "Hall" "book") rfl), fun_ofD F_Hall_book, (FunD.bindsN (ps := ["self", "name"]) F_Hall_book fun _ _ _ _ _ _ us hl => match us, hl with | [_, _], _ => rfl)⟩
  obtain ⟨fd_Hall_become, F_Hall_become⟩ := c.t.d.def_ 30 (d := dd_Hall_become) rfl
  have F_Hall_become : FunD K "become" "Hall.become" (defArgs s_Hall_become) (defBody s_Hall_become) (defScope s_Hall_become) [] [] (He.fAd K ("Hall", some "become")) fd_Hall_become := F_Hall_become
  have D_Hall_become : Dm K (He.ga K "Hall") "become" "Hall.become" s_Hall_become ["self", "deed", "shelf", "floor"] := ⟨T_Hall.cl, He.fAd K ("Hall", some "become"), fd_Hall_become, He.meth_ok (c.t.d.fact 100 (f := .meth "Hall" "become") rfl), fun_ofD F_Hall_become, (FunD.bindsN (ps := ["self", "deed", "shelf", "floor"]) F_Hall_become fun _ _ _ _ _ _ us hl => match us, hl with | [_, _, _, _], _ => rfl)⟩
  obtain ⟨fd_Hall_shelve, F_Hall_shelve⟩ := c.t.d.def_ 31 (d := dd_Hall_shelve) rfl
  have F_Hall_shelve : FunD K "shelve" "Hall.shelve" (defArgs s_Hall_shelve) (defBody s_Hall_shelve) (defScope s_Hall_shelve) [] [] (He.fAd K ("Hall", some "shelve")) fd_Hall_shelve := F_Hall_shelve
  have D_Hall_shelve : Dm K (He.ga K "Hall") "shelve" "Hall.shelve" s_Hall_shelve ["self", "name", "verses"] := ⟨T_Hall.cl, He.fAd K ("Hall", some "shelve"), fd_Hall_shelve, He.meth_ok (c.t.d.fact 101 (f := .meth "Hall" "shelve") rfl), fun_ofD F_Hall_shelve, (FunD.bindsN (ps := ["self", "name", "verses"]) F_Hall_shelve fun _ _ _ _ _ _ us hl => match us, hl with | [_, _, _], _ => rfl)⟩
  obtain ⟨fd_Hall_deeds, F_Hall_deeds⟩ := c.t.d.def_ 32 (d := dd_Hall_deeds) rfl
  have F_Hall_deeds : FunD K "deeds" "Hall.deeds" (defArgs s_Hall_deeds) (defBody s_Hall_deeds) (defScope s_Hall_deeds) [] [] (He.fAd K ("Hall", some "deeds")) fd_Hall_deeds := F_Hall_deeds
  have D_Hall_deeds : Dm K (He.ga K "Hall") "deeds" "Hall.deeds" s_Hall_deeds ["self"] := ⟨T_Hall.cl, He.fAd K ("Hall", some "deeds"), fd_Hall_deeds, He.meth_ok (c.t.d.fact 102 (f := .meth "Hall" "deeds") rfl), fun_ofD F_Hall_deeds, (FunD.bindsN (ps := ["self"]) F_Hall_deeds fun _ _ _ _ _ _ us hl => match us, hl with | [_], _ => rfl)⟩
  obtain ⟨fd__law_why_shelf, F__law_why_shelf⟩ := c.t.d.def_ 33 (d := dd__law_why_shelf) rfl
  have F__law_why_shelf : FunD K "_law_why_shelf" "_law_why_shelf" (defArgs s__law_why_shelf) (defBody s__law_why_shelf) (defScope s__law_why_shelf) [] [] (He.fAd K ("_law_why_shelf", none)) fd__law_why_shelf := F__law_why_shelf
  have D__law_why_shelf : Df K mg "_law_why_shelf" s__law_why_shelf ["_law_hall", "_law_name_here", "_law_verses"] := ⟨He.fAd K ("_law_why_shelf", none), fd__law_why_shelf, (He.glo_ok X G (c.t.d.fact 103 (f := .glo "_law_why_shelf") rfl)), fun_ofD F__law_why_shelf, (FunD.bindsN (ps := ["_law_hall", "_law_name_here", "_law_verses"]) F__law_why_shelf fun _ _ _ _ _ _ us hl => match us, hl with | [_, _, _], _ => rfl)⟩
  obtain ⟨fd__law_name, F__law_name⟩ := c.t.d.def_ 34 (d := dd__law_name) rfl
  have F__law_name : FunD K "_law_name" "_law_name" (defArgs s__law_name) (defBody s__law_name) (defScope s__law_name) [] [] (He.fAd K ("_law_name", none)) fd__law_name := F__law_name
  have D__law_name : Df K mg "_law_name" s__law_name ["_law_number"] := ⟨He.fAd K ("_law_name", none), fd__law_name, (He.glo_ok X G (c.t.d.fact 104 (f := .glo "_law_name") rfl)), fun_ofD F__law_name, (FunD.bindsN (ps := ["_law_number"]) F__law_name fun _ _ _ _ _ _ us hl => match us, hl with | [_], _ => rfl)⟩
  obtain ⟨fd_law, F_law⟩ := c.t.d.def_ 35 (d := dd_law) rfl
  have F_law : FunD K "law" "law" (defArgs s_law) (defBody s_law) (defScope s_law) [] [] (He.fAd K ("law", none)) fd_law := F_law
  have D_law : Df K mg "law" s_law ["_law_script"] := ⟨He.fAd K ("law", none), fd_law, (He.glo_ok X G (c.t.d.fact 105 (f := .glo "law") rfl)), fun_ofD F_law, (FunD.bindsN (ps := ["_law_script"]) F_law fun _ _ _ _ _ _ us hl => match us, hl with | [_], _ => rfl)⟩
  have e := hfa.symm.trans (He.glo_ok X G (c.t.d.fact 105 (f := .glo "law") rfl))
  cases e
  refine ⟨fd_law, [], spLaw K, (fun _ h => nomatch h), (fun _ h => nomatch h), (fun _ h => nomatch h), fun s v => FunD.bindsA (ps := ["_law_script"]) F_law (fun _ _ _ _ _ _ us hl => match us, hl with | [_], _ => rfl) s [v] rfl, fun H a ns hl _ _ hS => ⟨a, ns, rfl, hS, hl, fun _ => rfl⟩, fun base _ _ _ => ?_⟩
  have X_BadVerse : Xi l.prog w K mg base "BadVerse" (He.ga K "BadVerse") ["row"] := ⟨(He.glo_ok X G (c.t.d.fact 28 (f := .glo "BadVerse") rfl)), z_BadVerse.1, _, fd_BadVersed__initd_, ["self", "row"], z_BadVerse.2.1, z_BadVerse.2.2, (FunD.bindsN (ps := ["self", "row"]) F_BadVersed__initd_ fun _ _ _ _ _ _ us hl => match us, hl with | [_, _], _ => rfl), okx_BadVerse z_BadVerse.1 (He.noat_ok (c.t.d.fact 29 (f := .noat "BadVerse" "row") rfl)) (fun_ofD F_BadVersed__initd_)⟩
  have X_Alike : Xi l.prog w K mg base "Alike" (He.ga K "Alike") ["one", "other"] := ⟨(He.glo_ok X G (c.t.d.fact 30 (f := .glo "Alike") rfl)), z_Alike.1, _, fd_Aliked__initd_, ["self", "one", "other"], z_Alike.2.1, z_Alike.2.2, (FunD.bindsN (ps := ["self", "one", "other"]) F_Aliked__initd_ fun _ _ _ _ _ _ us hl => match us, hl with | [_, _, _], _ => rfl), okx_Alike z_Alike.1 (He.noat_ok (c.t.d.fact 31 (f := .noat "Alike" "one") rfl)) (He.noat_ok (c.t.d.fact 32 (f := .noat "Alike" "other") rfl)) (fun_ofD F_Aliked__initd_)⟩
  have O__law_numbers := ok__law_numbers (P := l.prog) (w := w) (base := base) B D__law_numbers
  have O__law_same := ok__law_same (P := l.prog) (w := w) (base := base) B D__law_same
  have O_is_syllable := ok_is_syllable (P := l.prog) (w := w) (base := base) B c_LETTERS_books c_MOST_SIGNS_books D_is_syllable
  have O_is_verse := ok_is_verse (P := l.prog) (w := w) (base := base) B c_MOST_SYLLABLES O_is_syllable D_is_verse
  have O_begins := ok_begins (P := l.prog) (w := w) (base := base) B D_begins
  have O_alike := ok_alike (P := l.prog) (w := w) (base := base) B O_begins D_alike
  have O_need_verses := ok_need_verses (P := l.prog) (w := w) (base := base) (C_BadBook := (He.ga K "BadBook")) (C_BadVerse := (He.ga K "BadVerse")) (C_Alike := (He.ga K "Alike")) B c_MOST_VERSES X_BadBook X_BadVerse X_Alike O_is_verse O_alike D_need_verses
  have O_Bookd__initd_ := ok_Bookd__initd_ (P := l.prog) (w := w) (base := base) (C_Book := (He.ga K "Book")) B T_Book O_need_verses D_Bookd__initd_
  have O_Book := O_Bookd__initd_.make (He.glo_ok X G (c.t.d.fact 64 (f := .glo "Book") rfl)) (mkr_ok (c.t.d.fact 106 (f := .mkr "Book") rfl)).1 (mkr_ok (c.t.d.fact 106 (f := .mkr "Book") rfl)).2
  have O_Book_many := ok_Book_many (P := l.prog) (w := w) (base := base) (C_Book := (He.ga K "Book")) B T_Book D_Book_many
  have O_Book_verse := ok_Book_verse (P := l.prog) (w := w) (base := base) (C_Book := (He.ga K "Book")) (C_NoVerse := (He.ga K "NoVerse")) B T_Book X_NoVerse D_Book_verse
  have O_Book_verses := ok_Book_verses (P := l.prog) (w := w) (base := base) (C_Book := (He.ga K "Book")) B T_Book D_Book_verses
  have O__law_sound := ok__law_sound (P := l.prog) (w := w) (base := base) B D__law_sound
  have O__law_pool := ok__law_pool (P := l.prog) (w := w) (base := base) B O__law_sound D__law_pool
  have O__law_alike := ok__law_alike (P := l.prog) (w := w) (base := base) B D__law_alike
  have O__law_verse := ok__law_verse (P := l.prog) (w := w) (base := base) B D__law_verse
  have O__law_wide := ok__law_wide (P := l.prog) (w := w) (base := base) B D__law_wide
  have O__law_book := ok__law_book (P := l.prog) (w := w) (base := base) B O__law_pool O__law_verse O__law_wide O__law_alike D__law_book
  have O__law_book_told := ok__law_book_told (P := l.prog) (w := w) (base := base) (C_Book := (He.ga K "Book")) B O_Book_many O_Book_verse O_Book_verses O__law_same D__law_book_told
  have O__law_is_line := ok__law_is_line (P := l.prog) (w := w) (base := base) B D__law_is_line
  have O__law_book_bad := ok__law_book_bad (P := l.prog) (w := w) (base := base) B O__law_is_line O__law_alike D__law_book_bad
  have O__law_spoilt_book := ok__law_spoilt_book (P := l.prog) (w := w) (base := base) B D__law_spoilt_book
  have O__law_copy := ok__law_copy (P := l.prog) (w := w) (base := base) B D__law_copy
  have O_need_new := ok_need_new (P := l.prog) (w := w) (base := base) (C_BadName := (He.ga K "BadName")) (C_Full := (He.ga K "Full")) (C_Taken := (He.ga K "Taken")) B c_LETTERS_hall c_MOST_NAMED c_MOST_SIGNS_hall X_BadName X_Full X_Taken D_need_new
  have O_copied_rows := ok_copied_rows (P := l.prog) (w := w) (base := base) B D_copied_rows
  have O_copied_deed := ok_copied_deed (P := l.prog) (w := w) (base := base) B O_copied_rows D_copied_deed
  have O_Halld__initd_ := ok_Halld__initd_ (P := l.prog) (w := w) (base := base) (C_Book := (He.ga K "Book")) (C_Deal := (He.ga K "Deal")) (C_Hall := (He.ga K "Hall")) (C_Table := (He.ga K "Table")) B T_Hall D_Halld__initd_
  have O_Hall := O_Halld__initd_.make (He.glo_ok X G (c.t.d.fact 67 (f := .glo "Hall") rfl)) (mkr_ok (c.t.d.fact 107 (f := .mkr "Hall") rfl)).1 (mkr_ok (c.t.d.fact 107 (f := .mkr "Hall") rfl)).2
  have O_Hall_books := ok_Hall_books (P := l.prog) (w := w) (base := base) (C_Book := (He.ga K "Book")) (C_Deal := (He.ga K "Deal")) (C_Hall := (He.ga K "Hall")) (C_Table := (He.ga K "Table")) B T_Hall D_Hall_books
  have O_Hall_book := ok_Hall_book (P := l.prog) (w := w) (base := base) (C_Book := (He.ga K "Book")) (C_Deal := (He.ga K "Deal")) (C_Hall := (He.ga K "Hall")) (C_NoBook := (He.ga K "NoBook")) (C_Table := (He.ga K "Table")) B T_Hall X_NoBook D_Hall_book
  have O_Hall_become := ok_Hall_become (P := l.prog) (w := w) (base := base) (C_Book := (He.ga K "Book")) (C_Deal := (He.ga K "Deal")) (C_Hall := (He.ga K "Hall")) (C_Table := (He.ga K "Table")) B T_Hall O_copied_deed D_Hall_become
  have O_Hall_shelve := ok_Hall_shelve (P := l.prog) (w := w) (base := base) (C_Book := (He.ga K "Book")) (C_Deal := (He.ga K "Deal")) (C_Hall := (He.ga K "Hall")) (C_Table := (He.ga K "Table")) B T_Hall O_Book O_Hall_become O_need_new D_Hall_shelve
  have O_Hall_deeds := ok_Hall_deeds (P := l.prog) (w := w) (base := base) (C_Book := (He.ga K "Book")) (C_Deal := (He.ga K "Deal")) (C_Hall := (He.ga K "Hall")) (C_Table := (He.ga K "Table")) B T_Hall O_copied_deed D_Hall_deeds
  have O__law_why_shelf := ok__law_why_shelf (P := l.prog) (w := w) (base := base) (C_Alike := (He.ga K "Alike")) (C_BadBook := (He.ga K "BadBook")) (C_BadName := (He.ga K "BadName")) (C_BadVerse := (He.ga K "BadVerse")) (C_Book := (He.ga K "Book")) (C_Deal := (He.ga K "Deal")) (C_Full := (He.ga K "Full")) (C_Hall := (He.ga K "Hall")) (C_SnatchError := (He.ga K "SnatchError")) (C_Table := (He.ga K "Table")) (C_Taken := (He.ga K "Taken")) B X_BadBook X_BadName X_Full X_SnatchError X_Taken X_Alike X_BadVerse E_Alike_Alike E_Alike_BadBook E_Alike_BadVerse E_BadBook_BadBook E_BadName_Alike E_BadName_BadBook E_BadName_BadVerse E_BadName_SnatchError E_BadVerse_BadBook E_BadVerse_BadVerse E_Full_Alike E_Full_BadBook E_Full_BadVerse E_Full_SnatchError E_Taken_Alike E_Taken_BadBook E_Taken_BadVerse E_Taken_SnatchError XF_Alike XF_BadVerse XN_Alike_one XN_Alike_other XN_BadVerse_row O_Hall_shelve D__law_why_shelf
  have O__law_name := ok__law_name (P := l.prog) (w := w) (base := base) B D__law_name
  have O_law := ok_law (P := l.prog) (w := w) (base := base) (C_Book := (He.ga K "Book")) (C_Deal := (He.ga K "Deal")) (C_Hall := (He.ga K "Hall")) (C_Table := (He.ga K "Table")) B O_Hall O_Hall_book O_Hall_books O_Hall_deeds O_Hall_shelve O__law_book O__law_book_bad O__law_book_told O__law_copy O__law_name O__law_numbers O__law_same O__law_spoilt_book O__law_why_shelf D_law
  exact Ok.fn O_law (He.glo_ok X G (c.t.d.fact 105 (f := .glo "law") rfl)) (fun_ofD F_law)
end Kj
open PySem PySem.W PySem.Calls PyProof.Rows
set_option maxHeartbeats 0 in
theorem PySem.Challenge.cw_kimariji_k63_books_refused_at_a_hall_holds : PySem.Challenge.rw_kimariji_k63_books_refused_at_a_hall.Holds := by
  w_on; o_law
  refine HandSHeadRun.head_any (r := OpenLaw.row PySem.Challenge.rw_kimariji_k63_books_refused_at_a_hall) (q := view (OpenLaw.row PySem.Challenge.rw_kimariji_k63_books_refused_at_a_hall).prog [79]) (H := Kj.hk_) (ob := Kj.ob_) (M := 12000) (loose := Kj.nm_) (d := HandSHeadRun.topDef (OpenLaw.row PySem.Challenge.rw_kimariji_k63_books_refused_at_a_hall).prog 79) (kwd := []) Kj.ob_eq
    (by kernel_rfl) (fun s => by kernel_rfl) Kj.run_ (by kernel_rfl) (by kernel_rfl) (by kernel_rfl) (by rfl) (by first | assumption | decide +kernel) (by decide +kernel) ⟨rfl, rfl, rfl, rfl, rfl, by decide +kernel⟩ ?hw ?hc
  case hw => w_witness2
  case hc =>
    refine LamX.walk_ofTsE (l := PySem.Challenge.rw_kimariji_k63_books_refused_at_a_hall) (n := 63) (k := 8) (x := "_law_script") (CX := fun w => L2.CX PySem.Challenge.rw_kimariji_k63_books_refused_at_a_hall.prog w) rfl (by decide) (by kernel_rfl) ⟨rfl, by decide, by decide⟩ ?F (fun _ _ _ _ _ z => Kj.cx_none z)
    intro w mg fa h Y G hmg0
    obtain ⟨K, KX, c⟩ := Y
    have hmg : mg ("law" : PySem.Str) = some (.ref fa) := by
      have e : (HandSHeadRun.topDef (OpenLaw.row PySem.Challenge.rw_kimariji_k63_books_refused_at_a_hall).prog 79).name = ("law" : PySem.Str) := by kernel_rfl
      rw [← e]
      exact hmg0
    exact ⟨K, KX, Kj.all_mkH KX G hmg c⟩
#print axioms PySem.Challenge.cw_kimariji_k63_books_refused_at_a_hall_holds
