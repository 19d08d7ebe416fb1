import PyProof.Rows.All
import Wide.All
import OpenK.AllK
import Wide.FinOn
import KE.KStateDown
import KE.GoesMore
import KE.GoesZip
import PyProof.EnumMake
import HandS.ForMost
import HandS.ForExc
import HandS.Flow
import HandS.Wide
import HandS.WideMore
import HandS.IsInst
import HandS.SetKeys
import HandS.Style
import HandS.TupLe
import HandS.Zip
import HandS.Defaults
import HandS.Head0
import HandS.Head1
import HandS.Head2
import HandS.HeadEnd
import HandS.HeadHook1
import HandS.HeadHook2
import HandS.Walk
import PyProof.DictMoreH
import HandS.SetFor
import HandS.ExcCtx
import HandS.ExcIs
import HandS.HotCalls
import HandS.Conv
import PySem.Challenge.RW_jumpfield_k15_whole_alike_parts_are_one
set_option Elab.async false
set_option linter.all false
set_option maxRecDepth 100000
set_option maxHeartbeats 4000000
/-! ### the frame: facts of the top, defs by their places, calls -/
namespace JF
open PySem PySem.Spec PyProof.Rows L2

/-! ### what the top has left, by facts with numbers -/
/-- the module's tuples of numbers -/
def tb : List (Str × List He.Dv) := []
/-- the module's own exceptions that are raised; how each stands to the classes that are asked for -/
def exN : List Str := []
def exP : List (Str × Sum Str String × Bool) := []
def veT : List Value := [.type "ValueError", .type "Exception", .type "BaseException", .type "object"]
def exV (K : PySem.W.Frag) : Sum Str String → Value
  | .inl y => .ref (He.ga K y)
  | .inr t => .type t
def exB1 (K : PySem.W.Frag) (x : Str) : Bool :=
  PySem.W.excIn K (He.ga K x) veT "ValueError.__new__" && PySem.W.keepIn K (.ref (He.ga K x)) && (PySem.W.subIn K (.ref (He.ga K x)) (.type "BaseException") == some true) && (PySem.W.typeIn K (.ref (He.ga K x)) == some (.type "type")) &&
  (PySem.W.findIn K (.ref (He.ga K x)) "__getattribute__" == some (some (.builtin "BaseException.__getattribute__"))) && (PySem.W.findIn K (.ref (He.ga K x)) "__getattr__" == some none) && PySem.W.hasDictIn K (He.ga K x) &&
  (PySem.W.findIn K (.ref (He.ga K x)) "__class__" == some (some (.builtin "object.__class__"))) && (PySem.W.specialIn K (.builtin "object.__class__") "__get__" == some (some (.builtin "getset_descriptor.__get__"))) &&
  (PySem.W.takesIn K (.builtin "object.__class__") == some true) && (PySem.W.mroIn K (He.ga K x) (.type "object") == some true)
def exB2 (K : PySem.W.Frag) (t : Str × Sum Str String × Bool) : Bool :=
  (PySem.W.exmOne K (.ref (He.ga K t.1)) (exV K t.2.1) == some t.2.2) && (PySem.W.kitOne K (.ref (He.ga K t.1)) (exV K t.2.1) == some t.2.2)
def tbB (K : PySem.W.Frag) : Bool := (tb.all fun t => He.tupB K t.1 t.2) && (exN.all (exB1 K) && exP.all (exB2 K))
structure Env (fa : List He.Fa) (fn : List He.DefD) (K : PySem.W.Frag) (mg : Str → Option Value) : Prop where
  c : He.SaysD fa fn K
  ex : ∃ h : Heap, K.In h ∧ h.Ns mainGlobals mg
  tb : tbB K = true
section
variable {fa : List He.Fa} {fn : List He.DefD} {K : PySem.W.Frag} {mg : Str → Option Value}
theorem Env.glo (T : Env fa fn K mg) (i : Nat) {x : Str} (h : fa[i]? = some (.glo x) := by rfl) : mg x = some (.ref (He.ga K x)) := by
  obtain ⟨hp, X, G⟩ := T.ex
  exact He.glo_ok X G (T.c.fact i h)
theorem Env.tup (T : Env fa fn K mg) (i : Nat) {x : Str} {vs : List He.Dv} (H : Hp) (h : JF.tb[i]? = some (x, vs) := by rfl) : SqT K H (He.ga K x) (vs.map (He.Dv.v K)) :=
  He.tupB_ok (List.all_eq_true.mp (Bool.and_eq_true_iff.mp T.tb).1 _ (List.mem_of_getElem? h)) H
theorem Env.ex1 (T : Env fa fn K mg) {x : Str} (h : x ∈ JF.exN) : exB1 K x = true := List.all_eq_true.mp (Bool.and_eq_true_iff.mp (Bool.and_eq_true_iff.mp T.tb).2).1 _ h
theorem Env.ex2 (T : Env fa fn K mg) {t : Str × Sum Str String × Bool} (h : t ∈ JF.exP) : exB2 K t = true := List.all_eq_true.mp (Bool.and_eq_true_iff.mp (Bool.and_eq_true_iff.mp T.tb).2).2 _ h
theorem Env.free (T : Env fa fn K mg) (i : Nat) {x : Str} (h : fa[i]? = some (.free x) := by rfl) : mg x = none := by
  obtain ⟨hp, X, G⟩ := T.ex
  exact He.free_ok X G (T.c.fact i h)
theorem Env.int (T : Env fa fn K mg) (i : Nat) {x : Str} {n : Int} (h : fa[i]? = some (.int x n) := by rfl) : ∃ t, mg x = some (.int n t) := by
  obtain ⟨hp, X, G⟩ := T.ex
  exact He.int_ok X G (T.c.fact i h)
theorem Env.str (T : Env fa fn K mg) (i : Nat) {x z : Str} (h : fa[i]? = some (.str x z) := by rfl) : ∃ t, mg x = some (.str z t) := by
  obtain ⟨hp, X, G⟩ := T.ex
  exact He.str_ok X G (T.c.fact i h)
theorem Env.cls (T : Env fa fn K mg) (i : Nat) {x : Str} (h : fa[i]? = some (.cls x) := by rfl) : Cls K (He.ga K x) := He.cls_ok (T.c.fact i h)
theorem Env.noat (T : Env fa fn K mg) (i : Nat) {x f : Str} (h : fa[i]? = some (.noat x f) := by rfl) : NoAttr K (He.ga K x) f := He.noat_ok (T.c.fact i h)
theorem Env.meth (T : Env fa fn K mg) (i : Nat) {x m : Str} (h : fa[i]? = some (.meth x m) := by rfl) : Meth K (He.ga K x) m (He.ma K (He.ga K x) m) := He.meth_ok (T.c.fact i h)
theorem Env.mkr (T : Env fa fn K mg) (i : Nat) {x : Str} (h : fa[i]? = some (.mkr x) := by rfl) : Mk K (He.ga K x) (He.ma K (He.ga K x) "__init__") := He.mkr_ok (T.c.fact i h)
end

/-! ### a def that keeps its promise, by its place -/
/-- the def's datum stands there -/
def FdAt (K : PySem.W.Frag) (p : Str × Option Str) (fd : FuncData) : Prop := ∃ oc od osl, K.lookup (He.fAd K p) = some ⟨oc, od, .func fd, osl⟩
theorem FdAt.eq {K : PySem.W.Frag} {p : Str × Option Str} {fd fd' : FuncData} (h : FdAt K p fd) (h' : FdAt K p fd') : fd = fd' := by
  obtain ⟨a, b, c, e⟩ := h
  obtain ⟨a', b', c', e'⟩ := h'
  rw [e] at e'
  cases e'
  rfl
theorem fdAt_of {K : PySem.W.Frag} {x qual : Str} {params : Arguments} {body : List Stmt} {scope : Scope} {dvs : List V} {kws : List (Str × V)} {p : Str × Option Str} {fd : FuncData} (F : FunD K x qual params body scope dvs kws (He.fAd K p) fd) : FdAt K p fd := by
  obtain ⟨oc, od, dV, kV, doc, pm, an, cdv, ct, osl, e, lk, hcd, _, _⟩ := F.ex
  exact ⟨oc, od, osl, lk⟩
def Good (P : Program) (w : World) (K : PySem.W.Frag) (mg : Str → Option Value) (base : Heap) (CX : CXT) (k : Nat) (p : Str × Option Str) (ps : List Str) (sp : Sp) : Prop :=
  ∃ fd, FnOk P w K mg base CX k (He.fAd K p) fd ps sp ∧ Binds K fd ps [] ∧ PySem.W.keepIn K (.ref (He.fAd K p)) = true ∧ FdAt K p fd
section
variable {P : Program} {w : World} {K : PySem.W.Frag} {mg : Str → Option Value} {base : Heap} {fa : List He.Fa} {fn : List He.DefD}
theorem Good.mono {CX : CXT} {j k : Nat} {p : Str × Option Str} {ps : List Str} {sp : Sp} (G : Good P w K mg base CX j p ps sp) (h : j ≤ k) : Good P w K mg base CX k p ps sp := by
  obtain ⟨fd, F, b, kp, lk⟩ := G
  exact ⟨fd, F.mono h, b, kp, lk⟩
theorem Good.imp {CX : CXT} {k : Nat} {p : Str × Option Str} {ps : List Str} {sp sp' : Sp} (G : Good P w K mg base CX k p ps sp) (h : ∀ vs H Q E, sp' vs H Q E → sp vs H Q E) : Good P w K mg base CX k p ps sp' := by
  obtain ⟨fd, F, b, kp, lk⟩ := G
  exact ⟨fd, F.imp h, b, kp, lk⟩
/-- THE RULE of a def: nothing leaves it but by return -/
theorem good_mk (T : Env fa fn K mg) (i : Nat) {d : He.DefD} {k : Nat} {N ps : List Str} {sp : Sp} {x qual : Str} {st : Stmt} {at_ : Str × Option Str} (hi : fn[i]? = some d) (hd : d = ⟨at_, x, qual, defArgs st, defBody st, defScope st, [], []⟩) (S : FnScope N ps (defScope st))
    (hb : ∀ (kV doc pm : Value) (an : Option Addr) (cdv ct : Value) (us : List Value), us.length = ps.length → bindArgs (PySem.W.fnOf x qual (defArgs st) (defBody st) (defScope st) .none kV doc pm an cdv ct) ⟨us, []⟩ = pure (ps.zip us))
    (len : ∀ vs H Q E, sp vs H Q E → vs.length = ps.length)
    (hbody : ∀ (f : Addr) (cdv : Value) (A : Around) (outer : List PySem.Env) (s : Shared) (H : Hp) (vs : List V) (Q : VK) (E : XK), Room k (A.deeper (envOfC qual (defScope st) s.heap.objs.size f cdv)) → sp vs H Q E →
      ∃ t, PSs (cxOf CX0 P w K mg base N qual (defScope st) f cdv A outer s H E).nox (defBody st) t ∧ t { nx := fun _ H' => Q .non H', rt := Q } (start N vs) H) : Good P w K mg base CX0 (k + 1) at_ ps sp := by
  subst hd
  obtain ⟨fd, F⟩ := T.c.def_ i hi
  refine ⟨fd, ?_, FunD.bindsN F hb, F.kp, fdAt_of F⟩
  refine FunD.ok F S len fun cdv A outer s H vs Q E hr h => ?_
  obtain ⟨t, h1, h2⟩ := hbody _ cdv A outer s H vs Q E hr h
  exact ⟨t, h1.nox, h2⟩
end

/-! ### calls -/
section
variable {X : Cx} {k : Nat} {x m : Str} {ps : List Str} {sp : Sp} {p pos apos : Pos} {e o : Expr} {es : List Expr} {ta : TE} {t : TA} {C : Addr}
theorem pe_cg (G : Good X.prog X.w X.K X.mg X.base CX0 k (x, none) ps sp) (hr : Room k X.A) (hm : X.mg x = some (.ref (He.ga X.K x))) (ha : PA X (e :: es) t) (hg : Gl X x := by rfl)
    (hdb : (x == ("__debug__" : Str)) = false := by decide) (he : starEach (e :: es) X.env = (false, eval e X.env) :: starEach es X.env := by rfl) (hpl : (backTo pos (starEach es X.env)).any (·.1) = false := by rfl) :
    PE X (.Call (.Name x p) (e :: es) [] pos) (tCall sp [] E0 t) := by
  obtain ⟨fd, F, b, kp, lk⟩ := G
  exact pe_call F hr hg hm kp b .nil pass0 ha hdb he hpl
theorem pe_cg0 (G : Good X.prog X.w X.K X.mg X.base CX0 k (x, none) ps sp) (hr : Room k X.A) (hm : X.mg x = some (.ref (He.ga X.K x))) (hg : Gl X x := by rfl) (hdb : (x == ("__debug__" : Str)) = false := by decide) :
    PE X (.Call (.Name x p) [] [] pos) (tCall sp [] E0 tNil) := by
  obtain ⟨fd, F, b, kp, lk⟩ := G
  exact pe_call0 F hr hg hm kp b .nil pass0 hdb
theorem pe_mg {cn : Str} {pl : Sem Bool} (he : PE X o ta) (c : Cls X.K (He.ga X.K cn)) (hm : Meth X.K (He.ga X.K cn) m (He.ma X.K (He.ga X.K cn) m)) (G : Good X.prog X.w X.K X.mg X.base CX0 k (cn, some m) ps sp) (hr : Room k X.A) (ha : PA X (e :: es) t)
    (hst : starEach (e :: es) X.env = (false, eval e X.env) :: starEach es X.env := by rfl) (hpl : (backTo pos (starEach es X.env)).any (·.1) = false := by rfl)
    (ht : eval (.Call (.Attribute o m apos) (e :: es) [] pos) X.env = (do
      let ov ← eval o X.env
      standAt apos.atName
      let (f, first) ← holding [ov] (getMethod ov m pl)
      callWith pos f first (backTo pos (starEach (e :: es) X.env)) (backToKw pos (keywordEach [] X.env))) := by rfl) :
    PE X (.Call (.Attribute o m apos) (e :: es) [] pos) (tMeth (He.ga X.K cn) m sp [] E0 ta t) := by
  obtain ⟨fd, F, b, kp, lk⟩ := G
  exact pe_meth he c hm F hr b .nil pass0 ha hst hpl ht
theorem pe_mg0 {cn : Str} {pl : Sem Bool} (he : PE X o ta) (c : Cls X.K (He.ga X.K cn)) (hm : Meth X.K (He.ga X.K cn) m (He.ma X.K (He.ga X.K cn) m)) (G : Good X.prog X.w X.K X.mg X.base CX0 k (cn, some m) ps sp) (hr : Room k X.A)
    (ht : eval (.Call (.Attribute o m apos) [] [] pos) X.env = (do
      let ov ← eval o X.env
      standAt apos.atName
      let (f, first) ← holding [ov] (getMethod ov m pl)
      callWith pos f first (backTo pos (starEach [] X.env)) (backToKw pos (keywordEach [] X.env))) := by rfl) :
    PE X (.Call (.Attribute o m apos) [] [] pos) (tMeth (He.ga X.K cn) m sp [] E0 ta tNil) := by
  obtain ⟨fd, F, b, kp, lk⟩ := G
  exact pe_meth0 he c hm F hr b .nil pass0 ht
theorem pe_mk0 (M : Mk X.K (He.ga X.K x) (He.ma X.K (He.ga X.K x) "__init__")) (G : Good X.prog X.w X.K X.mg X.base CX0 k (x, some "__init__") ps sp) (hr : Room (k + 1) X.A) (hm : X.mg x = some (.ref (He.ga X.K x))) (hg : Gl X x := by rfl)
    (hdb : (x == ("__debug__" : Str)) = false := by decide) : PE X (.Call (.Name x p) [] [] pos) (tMake (He.ga X.K x) sp [] E0 tNil) := by
  obtain ⟨fd, F, b, kp, lk⟩ := G
  exact pe_make0 M F hr hg hm b .nil pass0 hdb
theorem pe_gint {i : Int} (h : ∃ t, X.mg x = some (.int i t)) (hg : Gl X x) (hd : (x == ("__debug__" : Str)) = false := by decide) : PE X (.Name x pos) (tC (.int i)) := by
  obtain ⟨t, e⟩ := h
  exact pe_glob hg e ⟨_, rfl⟩ hd
theorem pe_gstr {z : Str} (h : ∃ t, X.mg x = some (.str z t)) (hg : Gl X x) (hd : (x == ("__debug__" : Str)) = false := by decide) : PE X (.Name x pos) (tC (.str z)) := by
  obtain ⟨t, e⟩ := h
  exact pe_glob hg e ⟨_, rfl⟩ hd
theorem pe_gref (h : X.mg x = some (.ref (He.ga X.K x))) (hg : Gl X x) (hd : (x == ("__debug__" : Str)) = false := by decide) : PE X (.Name x pos) (tC (.ref (He.ga X.K x))) :=
  pe_glob hg h rfl hd
theorem pe_mk0K (K : PySem.W.Frag) (hK : X.K = K) (M : Mk K (He.ga K x) (He.ma K (He.ga K x) "__init__")) (G : Good X.prog X.w K X.mg X.base CX0 k (x, some "__init__") ps sp) (hr : Room (k + 1) X.A) (hm : X.mg x = some (.ref (He.ga K x))) (hg : Gl X x := by rfl)
    (hdb : (x == ("__debug__" : Str)) = false := by decide) : PE X (.Call (.Name x p) [] [] pos) (tMake (He.ga K x) sp [] E0 tNil) := by subst hK; exact pe_mk0 M G hr hm hg hdb
theorem pe_mkgK (K : PySem.W.Frag) (hK : X.K = K) (M : Mk K (He.ga K x) (He.ma K (He.ga K x) "__init__")) (G : Good X.prog X.w K X.mg X.base CX0 k (x, some "__init__") ps sp) (hr : Room (k + 1) X.A) (hm : X.mg x = some (.ref (He.ga K x))) (ha : PA X (e :: es) t) (hg : Gl X x := by rfl)
    (hdb : (x == ("__debug__" : Str)) = false := by decide) (hst : starEach (e :: es) X.env = (false, eval e X.env) :: starEach es X.env := by rfl) (hpl : (backTo pos (starEach es X.env)).any (·.1) = false := by rfl) : PE X (.Call (.Name x p) (e :: es) [] pos) (tMake (He.ga K x) sp [] E0 t) := by
  subst hK
  obtain ⟨fd, F, b, kp, lk⟩ := G
  exact pe_make M F hr hg hm b .nil pass0 ha hdb hst hpl
/-- one of two readings -/
theorem pe_or {t1 t2 : TE} (h1 : PE X e t1) (h2 : PE X e t2) : PE X e (fun σ H Q => t1 σ H Q ∨ t2 σ H Q) := ⟨fun pins s σ H Q I h => h.elim (h1.run pins s σ H Q I) (h2.run pins s σ H Q I)⟩
/-! the written part said outright (in a comprehension's block it is another word for the same) -/
variable {K : PySem.W.Frag} {f : Str} {a b i : Expr} {tb : TE}
theorem pe_fldK (K : PySem.W.Frag) (hK : X.K = K) (he : PE X e ta) (hb : attributeBase e f X.env (eval e X.env) = eval e X.env) : PE X (.Attribute e f pos) (tFld K ta f) := by subst hK; exact pe_fld he hb
theorem ix_listK (K : PySem.W.Frag) (hK : X.K = K) : IxR X (rIxL K) := by subst hK; exact ix_list
theorem ix_tupK (K : PySem.W.Frag) (hK : X.K = K) : IxR X (rIxT K) := by subst hK; exact ix_tup
theorem sl_listK (K : PySem.W.Frag) (hK : X.K = K) : SlR X (rSlL K) := by subst hK; exact sl_list
theorem sl_tupK (K : PySem.W.Frag) (hK : X.K = K) : SlR X (rSlT K) := by subst hK; exact sl_tup
theorem op_inK (K : PySem.W.Frag) (hK : X.K = K) : OpR X (compareOp .In) (rIn K false) := by subst hK; exact op_in_seq
theorem op_notInK (K : PySem.W.Frag) (hK : X.K = K) : OpR X (compareOp .NotIn) (rIn K true) := by subst hK; exact op_notIn_seq
theorem op_eqDK (K : PySem.W.Frag) (hK : X.K = K) (hu : X.A.units + 64 < cLine) : OpR X (compareOp .Eq) (rEqD K) := by subst hK; exact op_eqD hu
theorem op_neDK (K : PySem.W.Frag) (hK : X.K = K) (hu : X.A.units + 64 < cLine) : OpR X (compareOp .NotEq) (rNeD K) := by subst hK; exact op_neD hu
theorem op_catTK (K : PySem.W.Frag) (hK : X.K = K) : OpR X (binaryOp .Add) (rCatT K) := by subst hK; exact op_catT
theorem call_isiK (K : PySem.W.Frag) (hK : X.K = K) : CallR X (.builtin "isinstance") (rIsi K) := by subst hK; exact call_isi
def rLenS (K : PySem.W.Frag) : List V → Hp → VK → Prop := fun xs H Q => ∃ p ys, xs = [.ref p] ∧ (SqL K H p ys ∨ SqT K H p ys) ∧ Q (.int ys.length) H
theorem call_lenK (K : PySem.W.Frag) (hK : X.K = K) : CallR X (.builtin "len") (rLenS K) := by subst hK; exact call_len_seq
def rListOf (K : PySem.W.Frag) : List V → Hp → VK → Prop := fun xs H Q => ∃ p ys, xs = [.ref p] ∧ (SqL K H p ys ∨ SqT K H p ys) ∧ ∀ l, H l = none → Q (.ref l) (upd H l (.lst ys))
theorem call_listK (K : PySem.W.Frag) (hK : X.K = K) : CallR X (.type "list") (rListOf K) := by subst hK; exact call_list_of
theorem cr_sumK (K : PySem.W.Frag) (hK : X.K = K) (hc : X.calm = true) : CallR X (.builtin "sum") (rSum K) := by subst hK; exact cr_sum hc
theorem cr_maxK (K : PySem.W.Frag) (hK : X.K = K) (hc : X.calm = true) : CallR X (.builtin "max") (rMax K) := by subst hK; exact cr_max hc
theorem cr_minK (K : PySem.W.Frag) (hK : X.K = K) (hc : X.calm = true) : CallR X (.builtin "min") (rMin K) := by subst hK; exact cr_min hc
theorem pi_listK (K : PySem.W.Frag) (hK : X.K = K) {tg l : Expr} {tl : TE} (hl : PE X l tl) : PI X tg l (iList K tl) := by subst hK; exact pi_list hl
theorem pi_tupK (K : PySem.W.Frag) (hK : X.K = K) {tg l : Expr} {tl : TE} (hl : PE X l tl) : PI X tg l (iTup K tl) := by subst hK; exact pi_tup hl
theorem pe_mgK (K : PySem.W.Frag) (hK : X.K = K) {cn : Str} {pl : Sem Bool} (he : PE X o ta) (c : Cls K (He.ga K cn)) (hm : Meth K (He.ga K cn) m (He.ma K (He.ga K cn) m)) (G : Good X.prog X.w K X.mg X.base CX0 k (cn, some m) ps sp) (hr : Room k X.A) (ha : PA X (e :: es) t)
    (hst : starEach (e :: es) X.env = (false, eval e X.env) :: starEach es X.env := by rfl) (hpl : (backTo pos (starEach es X.env)).any (·.1) = false := by rfl)
    (ht : eval (.Call (.Attribute o m apos) (e :: es) [] pos) X.env = (do
      let ov ← eval o X.env
      standAt apos.atName
      let (f, first) ← holding [ov] (getMethod ov m pl)
      callWith pos f first (backTo pos (starEach (e :: es) X.env)) (backToKw pos (keywordEach [] X.env))) := by rfl) :
    PE X (.Call (.Attribute o m apos) (e :: es) [] pos) (tMeth (He.ga K cn) m sp [] E0 ta t) := by subst hK; exact pe_mg he c hm G hr ha hst hpl ht
theorem pe_mg0K (K : PySem.W.Frag) (hK : X.K = K) {cn : Str} {pl : Sem Bool} (he : PE X o ta) (c : Cls K (He.ga K cn)) (hm : Meth K (He.ga K cn) m (He.ma K (He.ga K cn) m)) (G : Good X.prog X.w K X.mg X.base CX0 k (cn, some m) ps sp) (hr : Room k X.A)
    (ht : eval (.Call (.Attribute o m apos) [] [] pos) X.env = (do
      let ov ← eval o X.env
      standAt apos.atName
      let (f, first) ← holding [ov] (getMethod ov m pl)
      callWith pos f first (backTo pos (starEach [] X.env)) (backToKw pos (keywordEach [] X.env))) := by rfl) :
    PE X (.Call (.Attribute o m apos) [] [] pos) (tMeth (He.ga K cn) m sp [] E0 ta tNil) := by subst hK; exact pe_mg0 he c hm G hr ht
theorem pe_cgK (K : PySem.W.Frag) (hK : X.K = K) (G : Good X.prog X.w K X.mg X.base CX0 k (x, none) ps sp) (hr : Room k X.A) (hm : X.mg x = some (.ref (He.ga K x))) (ha : PA X (e :: es) t) (hg : Gl X x := by rfl)
    (hdb : (x == ("__debug__" : Str)) = false := by decide) (he : starEach (e :: es) X.env = (false, eval e X.env) :: starEach es X.env := by rfl) (hpl : (backTo pos (starEach es X.env)).any (·.1) = false := by rfl) :
    PE X (.Call (.Name x p) (e :: es) [] pos) (tCall sp [] E0 t) := by subst hK; exact pe_cg G hr hm ha hg hdb he hpl
theorem pe_grefK (K : PySem.W.Frag) (hK : X.K = K) (h : X.mg x = some (.ref (He.ga K x))) (hg : Gl X x) (hd : (x == ("__debug__" : Str)) = false := by decide) : PE X (.Name x pos) (tC (.ref (He.ga K x))) := by subst hK; exact pe_gref h hg hd
end
end JF

/-! ### squares as trees: the mathematics of a grove, no program in sight -/
namespace JF
open PySem PySem.Spec PyProof.Rows L2

inductive Sq where
  | leaf (s : Int)
  | node (a b c d : Sq)
  deriving DecidableEq
abbrev Box := Int × Int × Int × Int
def rb : Option Box → Box → Box
  | none, o => o
  | some b, o => (min b.1 o.1, min b.2.1 o.2.1, max (b.1 + b.2.2.1) (o.1 + o.2.2.1) - min b.1 o.1, max (b.2.1 + b.2.2.2) (o.2.1 + o.2.2.2) - min b.2.1 o.2.1)
def r4step (half : Int) (at_ : Int) (f : Option Box) : Option Box → Option Box
  | none => f
  | some b => some (rb f (b.1 + half * (at_ % 2), b.2.1 + half * (at_ / 2), b.2.2.1, b.2.2.2))
def r4 (half : Int) (a b c d : Option Box) : Option Box := r4step half 3 (r4step half 2 (r4step half 1 (r4step half 0 none a) b) c) d
namespace Sq
def level : Sq → Nat
  | leaf _ => 0
  | node a _ _ _ => a.level + 1
def lives : Sq → Int
  | leaf s => if s = 0 then 0 else 1
  | node a b c d => a.lives + b.lives + c.lives + d.lives
def span : Sq → Option Box
  | leaf s => if s = 0 then none else some (0, 0, 1, 1)
  | node a b c d => r4 (2 ^ a.level : Int) a.span b.span c.span d.span
def wf : Sq → Prop
  | leaf s => 0 ≤ s ∧ s ≤ 7
  | node a b c d => a.wf ∧ b.wf ∧ c.wf ∧ d.wf ∧ b.level = a.level ∧ c.level = a.level ∧ d.level = a.level
def even : Nat → Int → Sq
  | 0, s => leaf s
  | k + 1, s => node (even k s) (even k s) (even k s) (even k s)
theorem level_even (k : Nat) (s : Int) : (even k s).level = k := by
  induction k with
  | zero => rfl
  | succ k ih => show (even k s).level + 1 = k + 1; rw [ih]
theorem wf_even {s : Int} (h0 : 0 ≤ s) (h1 : s ≤ 7) (k : Nat) : (even k s).wf := by
  induction k with
  | zero => exact ⟨h0, h1⟩
  | succ k ih => exact ⟨ih, ih, ih, ih, rfl, rfl, rfl⟩
theorem lives_nonneg : ∀ S : Sq, 0 ≤ S.lives
  | leaf s => by unfold lives; split <;> omega
  | node a b c d => by
    have h1 := lives_nonneg a; have h2 := lives_nonneg b; have h3 := lives_nonneg c; have h4 := lives_nonneg d
    unfold lives; omega
end Sq

/-! ### the dict of a grove: what was made, by numbers -/
def kvsOf : List (List Int) → Nat → List (List Key × V)
  | [], _ => []
  | m :: r, i => (m.map Sum.inl, V.int (i : Int)) :: kvsOf r (i + 1)
def lookI : List (List Int) → List Int → Nat → Option Nat
  | [], _, _ => none
  | m :: r, k, i => if m = k then some i else lookI r k (i + 1)
theorem inl_inj : ∀ {a b : List Int}, a.map (Sum.inl : Int → Key) = b.map Sum.inl → a = b
  | [], [], _ => rfl
  | [], _ :: _, h => by cases h
  | _ :: _, [], h => by cases h
  | x :: a, y :: b, h => by
    simp only [List.map_cons, List.cons.injEq, Sum.inl.injEq] at h
    rw [h.1, inl_inj h.2]
theorem kvsOf_len : ∀ (mk : List (List Int)) (i : Nat), (kvsOf mk i).length = mk.length
  | [], _ => rfl
  | _ :: r, i => by show (kvsOf r (i + 1)).length + 1 = r.length + 1; rw [kvsOf_len r]
theorem kvsOf_app : ∀ (mk : List (List Int)) (m : List Int) (i : Nat), kvsOf (mk ++ [m]) i = kvsOf mk i ++ [(m.map Sum.inl, V.int ((i + mk.length : Nat) : Int))]
  | [], m, i => rfl
  | x :: r, m, i => by
    show _ :: kvsOf (r ++ [m]) (i + 1) = _ :: (kvsOf r (i + 1) ++ _)
    rw [kvsOf_app r m (i + 1)]
    have e : i + 1 + r.length = i + (x :: r).length := by simp; omega
    rw [e]
theorem valV_kvsOf : ∀ (mk : List (List Int)) (k : List Int) (i : Nat), valV (kvsOf mk i) (k.map Sum.inl) = (lookI mk k i).map fun n : Nat => V.int (n : Int)
  | [], _, _ => rfl
  | m :: r, k, i => by
    by_cases h : m = k
    · subst h
      simp [kvsOf, lookI, valV]
    · have h' : ¬ (m.map (Sum.inl : Int → Key) = k.map Sum.inl) := fun e => h (inl_inj e)
      have ih := valV_kvsOf r k (i + 1)
      simp only [kvsOf, lookI, valV, List.find?_cons, h, h', decide_false, if_false] at ih ⊢
      exact ih
theorem lookI_some : ∀ {mk : List (List Int)} {k : List Int} {i n : Nat}, lookI mk k i = some n → i ≤ n ∧ mk[n - i]? = some k
  | [], _, _, _, h => by cases h
  | m :: r, k, i, n, h => by
    by_cases e : m = k
    · simp only [lookI, e, if_true, Option.some.injEq] at h
      subst h
      simp [e]
    · simp only [lookI, e, if_false] at h
      obtain ⟨h1, h2⟩ := lookI_some h
      refine ⟨by omega, ?_⟩
      have e2 : n - i = (n - (i + 1)) + 1 := by omega
      rw [e2, List.getElem?_cons_succ]
      exact h2
theorem lookI_none : ∀ {mk : List (List Int)} {k : List Int} {i : Nat}, lookI mk k i = none → k ∉ mk
  | [], _, _, _ => by simp
  | m :: r, k, i, h => by
    by_cases e : m = k
    · simp [lookI, e] at h
    · simp only [lookI, e, if_false] at h
      have := lookI_none h
      simp only [List.mem_cons, not_or]
      exact ⟨fun z => e z.symm, this⟩

/-- what a square is made of, by the numbers of its quarters -/
def Made (q : List Sq) : Sq → List Int → Prop
  | .leaf s, m => m = [s]
  | .node A B C D, m => ∃ a b c d : Nat, m = [(a : Int), (b : Int), (c : Int), (d : Int)] ∧ q[a]? = some A ∧ q[b]? = some B ∧ q[c]? = some C ∧ q[d]? = some D
theorem getElem?_app {α : Type} {q : List α} {i : Nat} {x : α} (h : q[i]? = some x) (t : List α) : (q ++ t)[i]? = some x := by
  rw [List.getElem?_append_left (List.getElem?_eq_some_iff.mp h).1]
  exact h
theorem Made.app {q : List Sq} {S : Sq} {m : List Int} (h : Made q S m) (t : List Sq) : Made (q ++ t) S m := by
  cases S with
  | leaf s => exact h
  | node A B C D =>
    obtain ⟨a, b, c, d, e, h1, h2, h3, h4⟩ := h
    exact ⟨a, b, c, d, e, getElem?_app h1 t, getElem?_app h2 t, getElem?_app h3 t, getElem?_app h4 t⟩
theorem nodup_at {q : List Sq} (hq : q.Nodup) {i j : Nat} {S : Sq} (a : q[i]? = some S) (b : q[j]? = some S) : i = j := by
  obtain ⟨h1, e1⟩ := List.getElem?_eq_some_iff.mp a
  obtain ⟨h2, e2⟩ := List.getElem?_eq_some_iff.mp b
  exact (List.getElem_inj hq).mp (e1.trans e2.symm)
theorem made_inj {q : List Sq} (hq : q.Nodup) {S : Sq} {m m' : List Int} (a : Made q S m) (b : Made q S m') : m = m' := by
  cases S with
  | leaf s => exact (show m = [s] from a).trans (show m' = [s] from b).symm
  | node A B C D =>
    obtain ⟨a1, b1, c1, d1, rfl, h1, h2, h3, h4⟩ := a
    obtain ⟨a2, b2, c2, d2, rfl, k1, k2, k3, k4⟩ := b
    rw [nodup_at hq h1 k1, nodup_at hq h2 k2, nodup_at hq h3 k3, nodup_at hq h4 k4]
theorem made_same {q : List Sq} {S S' : Sq} {m : List Int} (a : Made q S m) (b : Made q S' m) : S = S' := by
  cases S with
  | leaf s =>
    cases S' with
    | leaf s' =>
      have e : [s] = [s'] := (show m = [s] from a).symm.trans (show m = [s'] from b)
      simp only [List.cons.injEq, and_true] at e
      rw [e]
    | node A B C D =>
      obtain ⟨a2, b2, c2, d2, e, _⟩ := b
      have e1 : m = [s] := a
      rw [e1] at e
      simp at e
  | node A B C D =>
    obtain ⟨a1, b1, c1, d1, e1, h1, h2, h3, h4⟩ := a
    cases S' with
    | leaf s' =>
      have e2 : m = [s'] := b
      rw [e1] at e2
      simp at e2
    | node A' B' C' D' =>
      obtain ⟨a2, b2, c2, d2, e2, k1, k2, k3, k4⟩ := b
      rw [e1] at e2
      simp only [List.cons.injEq, Int.ofNat_inj, and_true] at e2
      obtain ⟨rfl, rfl, rfl, rfl⟩ := e2
      rw [h1] at k1; rw [h2] at k2; rw [h3] at k3; rw [h4] at k4
      cases k1; cases k2; cases k3; cases k4
      rfl
end JF

namespace JF
open PySem PySem.Spec PyProof.Rows L2
def top (i : Nat) : Stmt := PySem.Challenge.pw_jumpfield_k15_whole_alike_parts_are_one.main.body.getD i (.Pass ⟨0, 0, 0, 0⟩)
abbrev st_is_whole : Stmt := top 6
theorem sc_is_whole : FnScope ["thing"] ["thing"] (defScope st_is_whole) := ⟨rfl, rfl, rfl, by decide +kernel, rfl, by decide +kernel, by decide +kernel⟩
def d_is_whole : He.DefD := ⟨("is_whole", none), "is_whole", "is_whole", defArgs (top 6), defBody (top 6), defScope (top 6), [], []⟩
abbrev st_round_both : Stmt := top 10
theorem sc_round_both : FnScope ["one", "other", "left", "top", "right", "low"] ["one", "other"] (defScope st_round_both) := ⟨rfl, rfl, rfl, by decide +kernel, rfl, by decide +kernel, by decide +kernel⟩
def d_round_both : He.DefD := ⟨("round_both", none), "round_both", "round_both", defArgs (top 10), defBody (top 10), defScope (top 10), [], []⟩
abbrev st_round_four : Stmt := top 11
theorem sc_round_four : FnScope ["spans", "half", "found", "at", "span", "left", "top"] ["spans", "half"] (defScope st_round_four) := ⟨rfl, rfl, rfl, by decide +kernel, rfl, by decide +kernel, by decide +kernel⟩
def d_round_four : He.DefD := ⟨("round_four", none), "round_four", "round_four", defArgs (top 11), defBody (top 11), defScope (top 11), [], []⟩
abbrev st_is_state : Stmt := top 12
theorem sc_is_state : FnScope ["thing"] ["thing"] (defScope st_is_state) := ⟨rfl, rfl, rfl, by decide +kernel, rfl, by decide +kernel, by decide +kernel⟩
def d_is_state : He.DefD := ⟨("is_state", none), "is_state", "is_state", defArgs (top 12), defBody (top 12), defScope (top 12), [], []⟩
abbrev st_Grove_init : Stmt := inClass (top 13) 0
theorem sc_Grove_init : FnScope ["self"] ["self"] (defScope st_Grove_init) := ⟨rfl, rfl, rfl, by decide +kernel, rfl, by decide +kernel, by decide +kernel⟩
def d_Grove_init : He.DefD := ⟨("Grove", some "__init__"), "__init__", "Grove.__init__", defArgs (inClass (top 13) 0), defBody (inClass (top 13) 0), defScope (inClass (top 13) 0), [], []⟩
abbrev st_Grove_kept : Stmt := inClass (top 13) 1
theorem sc_Grove_kept : FnScope ["self", "made", "level", "lives", "span", "number"] ["self", "made", "level", "lives", "span"] (defScope st_Grove_kept) := ⟨rfl, rfl, rfl, by decide +kernel, rfl, by decide +kernel, by decide +kernel⟩
def d_Grove_kept : He.DefD := ⟨("Grove", some "kept"), "kept", "Grove.kept", defArgs (inClass (top 13) 1), defBody (inClass (top 13) 1), defScope (inClass (top 13) 1), [], []⟩
abbrev st_Grove_cell : Stmt := inClass (top 13) 2
theorem sc_Grove_cell : FnScope ["self", "state", "made"] ["self", "state"] (defScope st_Grove_cell) := ⟨rfl, rfl, rfl, by decide +kernel, rfl, by decide +kernel, by decide +kernel⟩
def d_Grove_cell : He.DefD := ⟨("Grove", some "cell"), "cell", "Grove.cell", defArgs (inClass (top 13) 2), defBody (inClass (top 13) 2), defScope (inClass (top 13) 2), [], []⟩
abbrev st_Grove_knit : Stmt := inClass (top 13) 3
theorem sc_Grove_knit : FnScope ["self", "a", "b", "c", "d", "made", "level", "lives", "span", "one"] ["self", "a", "b", "c", "d"] (defScope st_Grove_knit) := ⟨rfl, rfl, rfl, by decide +kernel, rfl, by decide +kernel, by decide +kernel⟩
def d_Grove_knit : He.DefD := ⟨("Grove", some "knit"), "knit", "Grove.knit", defArgs (inClass (top 13) 3), defBody (inClass (top 13) 3), defScope (inClass (top 13) 3), [], []⟩
abbrev st_Grove_even : Stmt := inClass (top 13) 4
theorem sc_Grove_even : FnScope ["self", "level", "state", "row", "one"] ["self", "level", "state"] (defScope st_Grove_even) := ⟨rfl, rfl, rfl, by decide +kernel, rfl, by decide +kernel, by decide +kernel⟩
def d_Grove_even : He.DefD := ⟨("Grove", some "even"), "even", "Grove.even", defArgs (inClass (top 13) 4), defBody (inClass (top 13) 4), defScope (inClass (top 13) 4), [], []⟩
abbrev st_Grove_asked : Stmt := inClass (top 13) 5
theorem sc_Grove_asked : FnScope ["self", "square"] ["self", "square"] (defScope st_Grove_asked) := ⟨rfl, rfl, rfl, by decide +kernel, rfl, by decide +kernel, by decide +kernel⟩
def d_Grove_asked : He.DefD := ⟨("Grove", some "asked"), "asked", "Grove.asked", defArgs (inClass (top 13) 5), defBody (inClass (top 13) 5), defScope (inClass (top 13) 5), [], []⟩
abbrev st_Grove_leaf : Stmt := inClass (top 13) 6
theorem sc_Grove_leaf : FnScope ["self", "state"] ["self", "state"] (defScope st_Grove_leaf) := ⟨rfl, rfl, rfl, by decide +kernel, rfl, by decide +kernel, by decide +kernel⟩
def d_Grove_leaf : He.DefD := ⟨("Grove", some "leaf"), "leaf", "Grove.leaf", defArgs (inClass (top 13) 6), defBody (inClass (top 13) 6), defScope (inClass (top 13) 6), [], []⟩
abbrev st_Grove_joined : Stmt := inClass (top 13) 7
theorem sc_Grove_joined : FnScope ["self", "a", "b", "c", "d", "levels", "one"] ["self", "a", "b", "c", "d"] (defScope st_Grove_joined) := ⟨rfl, rfl, rfl, by decide +kernel, rfl, by decide +kernel, by decide +kernel⟩
def d_Grove_joined : He.DefD := ⟨("Grove", some "joined"), "joined", "Grove.joined", defArgs (inClass (top 13) 7), defBody (inClass (top 13) 7), defScope (inClass (top 13) 7), [], []⟩
abbrev st_Grove_solid : Stmt := inClass (top 13) 8
theorem sc_Grove_solid : FnScope ["self", "level", "state"] ["self", "level", "state"] (defScope st_Grove_solid) := ⟨rfl, rfl, rfl, by decide +kernel, rfl, by decide +kernel, by decide +kernel⟩
def d_Grove_solid : He.DefD := ⟨("Grove", some "solid"), "solid", "Grove.solid", defArgs (inClass (top 13) 8), defBody (inClass (top 13) 8), defScope (inClass (top 13) 8), [], []⟩
abbrev st_Grove_level_of : Stmt := inClass (top 13) 9
theorem sc_Grove_level_of : FnScope ["self", "square"] ["self", "square"] (defScope st_Grove_level_of) := ⟨rfl, rfl, rfl, by decide +kernel, rfl, by decide +kernel, by decide +kernel⟩
def d_Grove_level_of : He.DefD := ⟨("Grove", some "level_of"), "level_of", "Grove.level_of", defArgs (inClass (top 13) 9), defBody (inClass (top 13) 9), defScope (inClass (top 13) 9), [], []⟩
abbrev st_Grove_quarters : Stmt := inClass (top 13) 10
theorem sc_Grove_quarters : FnScope ["self", "square"] ["self", "square"] (defScope st_Grove_quarters) := ⟨rfl, rfl, rfl, by decide +kernel, rfl, by decide +kernel, by decide +kernel⟩
def d_Grove_quarters : He.DefD := ⟨("Grove", some "quarters"), "quarters", "Grove.quarters", defArgs (inClass (top 13) 10), defBody (inClass (top 13) 10), defScope (inClass (top 13) 10), [], []⟩
abbrev st_Grove_state_of : Stmt := inClass (top 13) 11
theorem sc_Grove_state_of : FnScope ["self", "square"] ["self", "square"] (defScope st_Grove_state_of) := ⟨rfl, rfl, rfl, by decide +kernel, rfl, by decide +kernel, by decide +kernel⟩
def d_Grove_state_of : He.DefD := ⟨("Grove", some "state_of"), "state_of", "Grove.state_of", defArgs (inClass (top 13) 11), defBody (inClass (top 13) 11), defScope (inClass (top 13) 11), [], []⟩
abbrev st_Grove_living : Stmt := inClass (top 13) 12
theorem sc_Grove_living : FnScope ["self", "square"] ["self", "square"] (defScope st_Grove_living) := ⟨rfl, rfl, rfl, by decide +kernel, rfl, by decide +kernel, by decide +kernel⟩
def d_Grove_living : He.DefD := ⟨("Grove", some "living"), "living", "Grove.living", defArgs (inClass (top 13) 12), defBody (inClass (top 13) 12), defScope (inClass (top 13) 12), [], []⟩
abbrev st_Grove_span : Stmt := inClass (top 13) 13
theorem sc_Grove_span : FnScope ["self", "square"] ["self", "square"] (defScope st_Grove_span) := ⟨rfl, rfl, rfl, by decide +kernel, rfl, by decide +kernel, by decide +kernel⟩
def d_Grove_span : He.DefD := ⟨("Grove", some "span"), "span", "Grove.span", defArgs (inClass (top 13) 13), defBody (inClass (top 13) 13), defScope (inClass (top 13) 13), [], []⟩
abbrev st_w_number : Stmt := top 15
theorem sc_w_number : FnScope ["_law_found"] ["_law_found"] (defScope st_w_number) := ⟨rfl, rfl, rfl, by decide +kernel, rfl, by decide +kernel, by decide +kernel⟩
def d_w_number : He.DefD := ⟨("_law_number", none), "_law_number", "_law_number", defArgs (top 15), defBody (top 15), defScope (top 15), [], []⟩
abbrev st_w_same : Stmt := top 16
theorem sc_w_same : FnScope ["_law_found", "_law_due"] ["_law_found", "_law_due"] (defScope st_w_same) := ⟨rfl, rfl, rfl, by decide +kernel, rfl, by decide +kernel, by decide +kernel⟩
def d_w_same : He.DefD := ⟨("_law_same", none), "_law_same", "_law_same", defArgs (top 16), defBody (top 16), defScope (top 16), [], []⟩
abbrev st_w_stir : Stmt := top 17
theorem sc_w_stir : FnScope ["_law_cell", "_law_k", "_law_value"] ["_law_cell", "_law_k"] (defScope st_w_stir) := ⟨rfl, rfl, rfl, by decide +kernel, rfl, by decide +kernel, by decide +kernel⟩
def d_w_stir : He.DefD := ⟨("_law_stir", none), "_law_stir", "_law_stir", defArgs (top 17), defBody (top 17), defScope (top 17), [], []⟩
abbrev st_w_own : Stmt := top 18
theorem sc_w_own : FnScope ["_law_ids", "_law_rows", "_law_level", "_law_parts", "_law_lives", "_law_one"] ["_law_ids", "_law_rows", "_law_level", "_law_parts"] (defScope st_w_own) := ⟨rfl, rfl, rfl, by decide +kernel, rfl, by decide +kernel, by decide +kernel⟩
def d_w_own : He.DefD := ⟨("_law_own", none), "_law_own", "_law_own", defArgs (top 18), defBody (top 18), defScope (top 18), [], []⟩
abbrev st_w_even : Stmt := top 19
theorem sc_w_even : FnScope ["_law_ids", "_law_rows", "_law_level", "_law_state", "_law_own_here", "_law_k"] ["_law_ids", "_law_rows", "_law_level", "_law_state"] (defScope st_w_even) := ⟨rfl, rfl, rfl, by decide +kernel, rfl, by decide +kernel, by decide +kernel⟩
def d_w_even : He.DefD := ⟨("_law_even", none), "_law_even", "_law_even", defArgs (top 19), defBody (top 19), defScope (top 19), [], []⟩
abbrev st_w_deed : Stmt := top 20
theorem sc_w_deed : FnScope ["_law_cell", "_law_ids", "_law_rows", "_law_pool", "_law_way", "_law_pick", "_law_base", "_law_level", "_law_same_here", "_law_four", "_law_k", "_law_parts", "_law_one"] ["_law_cell", "_law_ids", "_law_rows", "_law_pool"] (defScope st_w_deed) := ⟨rfl, rfl, rfl, by decide +kernel, rfl, by decide +kernel, by decide +kernel⟩
def d_w_deed : He.DefD := ⟨("_law_deed", none), "_law_deed", "_law_deed", defArgs (top 20), defBody (top 20), defScope (top 20), [], []⟩
abbrev st_w_done : Stmt := top 21
theorem sc_w_done : FnScope ["_law_grove", "_law_deed_here", "_law_known", "_law_four", "_law_one"] ["_law_grove", "_law_deed_here", "_law_known"] (defScope st_w_done) := ⟨rfl, rfl, rfl, by decide +kernel, rfl, by decide +kernel, by decide +kernel⟩
def d_w_done : He.DefD := ⟨("_law_done", none), "_law_done", "_law_done", defArgs (top 21), defBody (top 21), defScope (top 21), [], []⟩
abbrev st_w_agreed : Stmt := top 22
theorem sc_w_agreed : FnScope ["_law_known", "_law_back", "_law_own_here", "_law_found"] ["_law_known", "_law_back", "_law_own_here", "_law_found"] (defScope st_w_agreed) := ⟨rfl, rfl, rfl, by decide +kernel, rfl, by decide +kernel, by decide +kernel⟩
def d_w_agreed : He.DefD := ⟨("_law_agreed", none), "_law_agreed", "_law_agreed", defArgs (top 22), defBody (top 22), defScope (top 22), [], []⟩
abbrev st_w_looked : Stmt := top 23
theorem sc_w_looked : FnScope ["_law_grove", "_law_known", "_law_back", "_law_rows", "_law_own_here", "_law_level", "_law_number_here", "_law_four", "_law_part", "_law_found"] ["_law_grove", "_law_known", "_law_back", "_law_rows"] (defScope st_w_looked) := ⟨rfl, rfl, rfl, by decide +kernel, rfl, by decide +kernel, by decide +kernel⟩
def d_w_looked : He.DefD := ⟨("_law_looked", none), "_law_looked", "_law_looked", defArgs (top 23), defBody (top 23), defScope (top 23), [], []⟩
abbrev st_law : Stmt := top 24
theorem sc_law : FnScope ["_law_script", "_law_groves", "_law_known", "_law_back", "_law_ids", "_law_rows", "_law_pool", "_law_deeds", "_law_cell", "_law_deed_here", "_law_k"] ["_law_script"] (defScope st_law) := ⟨rfl, rfl, rfl, by decide +kernel, rfl, by decide +kernel, by decide +kernel⟩
def d_law : He.DefD := ⟨("law", none), "law", "law", defArgs (top 24), defBody (top 24), defScope (top 24), [], []⟩
def fn : List He.DefD := [d_is_whole, d_round_both, d_round_four, d_is_state, d_Grove_init, d_Grove_kept, d_Grove_cell, d_Grove_knit, d_Grove_even, d_Grove_asked, d_Grove_leaf, d_Grove_joined, d_Grove_solid, d_Grove_level_of, d_Grove_quarters, d_Grove_state_of, d_Grove_living, d_Grove_span, d_w_number, d_w_same, d_w_stir, d_w_own, d_w_even, d_w_deed, d_w_done, d_w_agreed, d_w_looked, d_law]
def fa : List He.Fa := [(.free "bool"), (.free "isinstance"), (.free "int"), (.free "min"), (.free "max"), (.free "enumerate"), (.glo "round_both"), (.glo "is_whole"), (.free "len"), (.cls "Grove"), (.meth "Grove" "kept"), (.glo "round_four"), (.meth "Grove" "cell"), (.meth "Grove" "knit"), (.int "MANY" 1000000000), (.glo "is_state"), (.meth "Grove" "asked"), (.int "HIGHEST" 48), (.meth "Grove" "even"), (.free "sum"), (.glo "_law_own"), (.free "range"), (.glo "_law_even"), (.glo "_law_stir"), (.meth "Grove" "leaf"), (.meth "Grove" "solid"), (.meth "Grove" "quarters"), (.free "tuple"), (.meth "Grove" "joined"), (.glo "_law_number"), (.free "list"), (.glo "_law_same"), (.meth "Grove" "living"), (.meth "Grove" "level_of"), (.meth "Grove" "state_of"), (.free "zip"), (.glo "_law_agreed"), (.mkr "Grove"), (.glo "Grove"), (.glo "_law_deed"), (.glo "_law_done"), (.glo "_law_looked"), (.noat "Grove" "levels"), (.noat "Grove" "lives"), (.noat "Grove" "made"), (.noat "Grove" "numbers"), (.noat "Grove" "plain"), (.noat "Grove" "spans"), (.glo "law")]
def loose0 : List Str := ["FieldError", "NoSquare", "NoLevel", "NoState", "is_whole", "HIGHEST", "MANY", "round_both", "round_four", "is_state", "Grove", "_law_number", "_law_same", "_law_stir", "_law_own", "_law_even", "_law_deed", "_law_done", "_law_agreed", "_law_looked"]
def looseN : List Str := loose0
end JF

/-! ### readings step by step: a rule for each construct, tried by «walk_at "rd"» -/
namespace JF
open PySem PySem.Spec PyProof.Rows L2
section
variable {D : Ends} {σ : L2.St} {H : Hp} {Q : VK} {QB : Bool → Hp → Prop} {QA : List V → Hp → Prop} {t u : TS} {te ta tb tc : TE} {g : TG} {c c' : TT} {v : V} {i : Nat} {K : PySem.W.Frag}
theorem rd_seq (h : t { D with nx := u D } σ H) : tSeq t u D σ H := h
/-- the walk halts ahead of a loop -/
def Halt (p : Prop) : Prop := p
theorem rd_seqF {wi : TI} (h : Halt (tSeq (tFor wi g t) u D σ H)) : tSeq (tFor wi g t) u D σ H := h
theorem rd_seqW (h : Halt (tSeq (tWhile c t) u D σ H)) : tSeq (tWhile c t) u D σ H := h
theorem rd_seqI {t' : TS} (h : Halt (tSeq (tIfS c t t') u D σ H)) : tSeq (tIfS c t t') u D σ H := h
theorem rd_next (h : D.nx σ H) : tNext D σ H := h
theorem rd_asg (h : te σ H fun x H1 => g x σ H1 D.nx) : tAsg te g D σ H := h
theorem rd_gname {R : L2.St → Hp → Prop} (h : R (σ.set i (some v)) H) : gName i v σ H R := h
theorem rd_ret (h : te σ H D.rt) : tRet te D σ H := h
theorem rd_retN (h : D.rt .non H) : tRetN D σ H := h
theorem rd_drop (h : te σ H fun _ H1 => D.nx σ H1) : tDrop te D σ H := h
theorem rd_if (h : c σ H fun b H1 => if b = true then t D σ H1 else u D σ H1) : tIfS c t u D σ H := h
theorem rd_ifE (h : c σ H fun b H1 => if b = true then ta σ H1 Q else tb σ H1 Q) : tIf c ta tb σ H Q := h
theorem rd_brk (h : D.bk σ H) : tBreak D σ H := h
theorem rd_cont (h : D.ct σ H) : tCont D σ H := h
theorem rd_var (h : σ[i]? = some (some v)) (q : Q v H) : tVar i σ H Q := ⟨v, h, q⟩
theorem rd_c (q : Q v H) : tC v σ H Q := q
theorem rd_op {r : R2} (h : ta σ H fun x H1 => tb σ H1 fun y H2 => r x y H2 Q) : tOp r ta tb σ H Q := h
theorem rd_un {r : V → Hp → VK → Prop} (h : ta σ H fun x H1 => r x H1 Q) : tUn r ta σ H Q := h
theorem rd_I0 {f : Int → Int → V} {a b : Int} (q : Q (f a b) H) : rI0 f (.int a) (.int b) H Q := ⟨a, b, rfl, rfl, q⟩
theorem rd_U {f : Int → V} {a : Int} (q : Q (f a) H) : rU f (.int a) H Q := ⟨a, rfl, q⟩
theorem rd_test (h : te σ H fun x H' => ∃ k, x = .bl k ∧ QB k H') : tTest te σ H QB := h
theorem rd_B (h : te σ H fun x H' => ∃ k, x = .bl k ∧ QB k H') : tB te σ H QB := h
theorem rd_bl {b : Bool} {R : Bool → Prop} (q : R b) : ∃ k, V.bl b = .bl k ∧ R k := ⟨b, rfl, q⟩
theorem iteT' {A B : Prop} (h : A) : if true = true then A else B := iteT h
theorem iteF' {A B : Prop} (h : B) : if false = true then A else B := iteF h
theorem iteNT {A B : Prop} (h : B) : if (!true) = true then A else B := iteF h
theorem iteNF {A B : Prop} (h : A) : if (!false) = true then A else B := iteT h
theorem rd_for {wi : TI} (h : wi σ H fun J H1 => ∃ W : Nat → Nat → L2.St → Hp → Prop, (∃ m, W 0 m σ H1) ∧ ∀ i m σ H, W i m σ H →
  (J.stop i H ∧ D.nx σ H) ∨ (J.go i H ∧ ∃ N : L2.St → Hp → Prop, (∀ σ' H', N σ' H' → ∃ m', m' < m ∧ W (i + 1) m' σ' H') ∧ ∀ x H', J.yld i H x H' → g x σ H' fun σ2 H2 => t { D with nx := N, ct := N, bk := D.nx } σ2 H2)) : tFor wi g t D σ H := h
theorem rd_and (h : c σ H fun b H1 => if b = true then c' σ H1 QB else QB false H1) : tAnd c c' σ H QB := h
theorem rd_or (h : c σ H fun b H1 => if b = true then QB true H1 else c' σ H1 QB) : tOr c c' σ H QB := h
theorem rd_not (h : c σ H fun b H1 => QB (!b) H1) : tNot c σ H QB := h
theorem rd_andV (h : ta σ H fun x H1 => ∃ k, x = .bl k ∧ if k = true then tb σ H1 Q else Q (.bl false) H1) : tAndV ta tb σ H Q := h
theorem rd_orV (h : ta σ H fun x H1 => ∃ k, x = .bl k ∧ if k = true then Q (.bl true) H1 else tb σ H1 Q) : tOrV ta tb σ H Q := h
theorem rd_notV (h : ta σ H fun x H1 => ∃ k, x = .bl k ∧ Q (.bl (!k)) H1) : tNotV ta σ H Q := h
theorem rd_eqI {a b : Int} (q : Q (.bl (decide (a = b))) H) : rEq (.int a) (.int b) H Q := ⟨rfl, by
  have e : decide (V.int a = V.int b) = decide (a = b) := by by_cases z : a = b <;> simp [z]
  rw [e]; exact q⟩
theorem rd_neI {a b : Int} (q : Q (.bl (!decide (a = b))) H) : rNe (.int a) (.int b) H Q := ⟨rfl, by
  have e : decide (V.int a = V.int b) = decide (a = b) := by by_cases z : a = b <;> simp [z]
  rw [e]; exact q⟩
theorem rd_eqS {a b : Str} (q : Q (.bl (decide (a = b))) H) : rEq (.str a) (.str b) H Q := ⟨rfl, by
  have e : decide (V.str a = V.str b) = decide (a = b) := by by_cases z : a = b <;> simp [z]
  rw [e]; exact q⟩
theorem rd_neS {a b : Str} (q : Q (.bl (!decide (a = b))) H) : rNe (.str a) (.str b) H Q := ⟨rfl, by
  have e : decide (V.str a = V.str b) = decide (a = b) := by by_cases z : a = b <;> simp [z]
  rw [e]; exact q⟩
theorem rd_nil (q : QA [] H) : tNil σ H QA := q
theorem rd_cons {tr : TA} (h : ta σ H fun x H1 => tr σ H1 fun xs H2 => QA (x :: xs) H2) : tCons ta tr σ H QA := h
theorem rd_call {sp : Sp} {dvs : List V} {E : XK} {tr : TA} (h : tr σ H fun vs H1 => sp (vs ++ dvs) H1 Q E) : tCall sp dvs E tr σ H Q := h
theorem rd_CB {r : List V → Hp → VK → Prop} {tr : TA} (h : tr σ H fun vs H1 => r vs H1 Q) : tCB r tr σ H Q := h
theorem rd_meth {C : Addr} {m : Str} {sp : Sp} {dvs : List V} {E : XK} {tr : TA} (h : ta σ H fun x H1 => ∃ a dx fs, x = .ref a ∧ H1 a = some (.ins C dx fs) ∧ fs.lookup m = none ∧ tr σ H1 fun vs H2 => sp (x :: (vs ++ dvs)) H2 Q E) : tMeth C m sp dvs E ta tr σ H Q := h
theorem rd_methR {a dx : Addr} {fs : List (Str × V)} {C : Addr} {m : Str} {R : Prop} (h1 : H a = some (.ins C dx fs)) (h2 : fs.lookup m = none) (q : R) : ∃ a' dx fs, V.ref a = .ref a' ∧ H a' = some (.ins C dx fs) ∧ fs.lookup m = none ∧ R := ⟨a, dx, fs, rfl, h1, h2, q⟩
theorem rd_fld {f : Str} (h : ta σ H fun x H1 => ∃ a C dx fs v, x = .ref a ∧ H1 a = some (.ins C dx fs) ∧ Cls K C ∧ NoAttr K C f ∧ fs.lookup f = some v ∧ Q v H1) : tFld K ta f σ H Q := h
theorem rd_fldR {a C dx : Addr} {fs : List (Str × V)} {f : Str} {R : V → Prop} (h1 : H a = some (.ins C dx fs)) (h2 : Cls K C) (h3 : NoAttr K C f) (h4 : fs.lookup f = some v) (q : R v) : ∃ a' C dx fs v, V.ref a = .ref a' ∧ H a' = some (.ins C dx fs) ∧ Cls K C ∧ NoAttr K C f ∧ fs.lookup f = some v ∧ R v := ⟨a, C, dx, fs, v, rfl, h1, h2, h3, h4, q⟩
theorem rd_chain {r r' : R2} (h : ta σ H fun x H1 => tb σ H1 fun y H2 => r x y H2 fun z H3 => ∃ k, z = .bl k ∧ (if k = true then tc σ H3 fun w' H4 => r' y w' H4 Q else Q (.bl false) H3)) : tChain r r' ta tb tc σ H Q := h
theorem rd_tup {tr : TA} (h : tr σ H fun xs H1 => xs.length ≤ sizeLine ∧ ∀ p, H1 p = none → Q (.ref p) (upd H1 p (.tup xs))) : tTup tr σ H Q := h
theorem rd_lst {tr : TA} (h : tr σ H fun xs H1 => xs.length ≤ sizeLine ∧ ∀ p, H1 p = none → Q (.ref p) (upd H1 p (.lst xs))) : tLst tr σ H Q := h
theorem rd_new {n : Nat} {R : Addr → Prop} (hn : n ≤ sizeLine := by (first | (show _ ≤ sizeLine; decide) | omega)) (h : ∀ p, H p = none → R p) : n ≤ sizeLine ∧ ∀ p, H p = none → R p := ⟨hn, h⟩
theorem rd_bm {T : String} {r : V → List V → Hp → VK → Prop} {tr : TA} (h : ta σ H fun x H1 => tyV K T x H1 ∧ tr σ H1 fun xs H2 => r x xs H2 Q) : tBM K T r ta tr σ H Q := h
theorem rd_bm0 {T : String} {r : V → List V → Hp → VK → Prop} (h : ta σ H fun x H1 => tyV K T x H1 ∧ r x [] H1 Q) : tBM0 K T r ta σ H Q := h
theorem rd_ixL {p : Addr} {xs : List V} {k : Int} (h1 : SqL K H p xs) (h2 : atI xs k = some v) (q : Q v H) : rIxL K (.ref p) (.int k) H Q := ⟨p, xs, k, v, rfl, rfl, h1, h2, q⟩
theorem rd_ixT {p : Addr} {xs : List V} {k : Int} (h1 : SqT K H p xs) (h2 : atI xs k = some v) (q : Q v H) : rIxT K (.ref p) (.int k) H Q := ⟨p, xs, k, v, rfl, rfl, h1, h2, q⟩
theorem rd_tyL {l : Addr} {xs : List V} {R : Prop} (h1 : H l = some (.lst xs)) (q : R) : tyV K "list" (.ref l) H ∧ R := ⟨Or.inl ⟨rfl, _, Or.inl (Or.inl h1)⟩, q⟩
theorem rd_append {l : Addr} {xs : List V} {y : V} (h1 : H l = some (.lst xs)) (h2 : xs.length < sizeLine) (q : Q .non (upd H l (.lst (xs ++ [y])))) : rAppend (.ref l) [y] H Q :=
  ⟨l, xs, y, rfl, rfl, h1, h2, q⟩
theorem rd_dget {td ty : TE} (h : td σ H fun x H1 => ty σ H1 fun y H2 => ∃ a v, x = .ref a ∧ DGet H2 a y (some v) ∧ Q v H2) : tDGet td ty σ H Q := h
theorem rd_din {td ty : TE} (h : ty σ H fun y H1 => td σ H1 fun x H2 => ∃ a o, x = .ref a ∧ DGet H2 a y o ∧ Q (.bl o.isSome) H2) : tDIn ty td σ H Q := h
theorem rd_dput {td ty tv : TE} (h : tv σ H fun v H1 => td σ H1 fun x H2 => ty σ H2 fun y H3 => ∃ a H4, x = .ref a ∧ DPut H3 a y v H4 ∧ D.nx σ H4) : sDPut td ty tv D σ H := h
theorem rd_2I {a b : Int} {R : Int → Int → Prop} (h : R a b) : ∃ i j, [V.int a, V.int b] = [V.int i, V.int j] ∧ R i j := ⟨a, b, rfl, h⟩
theorem rd_I {C : Int → Int → Prop} {f : Int → Int → V} {a b : Int} (hc : C a b) (q : Q (f a b) H) : rI C f (.int a) (.int b) H Q := ⟨a, b, rfl, rfl, hc, q⟩
theorem rd_mod {f : Int → Int → V} {a b : Int} (hc : 0 < b) (q : Q (f a b) H) : rI (fun _ j => 0 < j) f (.int a) (.int b) H Q := ⟨a, b, rfl, rfl, hc, q⟩
theorem rd_fdiv {f : Int → Int → V} {a b : Int} (h1 : 0 < b) (h2 : b < 2 ^ 100) (q : Q (f a b) H) : rI CDivW f (.int a) (.int b) H Q :=
  ⟨a, b, rfl, rfl, wide_div h1 (b := 100) (by have h3 : (b.natAbs : Int) = b := by omega
                                              have h4 : (b.natAbs : Int) < ((2 ^ 100 : Nat) : Int) := by rw [h3]; exact h2
                                              exact Int.ofNat_lt.mp h4) (by decide) (by decide), q⟩
theorem mulW_of {a b : Int} (h1 : -(2 ^ 2000) < a) (h2 : a < 2 ^ 2000) (h3 : -(2 ^ 2000) < b) (h4 : b < 2 ^ 2000) : CMulW a b := by
  have e : ∀ x : Int, -(2 ^ 2000) < x → x < 2 ^ 2000 → x.natAbs < 2 ^ 2000 := fun x p q => by
    have e1 : ((2 ^ 2000 : Nat) : Int) = (2 : Int) ^ 2000 := by norm_cast
    have h : (x.natAbs : Int) < ((2 ^ 2000 : Nat) : Int) := by rw [e1]; omega
    exact Int.ofNat_lt.mp h
  exact wide_mul (e a h1 h2) (e b h3 h4) (by decide) (by decide) (by decide)
theorem rd_nn {R : Prop} (h : R) : V.non = V.non ∧ R := ⟨rfl, h⟩
theorem rd_len {p : Addr} {ys : List V} {R : List V → Prop} (h : SqL K H p ys) (q : R ys) : ∃ p' ys, [V.ref p] = [V.ref p'] ∧ (SqL K H p' ys ∨ SqT K H p' ys) ∧ R ys := ⟨p, ys, rfl, .inl h, q⟩
theorem rd_lenT {p : Addr} {ys : List V} {R : List V → Prop} (h : SqT K H p ys) (q : R ys) : ∃ p' ys, [V.ref p] = [V.ref p'] ∧ (SqL K H p' ys ∨ SqT K H p' ys) ∧ R ys := ⟨p, ys, rfl, .inr h, q⟩
theorem rd_iE {tr : TA} {R : It → Hp → Prop} (h : tr σ H fun vs H1 => ∃ a xs, vs = [.ref a] ∧ SqL K H1 a xs ∧ R (Ite K a) H1) : iEnum K tr σ H R := h
theorem rd_iL {R : It → Hp → Prop} (h : te σ H fun x H1 => ∃ a, x = .ref a ∧ (∃ xs, SqL K H1 a xs) ∧ R (Itl K a) H1) : iList K te σ H R := h
theorem rd_iT {R : It → Hp → Prop} (h : te σ H fun x H1 => ∃ a, x = .ref a ∧ (∃ xs, SqT K H1 a xs) ∧ R (Itt K a) H1) : iTup K te σ H R := h
theorem rd_iR1 {tr : TA} {R : It → Hp → Prop} (h : tr σ H fun vs H1 => ∃ j : Int, vs = [.int j] ∧ -(2 ^ 62) ≤ j ∧ j < 2 ^ 62 ∧ R (Itr 0 j.toNat) H1) : iRng1 tr σ H R := h
theorem rd_iR2 {tr : TA} {R : It → Hp → Prop} (h : tr σ H fun vs H1 => ∃ i j : Int, vs = [.int i, .int j] ∧ (-(2 ^ 62) ≤ i ∧ i < 2 ^ 62 ∧ -(2 ^ 62) ≤ j ∧ j < 2 ^ 62) ∧ R (Itr i (j - i).toNat) H1) : iRng2 tr σ H R := h
theorem rd_iR3 {tr : TA} {R : It → Hp → Prop} (h : tr σ H fun vs H1 => ∃ (i j c : Int) (n : Nat), vs = [.int i, .int j, .int c] ∧ RgC i j c n ∧ R (Itc i c n) H1) : iRng3 tr σ H R := h
theorem rd_iS {R : It → Hp → Prop} (h : te σ H fun v H1 => ∃ x, v = .str x ∧ R (Its x) H1) : iStr te σ H R := h
theorem rd_iZ {tr : TA} {R : It → Hp → Prop} (h : tr σ H fun vs H1 => ∃ a b xs ys, vs = [.ref a, .ref b] ∧ SqL K H1 a xs ∧ SqL K H1 b ys ∧ R (Itz K a b) H1) : iZip K tr σ H R := h
theorem rd_sl {r : V → Option Int → Option Int → Hp → VK → Prop} {tl th : TO} (h : te σ H fun x H1 => tl σ H1 fun l H2 => th σ H2 fun u H3 => r x l u H3 Q) : tSl r te tl th σ H Q := h
theorem rd_np {R : Option Int → Hp → Prop} (h : R none H) : tNoPart σ H R := h
theorem rd_pt {R : Option Int → Hp → Prop} (h : te σ H fun x H1 => ∃ i, x = .int i ∧ R (some i) H1) : tPart te σ H R := h
theorem rd_int {a : Int} {R : Int → Prop} (h : R a) : ∃ i, V.int a = .int i ∧ R i := ⟨a, rfl, h⟩
theorem rd_gtup {n : Nat} {tt : TGs} {a : Addr} {xs : List V} {R : L2.St → Hp → Prop} (h1 : SqT K H a xs) (h2 : xs.length = n) (q : tt xs σ H R) : gTup K n tt (.ref a) σ H R := ⟨a, xs, rfl, h1, h2, q⟩
theorem rd_gcons {tt : TGs} {r : List V} {R : L2.St → Hp → Prop} (q : g v σ H fun σ' H' => tt r σ' H' R) : gCons g tt (v :: r) σ H R := ⟨v, r, rfl, q⟩
theorem rd_gsub {to ti : TE} {ts : TSet} {R : L2.St → Hp → Prop} (h : to σ H fun o H1 => ti σ H1 fun i H2 => ts o i v H2 fun H3 => R σ H3) : gSub to ti ts v σ H R := h
theorem rd_gnil {R : L2.St → Hp → Prop} (q : R σ H) : gNil [] σ H R := ⟨rfl, q⟩
theorem rd_lc {wi : TI} {vs : List Nat} (h : wi σ H fun J H1 => ∀ D, H1 D = none → ∃ W : Nat → Nat → Hp → Prop, (∃ m, W 0 m (upd H1 D (.lst []))) ∧ ∀ i m H, W i m H →
  (J.stop i H ∧ Q (.ref D) H) ∨ (J.go i H ∧ ∃ Nx : Hp → Prop, (∀ H', Nx H' → ∃ m', m' < m ∧ W (i + 1) m' H') ∧ ∀ x H', J.yld i H x H' → g x (wipe σ vs) H' fun σ2 H2 => wipe σ2 vs = wipe σ vs ∧ c σ2 H2 fun b H3 =>
    if b = true then te σ2 H3 fun y H4 => ∃ acc, H4 D = some (.lst acc) ∧ acc.length < sizeLine ∧ Nx (upd H4 D (.lst (acc ++ [y]))) else Nx H3)) : tLc wi g c te vs σ H Q := h
theorem rd_yes (h : QB true H) : tYes σ H QB := h
theorem rd_dsetd {td ty tx : TE} (h : td σ H fun x H1 => ∃ a, x = .ref a ∧ IsD H1 a ∧ ty σ H1 fun y H2 => tx σ H2 fun z H3 => ∃ (kvs : List (Key × V)) (k : Key), H3 a = some (.dK kvs) ∧ y = kV k ∧ kvs.length < sizeLine ∧
  (∀ v, valV kvs k = some v → Q v H3) ∧ (valV kvs k = none → Q z (upd H3 a (.dK (putK kvs k z))))) : tDSetd td ty tx σ H Q := h
theorem rd_isD {a : Addr} {kvs : List (Key × V)} {R : Addr → Prop} (h : H a = some (.dK kvs)) (q : R a) : ∃ b, V.ref a = .ref b ∧ IsD H b ∧ R b := ⟨a, rfl, .inl ⟨kvs, .inl h⟩, q⟩
theorem rd_fldS {ta tv : TE} {f : Str} (h : tv σ H fun y H1 => ta σ H1 fun x H2 => ∃ a C dx fs, x = .ref a ∧ H2 a = some (.ins C dx fs) ∧ Cls K C ∧ NoAttr K C f ∧ fs.length < 1000 ∧ D.nx σ (upd H2 a (.ins C dx (putF f y fs)))) : sFld K ta tv f D σ H := h
theorem rd_newK {R : Addr → Prop} (h : ∀ p, H p = none → R p) : ∀ p, H p = none → R p := h
theorem dp_ints {ns : List Int} : DpAll K H (ns.map V.int) (ns.map PyData.int) := by
  induction ns with
  | nil => exact .nil
  | cons n r ih => exact .cons (.int n) ih
theorem rd_eqDI {p p' : Addr} {ns ms : List Int} (h1 : SqL K H p (ns.map V.int)) (h2 : SqL K H p' (ms.map V.int)) (s1 : SeqAt.shaped (.list (ns.map PyData.int)) = true) (s2 : SeqAt.shaped (.list (ms.map PyData.int)) = true)
    (q : Q (.bl (PyData.eqv (.list (ns.map PyData.int)) (.list (ms.map PyData.int)))) H) : rEqD K (.ref p) (.ref p') H Q := ⟨_, _, .lst h1 dp_ints, .lst h2 dp_ints, s1, s2, q⟩
theorem rd_neDI {p p' : Addr} {ns ms : List Int} (h1 : SqL K H p (ns.map V.int)) (h2 : SqL K H p' (ms.map V.int)) (s1 : SeqAt.shaped (.list (ns.map PyData.int)) = true) (s2 : SeqAt.shaped (.list (ms.map PyData.int)) = true)
    (q : Q (.bl (!PyData.eqv (.list (ns.map PyData.int)) (.list (ms.map PyData.int)))) H) : rNeD K (.ref p) (.ref p') H Q := ⟨_, _, .lst h1 dp_ints, .lst h2 dp_ints, s1, s2, q⟩
theorem rd_rep {l : Addr} {k : Int} {xs : List V} (h1 : H l = some (.lst xs)) (h2 : -(2 ^ 63) ≤ k) (h3 : k < 2 ^ 63) (h4 : xs.length * k.toNat ≤ sizeLine) (q : ∀ p, H p = none → Q (.ref p) (upd H p (.lst (List.replicate k.toNat xs).flatten))) : rRep (.ref l) (.int k) H Q :=
  ⟨l, k, xs, rfl, rfl, h1, h2, h3, h4, q⟩
theorem ite_d {p : Prop} [Decidable p] {A B : Prop} (h1 : p → A) (h2 : ¬ p → B) : if decide p = true then A else B := by
  by_cases h : p
  · rw [decide_eq_true h, if_pos rfl]; exact h1 h
  · rw [decide_eq_false h, if_neg Bool.false_ne_true]; exact h2 h
theorem ite_nd {p : Prop} [Decidable p] {A B : Prop} (h1 : ¬ p → A) (h2 : p → B) : if (!decide p) = true then A else B := by
  by_cases h : p
  · rw [decide_eq_true h]; exact iteF (h2 h)
  · rw [decide_eq_false h]; exact iteT (h1 h)
theorem ite_b {b : Bool} {A B : Prop} (h1 : b = true → A) (h2 : b = false → B) : if b = true then A else B := by
  cases b
  · exact iteF (h2 rfl)
  · exact iteT (h1 rfl)
theorem ite_nb {b : Bool} {A B : Prop} (h1 : b = false → A) (h2 : b = true → B) : if (!b) = true then A else B := by
  cases b
  · exact iteT (h1 rfl)
  · exact iteF (h2 rfl)
end
end JF

local macro_rules | `(tactic| walk_at "rs1") => `(tactic| first
  | with_reducible refine JF.rd_seq ?_ | with_reducible refine JF.rd_asg ?_ | with_reducible refine JF.rd_gname ?_
  | with_reducible refine JF.rd_var rfl ?_ | with_reducible refine JF.rd_c ?_ | with_reducible refine JF.rd_op ?_ | with_reducible refine JF.rd_I0 ?_
  | with_reducible refine JF.rd_if ?_ | with_reducible refine JF.rd_test ?_ | with_reducible refine JF.rd_bl ?_
  | with_reducible refine JF.rd_eqI ?_ | with_reducible refine JF.rd_neI ?_ | with_reducible refine JF.rd_eqS ?_ | with_reducible refine JF.rd_neS ?_
  | with_reducible refine JF.rd_cons ?_ | with_reducible refine JF.rd_nil ?_ | with_reducible refine JF.rd_call ?_ | with_reducible refine JF.rd_meth ?_ | with_reducible refine JF.rd_fld ?_ | with_reducible refine JF.rd_CB ?_
  | with_reducible refine JF.rd_ret ?_ | with_reducible refine JF.rd_drop ?_ | with_reducible refine JF.rd_next ?_ | with_reducible refine JF.rd_and ?_ | with_reducible refine JF.rd_or ?_ | with_reducible refine JF.rd_not ?_
  | with_reducible refine JF.rd_andV ?_ | with_reducible refine JF.rd_orV ?_ | with_reducible refine JF.rd_notV ?_ | with_reducible refine JF.rd_B ?_ | with_reducible refine JF.rd_un ?_ | with_reducible refine JF.rd_U ?_
  | with_reducible refine JF.rd_chain ?_ | with_reducible refine JF.rd_tup ?_ | with_reducible refine JF.rd_lst ?_ | with_reducible refine JF.rd_bm ?_ | with_reducible refine JF.rd_bm0 ?_
  | with_reducible refine JF.rd_dget ?_ | with_reducible refine JF.rd_din ?_ | with_reducible refine JF.rd_dput ?_ | with_reducible refine JF.rd_ifE ?_ | with_reducible refine JF.rd_retN ?_ | with_reducible refine JF.rd_brk ?_ | with_reducible refine JF.rd_cont ?_
  | with_reducible refine JF.iteT' ?_ | with_reducible refine JF.iteF' ?_ | with_reducible refine JF.iteNT ?_ | with_reducible refine JF.iteNF ?_ | ((with_reducible refine' JF.rd_fldR ?h1 ?h2 ?h3 ?h4 ?q); (case h1 => assumption); (case h2 => assumption); (case h3 => assumption); (case h4 => exact rfl))
  | with_reducible refine JF.rd_dsetd ?_ | with_reducible refine JF.rd_fldS ?_
  | with_reducible refine JF.rd_yes ?_ | with_reducible refine JF.rd_iE ?_ | with_reducible refine JF.rd_iL ?_ | with_reducible refine JF.rd_iT ?_ | with_reducible refine JF.rd_iR1 ?_ | with_reducible refine JF.rd_iR2 ?_ | with_reducible refine JF.rd_iR3 ?_ | with_reducible refine JF.rd_iS ?_ | with_reducible refine JF.rd_iZ ?_ | with_reducible refine JF.rd_sl ?_ | with_reducible refine JF.rd_np ?_ | with_reducible refine JF.rd_pt ?_ | with_reducible refine JF.rd_int ?_
  | ((with_reducible refine' JF.rd_gtup ?h1 ?h2 ?q); (case h1 => exact L2.SqT.of (by assumption)); (case h2 => exact rfl)) | with_reducible refine JF.rd_gcons ?_ | with_reducible refine JF.rd_gnil ?_ | with_reducible refine JF.rd_gsub ?_
  | with_reducible refine JF.rd_2I ?_ | ((with_reducible refine' JF.rd_ixT ?h1 ?h2 ?q); (case h1 => exact L2.SqT.of (by assumption)); (case h2 => exact rfl)) | ((with_reducible refine JF.rd_mod ?_ ?_); · decide) | ((with_reducible refine JF.rd_fdiv ?h1 ?h2 ?_); (case h1 => decide); (case h2 => decide)) | with_reducible refine JF.rd_nn ?_)
local macro_rules | `(tactic| walk_at "rd1") => `(tactic| first | walk_at "rs1" | with_reducible refine JF.rd_for ?_ | with_reducible refine JF.rd_lc ?_)
local macro_rules | `(tactic| walk_at "rh") => `(tactic| repeat (first | with_reducible refine JF.rd_seqF ?_ | with_reducible refine JF.rd_seqW ?_ | walk_at "rs1"))
local macro_rules | `(tactic| walk_at "rhi") => `(tactic| repeat (first | with_reducible refine JF.rd_seqF ?_ | with_reducible refine JF.rd_seqW ?_ | with_reducible refine JF.rd_seqI ?_ | walk_at "rs1"))
local macro_rules | `(tactic| walk_at "rs") => `(tactic| repeat walk_at "rs1")
local macro_rules | `(tactic| walk_at "rd") => `(tactic| repeat walk_at "rd1")
local macro_rules | `(tactic| walk_at "ne") => `(tactic| first | assumption | (apply Ne.symm; assumption))
local macro_rules | `(tactic| walk_at "hp") => `(tactic| first | assumption | exact L2.upd_same | ((with_reducible refine (L2.upd_ne ?h1).trans ?h2); (case h1 => walk_at "ne"); (case h2 => walk_at "hp")))

/-! ### readings are monotone in what is wanted; a cut between two statements -/
namespace JF
open PySem PySem.Spec PyProof.Rows L2
def MonE (t : TE) : Prop := ∀ σ H (Q Q' : VK), (∀ v H, Q v H → Q' v H) → t σ H Q → t σ H Q'
def MonT (t : TT) : Prop := ∀ σ H (Q Q' : Bool → Hp → Prop), (∀ v H, Q v H → Q' v H) → t σ H Q → t σ H Q'
def MonA (t : TA) : Prop := ∀ σ H (Q Q' : List V → Hp → Prop), (∀ v H, Q v H → Q' v H) → t σ H Q → t σ H Q'
def MonO (t : TO) : Prop := ∀ σ H (Q Q' : Option Int → Hp → Prop), (∀ v H, Q v H → Q' v H) → t σ H Q → t σ H Q'
def MonR (r : R2) : Prop := ∀ x y H (Q Q' : VK), (∀ v H, Q v H → Q' v H) → r x y H Q → r x y H Q'
def MonU (r : V → Hp → VK → Prop) : Prop := ∀ x H (Q Q' : VK), (∀ v H, Q v H → Q' v H) → r x H Q → r x H Q'
def MonC (r : List V → Hp → VK → Prop) : Prop := ∀ x H (Q Q' : VK), (∀ v H, Q v H → Q' v H) → r x H Q → r x H Q'
def MonM (r : V → List V → Hp → VK → Prop) : Prop := ∀ x y H (Q Q' : VK), (∀ v H, Q v H → Q' v H) → r x y H Q → r x y H Q'
def MonL (r : V → Option Int → Option Int → Hp → VK → Prop) : Prop := ∀ x y z H (Q Q' : VK), (∀ v H, Q v H → Q' v H) → r x y z H Q → r x y z H Q'
def MonG (g : TG) : Prop := ∀ v σ H (Q Q' : L2.St → Hp → Prop), (∀ σ H, Q σ H → Q' σ H) → g v σ H Q → g v σ H Q'
def MonGs (g : TGs) : Prop := ∀ v σ H (Q Q' : L2.St → Hp → Prop), (∀ σ H, Q σ H → Q' σ H) → g v σ H Q → g v σ H Q'
def MonI (t : TI) : Prop := ∀ σ H (Q Q' : It → Hp → Prop), (∀ v H, Q v H → Q' v H) → t σ H Q → t σ H Q'
def MonP (sp : Sp) : Prop := ∀ vs H (Q Q' : VK) E, (∀ v H, Q v H → Q' v H) → sp vs H Q E → sp vs H Q' E
def EndsLe (D D' : Ends) : Prop := (∀ σ H, D.nx σ H → D'.nx σ H) ∧ (∀ v H, D.rt v H → D'.rt v H) ∧ (∀ σ H, D.bk σ H → D'.bk σ H) ∧ (∀ σ H, D.ct σ H → D'.ct σ H)
def MonS (t : TS) : Prop := ∀ D D' σ H, EndsLe D D' → t D σ H → t D' σ H
section
variable {t u : TS} {te ta tb tc : TE} {c c' : TT} {g : TG} {gs : TGs} {tr : TA} {r r' : R2} {wi : TI}
/-- THE CUT: P holds between both -/
theorem rd_cut {D : Ends} {σ : L2.St} {H : Hp} (P : L2.St → Hp → Prop) (m : MonS t) (h1 : t { D with nx := P } σ H) (h2 : ∀ σ H, P σ H → u D σ H) : tSeq t u D σ H :=
  m { D with nx := P } { D with nx := u D } σ H ⟨h2, fun _ _ h => h, fun _ _ h => h, fun _ _ h => h⟩ h1
theorem rd_cutE {σ : L2.St} {H : Hp} {Q : VK} (P : VK) (m : MonE te) (h1 : te σ H P) (h2 : ∀ v H, P v H → Q v H) : te σ H Q := m _ _ _ _ h2 h1
theorem me_var {i : Nat} : MonE (tVar i) := fun σ H Q Q' h ⟨v, e, q⟩ => ⟨v, e, h _ _ q⟩
theorem me_c {v : V} : MonE (tC v) := fun σ H Q Q' h q => h _ _ q
theorem me_op (m : MonR r) (a : MonE ta) (b : MonE tb) : MonE (tOp r ta tb) := fun σ H Q Q' h q => a _ _ _ _ (fun _ _ z => b _ _ _ _ (fun _ _ z' => m _ _ _ _ _ h z') z) q
theorem me_un {r : V → Hp → VK → Prop} (m : MonU r) (a : MonE ta) : MonE (tUn r ta) := fun σ H Q Q' h q => a _ _ _ _ (fun _ _ z => m _ _ _ _ h z) q
theorem me_fld {K : PySem.W.Frag} {f : Str} (a : MonE ta) : MonE (tFld K ta f) := fun σ H Q Q' h q => a _ _ _ _ (fun _ _ ⟨x, C, dx, fs, v, e1, e2, e3, e4, e5, z⟩ => ⟨x, C, dx, fs, v, e1, e2, e3, e4, e5, h _ _ z⟩) q
theorem me_tup (a : MonA tr) : MonE (tTup tr) := fun σ H Q Q' h q => a _ _ _ _ (fun _ _ ⟨l, z⟩ => ⟨l, fun p hp => h _ _ (z p hp)⟩) q
theorem me_lst (a : MonA tr) : MonE (tLst tr) := fun σ H Q Q' h q => a _ _ _ _ (fun _ _ ⟨l, z⟩ => ⟨l, fun p hp => h _ _ (z p hp)⟩) q
theorem me_call {sp : Sp} {dvs : List V} {E : XK} (m : MonP sp) (a : MonA tr) : MonE (tCall sp dvs E tr) := fun σ H Q Q' h q => a _ _ _ _ (fun _ _ z => m _ _ _ _ _ h z) q
theorem me_meth {C : Addr} {n : Str} {sp : Sp} {dvs : List V} {E : XK} (m : MonP sp) (a : MonE ta) (b : MonA tr) : MonE (tMeth C n sp dvs E ta tr) := fun σ H Q Q' h q => a _ _ _ _ (fun _ _ ⟨x, dx, fs, e1, e2, e3, z⟩ => ⟨x, dx, fs, e1, e2, e3, b _ _ _ _ (fun _ _ y => m _ _ _ _ _ h y) z⟩) q
theorem me_cb {r : List V → Hp → VK → Prop} (m : MonC r) (a : MonA tr) : MonE (tCB r tr) := fun σ H Q Q' h q => a _ _ _ _ (fun _ _ z => m _ _ _ _ h z) q
theorem me_bm {K : PySem.W.Frag} {T : String} {r : V → List V → Hp → VK → Prop} (m : MonM r) (a : MonE ta) (b : MonA tr) : MonE (tBM K T r ta tr) := fun σ H Q Q' h q => a _ _ _ _ (fun _ _ ⟨y, z⟩ => ⟨y, b _ _ _ _ (fun _ _ z' => m _ _ _ _ _ h z') z⟩) q
theorem me_bm0 {K : PySem.W.Frag} {T : String} {r : V → List V → Hp → VK → Prop} (m : MonM r) (a : MonE ta) : MonE (tBM0 K T r ta) := fun σ H Q Q' h q => a _ _ _ _ (fun _ _ ⟨y, z⟩ => ⟨y, m _ _ _ _ _ h z⟩) q
theorem me_andV (a : MonE ta) (b : MonE tb) : MonE (tAndV ta tb) := fun σ H Q Q' h q => a _ _ _ _ (fun _ _ ⟨k, e, z⟩ => ⟨k, e, by cases k; exact h _ _ z; exact b _ _ _ _ h z⟩) q
theorem me_orV (a : MonE ta) (b : MonE tb) : MonE (tOrV ta tb) := fun σ H Q Q' h q => a _ _ _ _ (fun _ _ ⟨k, e, z⟩ => ⟨k, e, by cases k; exact b _ _ _ _ h z; exact h _ _ z⟩) q
theorem me_notV (a : MonE ta) : MonE (tNotV ta) := fun σ H Q Q' h q => a _ _ _ _ (fun _ _ ⟨k, e, z⟩ => ⟨k, e, h _ _ z⟩) q
theorem me_if (m : MonT c) (a : MonE ta) (b : MonE tb) : MonE (tIf c ta tb) := fun σ H Q Q' h q => m _ _ _ _ (fun k _ z => by cases k; exact b _ _ _ _ h z; exact a _ _ _ _ h z) q
theorem me_chain (m : MonR r) (m' : MonR r') (a : MonE ta) (b : MonE tb) (d : MonE tc) : MonE (tChain r r' ta tb tc) := fun σ H Q Q' h q =>
  a _ _ _ _ (fun _ _ z => b _ _ _ _ (fun _ _ z' => m _ _ _ _ _ (fun _ _ ⟨k, e, y⟩ => ⟨k, e, by cases k; exact h _ _ y; exact d _ _ _ _ (fun _ _ y' => m' _ _ _ _ _ h y') y⟩) z') z) q
theorem me_sl {rl : V → Option Int → Option Int → Hp → VK → Prop} {tl th : TO} (m : MonL rl) (a : MonE te) (b : MonO tl) (d : MonO th) : MonE (tSl rl te tl th) := fun σ H Q Q' h q => a _ _ _ _ (fun _ _ z => b _ _ _ _ (fun _ _ z => d _ _ _ _ (fun _ _ z => m _ _ _ _ _ _ h z) z) z) q
theorem me_dget {td ty : TE} (a : MonE td) (b : MonE ty) : MonE (tDGet td ty) := fun σ H Q Q' h q => a _ _ _ _ (fun _ _ z => b _ _ _ _ (fun _ _ ⟨x, v, e1, e2, z⟩ => ⟨x, v, e1, e2, h _ _ z⟩) z) q
theorem me_dget2 {td ty tx : TE} (a : MonE td) (b : MonE ty) (d : MonE tx) : MonE (tDGet2 td ty tx) := fun σ H Q Q' h q => a _ _ _ _ (fun _ _ ⟨x, e1, e2, z⟩ => ⟨x, e1, e2, b _ _ _ _ (fun _ _ z => d _ _ _ _ (fun _ _ ⟨o, e3, z⟩ => ⟨o, e3, h _ _ z⟩) z) z⟩) q
theorem me_din {td ty : TE} (a : MonE td) (b : MonE ty) : MonE (tDIn ty td) := fun σ H Q Q' h q => b _ _ _ _ (fun _ _ z => a _ _ _ _ (fun _ _ ⟨x, v, e1, e2, z⟩ => ⟨x, v, e1, e2, h _ _ z⟩) z) q
theorem me_dnotin {td ty : TE} (a : MonE td) (b : MonE ty) : MonE (tDNotIn ty td) := fun σ H Q Q' h q => b _ _ _ _ (fun _ _ z => a _ _ _ _ (fun _ _ ⟨x, v, e1, e2, z⟩ => ⟨x, v, e1, e2, h _ _ z⟩) z) q
theorem me_dsetd {td ty tx : TE} (a : MonE td) (b : MonE ty) (d : MonE tx) : MonE (tDSetd td ty tx) := fun σ H Q Q' h q =>
  a _ _ _ _ (fun _ _ ⟨x, e1, e2, z⟩ => ⟨x, e1, e2, b _ _ _ _ (fun _ _ z => d _ _ _ _ (fun _ _ ⟨kvs, k, e3, e4, e5, z1, z2⟩ => ⟨kvs, k, e3, e4, e5, fun v hv => h _ _ (z1 v hv), fun hv => h _ _ (z2 hv)⟩) z) z⟩) q
theorem mt_test' (a : MonE te) : MonT (tTest te) := fun σ H Q Q' h q => a _ _ _ _ (fun _ _ ⟨k, e, z⟩ => ⟨k, e, h _ _ z⟩) q
theorem mt_B (a : MonE te) : MonT (tB te) := fun σ H Q Q' h q => a _ _ _ _ (fun _ _ ⟨k, e, z⟩ => ⟨k, e, h _ _ z⟩) q
theorem mt_and (a : MonT c) (b : MonT c') : MonT (tAnd c c') := fun σ H Q Q' h q => a _ _ _ _ (fun k _ z => by cases k; exact h _ _ z; exact b _ _ _ _ h z) q
theorem mt_or (a : MonT c) (b : MonT c') : MonT (tOr c c') := fun σ H Q Q' h q => a _ _ _ _ (fun k _ z => by cases k; exact b _ _ _ _ h z; exact h _ _ z) q
theorem mt_not (a : MonT c) : MonT (tNot c) := fun σ H Q Q' h q => a _ _ _ _ (fun k _ z => h _ _ z) q
theorem ma_nil : MonA tNil := fun σ H Q Q' h q => h _ _ q
theorem ma_cons (a : MonE ta) (b : MonA tr) : MonA (tCons ta tr) := fun σ H Q Q' h q => a _ _ _ _ (fun _ _ z => b _ _ _ _ (fun _ _ y => h _ _ y) z) q
theorem mo_none : MonO tNoPart := fun σ H Q Q' h q => h _ _ q
theorem mo_some (a : MonE te) : MonO (tPart te) := fun σ H Q Q' h q => a _ _ _ _ (fun _ _ ⟨i, e, z⟩ => ⟨i, e, h _ _ z⟩) q
theorem mr_I0 {f : Int → Int → V} : MonR (rI0 f) := fun x y H Q Q' h ⟨i, j, a, b, q⟩ => ⟨i, j, a, b, h _ _ q⟩
theorem mr_I {C : Int → Int → Prop} {f : Int → Int → V} : MonR (rI C f) := fun x y H Q Q' h ⟨i, j, a, b, d, q⟩ => ⟨i, j, a, b, d, h _ _ q⟩
theorem mr_eq : MonR rEq := fun x y H Q Q' h ⟨a, q⟩ => ⟨a, h _ _ q⟩
theorem mr_ne : MonR rNe := fun x y H Q Q' h ⟨a, q⟩ => ⟨a, h _ _ q⟩
theorem mr_ixL {K : PySem.W.Frag} : MonR (rIxL K) := fun x y H Q Q' h ⟨p, xs, i, v, a, b, c, d, q⟩ => ⟨p, xs, i, v, a, b, c, d, h _ _ q⟩
theorem mr_ixT {K : PySem.W.Frag} : MonR (rIxT K) := fun x y H Q Q' h ⟨p, xs, i, v, a, b, c, d, q⟩ => ⟨p, xs, i, v, a, b, c, d, h _ _ q⟩
theorem mr_ixS : MonR rIxS := fun x y H Q Q' h ⟨p, xs, i, a, b, c, d, q⟩ => ⟨p, xs, i, a, b, c, d, h _ _ q⟩
theorem mr_cat : MonR rCat := fun x y H Q Q' h ⟨l, b, xs, zs, e1, e2, e3, e4, e5, q⟩ => ⟨l, b, xs, zs, e1, e2, e3, e4, e5, fun p hp => h _ _ (q p hp)⟩
theorem mr_in {K : PySem.W.Frag} {neg : Bool} : MonR (rIn K neg) := fun x y H Q Q' h ⟨p, xs, e1, e2, e3, e4, q⟩ => ⟨p, xs, e1, e2, e3, e4, h _ _ q⟩
theorem mr_isN : MonR (fun x y H Q => y = V.non ∧ Q (.bl (decide (x = .non))) H) := fun x y H Q Q' h ⟨a, q⟩ => ⟨a, h _ _ q⟩
theorem mr_notN : MonR (fun x y H Q => y = V.non ∧ Q (.bl (!decide (x = .non))) H) := fun x y H Q Q' h ⟨a, q⟩ => ⟨a, h _ _ q⟩
theorem mu_U {f : Int → V} : MonU (rU f) := fun x H Q Q' h ⟨i, a, q⟩ => ⟨i, a, h _ _ q⟩
theorem mc_len {K : PySem.W.Frag} : MonC (rLenS K) := fun x H Q Q' h ⟨p, ys, a, b, q⟩ => ⟨p, ys, a, b, h _ _ q⟩
theorem mc_isi {K : PySem.W.Frag} : MonC (rIsi K) := fun x H Q Q' h ⟨x', c, t, u, b, a1, a2, a3, a4, q⟩ => ⟨x', c, t, u, b, a1, a2, a3, a4, h _ _ q⟩
theorem mm_append : MonM rAppend := fun x y H Q Q' h ⟨l, xs, z, a, b, c, d, q⟩ => ⟨l, xs, z, a, b, c, d, h _ _ q⟩
theorem mg_name {i : Nat} : MonG (gName i) := fun v σ H Q Q' h q => h _ _ q
theorem mg_tup {K : PySem.W.Frag} {n : Nat} (m : MonGs gs) : MonG (gTup K n gs) := fun v σ H Q Q' h ⟨a, xs, e1, e2, e3, q⟩ => ⟨a, xs, e1, e2, e3, m _ _ _ _ _ h q⟩
theorem mgs_nil : MonGs gNil := fun v σ H Q Q' h ⟨e, q⟩ => ⟨e, h _ _ q⟩
theorem mgs_cons (a : MonG g) (b : MonGs gs) : MonGs (gCons g gs) := fun v σ H Q Q' h ⟨x, r, e, q⟩ => ⟨x, r, e, a _ _ _ _ _ (fun _ _ z => b _ _ _ _ _ h z) q⟩
theorem mi_L {K : PySem.W.Frag} (a : MonE te) : MonI (iList K te) := fun σ H Q Q' h q => a _ _ _ _ (fun _ _ ⟨x, e1, e2, z⟩ => ⟨x, e1, e2, h _ _ z⟩) q
theorem mi_T {K : PySem.W.Frag} (a : MonE te) : MonI (iTup K te) := fun σ H Q Q' h q => a _ _ _ _ (fun _ _ ⟨x, e1, e2, z⟩ => ⟨x, e1, e2, h _ _ z⟩) q
theorem mi_R1 (a : MonA tr) : MonI (iRng1 tr) := fun σ H Q Q' h q => a _ _ _ _ (fun _ _ ⟨j, e1, e2, e3, z⟩ => ⟨j, e1, e2, e3, h _ _ z⟩) q
theorem mi_R2 (a : MonA tr) : MonI (iRng2 tr) := fun σ H Q Q' h q => a _ _ _ _ (fun _ _ ⟨i, j, e1, e2, z⟩ => ⟨i, j, e1, e2, h _ _ z⟩) q
theorem mi_R3 (a : MonA tr) : MonI (iRng3 tr) := fun σ H Q Q' h q => a _ _ _ _ (fun _ _ ⟨i, j, c, n, e1, e2, z⟩ => ⟨i, j, c, n, e1, e2, h _ _ z⟩) q
theorem mi_E {K : PySem.W.Frag} (a : MonA tr) : MonI (iEnum K tr) := fun σ H Q Q' h q => a _ _ _ _ (fun _ _ ⟨x, xs, e1, e2, z⟩ => ⟨x, xs, e1, e2, h _ _ z⟩) q
theorem mi_S (a : MonE te) : MonI (iStr te) := fun σ H Q Q' h q => a _ _ _ _ (fun _ _ ⟨x, e1, z⟩ => ⟨x, e1, h _ _ z⟩) q
theorem mi_Z {K : PySem.W.Frag} (a : MonA tr) : MonI (iZip K tr) := fun σ H Q Q' h q => a _ _ _ _ (fun _ _ ⟨x, y, xs, ys, e1, e2, e3, z⟩ => ⟨x, y, xs, ys, e1, e2, e3, h _ _ z⟩) q
theorem EndsLe.seq {D D' : Ends} (h : EndsLe D D') {P P' : L2.St → Hp → Prop} (hp : ∀ σ H, P σ H → P' σ H) : EndsLe { D with nx := P } { D' with nx := P' } := ⟨hp, h.2.1, h.2.2.1, h.2.2.2⟩
theorem ms_next : MonS tNext := fun D D' σ H h q => h.1 _ _ q
theorem ms_seq (a : MonS t) (b : MonS u) : MonS (tSeq t u) := fun D D' σ H h q => a _ _ _ _ (h.seq fun _ _ z => b _ _ _ _ h z) q
theorem ms_asg (a : MonE te) (b : MonG g) : MonS (tAsg te g) := fun D D' σ H h q => a _ _ _ _ (fun _ _ z => b _ _ _ _ _ h.1 z) q
theorem ms_drop (a : MonE te) : MonS (tDrop te) := fun D D' σ H h q => a _ _ _ _ (fun _ _ z => h.1 _ _ z) q
theorem ms_ret (a : MonE te) : MonS (tRet te) := fun D D' σ H h q => a _ _ _ _ h.2.1 q
theorem ms_retN : MonS tRetN := fun D D' σ H h q => h.2.1 _ _ q
theorem ms_if (a : MonT c) (b : MonS t) (d : MonS u) : MonS (tIfS c t u) := fun D D' σ H h q => a _ _ _ _ (fun k _ z => by cases k; exact d _ _ _ _ h z; exact b _ _ _ _ h z) q
theorem ms_brk : MonS tBreak := fun D D' σ H h q => h.2.2.1 _ _ q
theorem ms_cont : MonS tCont := fun D D' σ H h q => h.2.2.2 _ _ q
theorem ms_never : MonS tNever := fun D D' σ H h q => q
theorem ms_dput {td ty tv : TE} (a : MonE td) (b : MonE ty) (d : MonE tv) : MonS (sDPut td ty tv) := fun D D' σ H h q => d _ _ _ _ (fun _ _ z => a _ _ _ _ (fun _ _ z => b _ _ _ _ (fun _ _ ⟨x, H4, e1, e2, z⟩ => ⟨x, H4, e1, e2, h.1 _ _ z⟩) z) z) q
theorem ms_fldS {K : PySem.W.Frag} {f : Str} (a : MonE ta) (b : MonE tb) : MonS (sFld K ta tb f) := fun D D' σ H h q => b _ _ _ _ (fun _ _ z => a _ _ _ _ (fun _ _ ⟨x, C, dx, fs, e1, e2, e3, e4, e5, z⟩ => ⟨x, C, dx, fs, e1, e2, e3, e4, e5, h.1 _ _ z⟩) z) q
theorem ms_for (a : MonI wi) (b : MonG g) (d : MonS t) : MonS (tFor wi g t) := fun D D' σ H h q =>
  a _ _ _ _ (fun J H1 ⟨W, w0, z⟩ => ⟨W, w0, fun i m σ H hw => by
    rcases z i m σ H hw with ⟨s, y⟩ | ⟨s, N, hN, y⟩
    · exact .inl ⟨s, h.1 _ _ y⟩
    · exact .inr ⟨s, N, hN, fun x H' hy => b _ _ _ _ _ (fun _ _ y' => d { D with nx := N, ct := N, bk := D.nx } { D' with nx := N, ct := N, bk := D'.nx } _ _ ⟨fun _ _ z => z, h.2.1, h.1, fun _ _ z => z⟩ y') (y x H' hy)⟩⟩) q
theorem ms_while (a : MonT c) (b : MonS t) : MonS (tWhile c t) := fun D D' σ H h ⟨W, w0, z⟩ => ⟨W, w0, fun m σ H hw => a _ _ _ _ (fun k H1 y => by
  cases k
  · exact h.1 _ _ y
  · obtain ⟨N, hN, y⟩ := y
    exact ⟨N, hN, b { D with nx := N, ct := N, bk := D.nx } { D' with nx := N, ct := N, bk := D'.nx } _ _ ⟨fun _ _ z => z, h.2.1, h.1, fun _ _ z => z⟩ y⟩) (z m σ H hw)⟩
theorem me_lc {te' : TE} {tt' : TT} {g' : TG} {vs : List Nat} (a : MonI wi) : MonE (tLc wi g' tt' te' vs) := fun σ H Q Q' h q => a _ _ _ _ (fun J H1 z D hD => by
  obtain ⟨W, w0, z⟩ := z D hD
  exact ⟨W, w0, fun i m H hw => (z i m H hw).imp (fun ⟨s, y⟩ => ⟨s, h _ _ y⟩) id⟩) q
theorem me_m1 {rm : V → List V → Hp → VK → Prop} (m : MonM rm) (a : MonE ta) (b : MonE tb) : MonE (tM1 rm ta tb) := fun σ H Q Q' h q => a _ _ _ _ (fun _ _ ⟨e, z⟩ => ⟨e, b _ _ _ _ (fun _ _ z' => m _ _ _ _ _ h z') z⟩) q
theorem mm_split : MonM (fun x xs H Q => ∃ a b, x = .str a ∧ xs = [.str b] ∧ (b.length == 0) = false ∧ a.length + 2 ≤ sizeLine ∧ rNewStrs (Txt.split a b) H Q) := fun x y H Q Q' h ⟨a, b, e1, e2, e3, e4, q⟩ => ⟨a, b, e1, e2, e3, e4, fun p hp => h _ _ (q p hp)⟩
end
end JF

local macro_rules | `(tactic| walk_at "mono1") => `(tactic| first | assumption | (with_reducible apply JF.me_var) | (with_reducible apply JF.me_c) | (with_reducible apply JF.me_op) | (with_reducible apply JF.me_un) | (with_reducible apply JF.me_fld) | (with_reducible apply JF.me_tup) | (with_reducible apply JF.me_lst) | (with_reducible apply JF.me_call) | (with_reducible apply JF.me_meth) | (with_reducible apply JF.me_cb) | (with_reducible apply JF.me_bm) | (with_reducible apply JF.me_bm0) | (with_reducible apply JF.me_andV) | (with_reducible apply JF.me_orV) | (with_reducible apply JF.me_notV) | (with_reducible apply JF.me_if) | (with_reducible apply JF.me_chain) | (with_reducible apply JF.me_sl) | (with_reducible apply JF.me_dget) | (with_reducible apply JF.me_dget2) | (with_reducible apply JF.me_din) | (with_reducible apply JF.me_dnotin) | (with_reducible apply JF.me_dsetd) | (with_reducible apply JF.me_lc) | (with_reducible apply JF.me_m1) | (with_reducible exact JF.mm_split) | (with_reducible apply JF.mt_test') | (with_reducible apply JF.mt_B) | (with_reducible apply JF.mt_and) | (with_reducible apply JF.mt_or) | (with_reducible apply JF.mt_not) | (with_reducible apply JF.ma_nil) | (with_reducible apply JF.ma_cons) | (with_reducible apply JF.mo_none) | (with_reducible apply JF.mo_some) | (with_reducible apply JF.mr_I0) | (with_reducible apply JF.mr_I) | (with_reducible apply JF.mr_eq) | (with_reducible apply JF.mr_ne) | (with_reducible apply JF.mr_ixL) | (with_reducible apply JF.mr_ixT) | (with_reducible apply JF.mr_ixS) | (with_reducible apply JF.mr_cat) | (with_reducible apply JF.mr_in) | (with_reducible apply JF.mr_isN) | (with_reducible apply JF.mr_notN) | (with_reducible apply JF.mu_U) | (with_reducible apply JF.mc_len) | (with_reducible apply JF.mc_isi) | (with_reducible apply JF.mm_append) | (with_reducible apply JF.mg_name) | (with_reducible apply JF.mg_tup) | (with_reducible apply JF.mgs_nil) | (with_reducible apply JF.mgs_cons) | (with_reducible apply JF.mi_L) | (with_reducible apply JF.mi_T) | (with_reducible apply JF.mi_R1) | (with_reducible apply JF.mi_R2) | (with_reducible apply JF.mi_R3) | (with_reducible apply JF.mi_E) | (with_reducible apply JF.mi_S) | (with_reducible apply JF.mi_Z) | (with_reducible apply JF.ms_next) | (with_reducible apply JF.ms_seq) | (with_reducible apply JF.ms_asg) | (with_reducible apply JF.ms_drop) | (with_reducible apply JF.ms_ret) | (with_reducible apply JF.ms_retN) | (with_reducible apply JF.ms_if) | (with_reducible apply JF.ms_brk) | (with_reducible apply JF.ms_cont) | (with_reducible apply JF.ms_never) | (with_reducible apply JF.ms_dput) | (with_reducible apply JF.ms_fldS) | (with_reducible apply JF.ms_for) | (with_reducible apply JF.ms_while))
local macro_rules | `(tactic| walk_at "mono") => `(tactic| repeat' walk_at "mono1")
/-! ### a grove in the heap -/
namespace JF
open PySem PySem.Spec PyProof.Rows L2
theorem nodup_sub_len {α : Type} [DecidableEq α] : ∀ (l m : List α), l.Nodup → (∀ x ∈ l, x ∈ m) → l.length ≤ m.length
  | [], m, _, _ => Nat.zero_le _
  | x :: l, m, h, hs => by
    rw [List.nodup_cons] at h
    have hx : x ∈ m := hs x List.mem_cons_self
    have ih := nodup_sub_len l (m.erase x) h.2 fun y hy => (List.mem_erase_of_ne (fun e => h.1 (by rw [← e]; exact hy))).mpr (hs y (List.mem_cons_of_mem _ hy))
    rw [List.length_erase_of_mem hx] at ih
    have : 0 < m.length := List.length_pos_of_mem hx
    show l.length + 1 ≤ m.length
    omega
theorem states_len {l : List Int} (h : l.Nodup) (hs : ∀ x ∈ l, 0 ≤ x ∧ x ≤ 7) : l.length ≤ 8 :=
  nodup_sub_len l [0, 1, 2, 3, 4, 5, 6, 7] h fun x hx => by
    have := hs x hx
    simp only [List.mem_cons, List.not_mem_nil, or_false]
    omega
structure GA where
  g : Addr
  dx : Addr
  dn : Addr
  dm : Addr
  dl : Addr
  dv : Addr
  ds : Addr
  dp : Addr
def GA.flds (a : GA) : List (Str × V) := [("numbers", .ref a.dn), ("made", .ref a.dm), ("levels", .ref a.dl), ("lives", .ref a.dv), ("spans", .ref a.ds), ("plain", .ref a.dp)]
def GA.m5 (a : GA) : List Addr := [a.dn, a.dm, a.dl, a.dv, a.ds]
def GA.muts (a : GA) (rows : List (Int × Addr)) : List Addr := a.m5 ++ a.dp :: rows.map (·.2)
/-- a span as a value -/
def SpanV (H : Hp) (v : V) : Option Box → Prop
  | none => v = .non
  | some b => ∃ p, v = .ref p ∧ H p = some (.tup [.int b.1, .int b.2.1, .int b.2.2.1, .int b.2.2.2])
theorem SpanV.keep {H H' : Hp} {v : V} {o : Option Box} (h : SpanV H v o) (k : ∀ b xs, H b = some (.tup xs) → H' b = some (.tup xs)) : SpanV H' v o := by
  cases o with
  | none => exact h
  | some b =>
    obtain ⟨p, e, hp⟩ := h
    exact ⟨p, e, k _ _ hp⟩
/-- what the lists of a grove hold -/
structure GData (H : Hp) (a : GA) (q : List Sq) (tups : List Addr) (mk : List (List Int)) (spt : List V) : Prop where
  hn : H a.dn = some (.dT (kvsOf mk 0))
  hm : H a.dm = some (.lst (tups.map V.ref))
  hl : H a.dl = some (.lst (q.map fun S => V.int (S.level : Int)))
  hv : H a.dv = some (.lst (q.map fun S => V.int S.lives))
  hs : H a.ds = some (.lst spt)
  lt : tups.length = q.length
  lm : mk.length = q.length
  ls : spt.length = q.length
  tu : ∀ (i : Nat) t m, tups[i]? = some t → mk[i]? = some m → H t = some (.tup (m.map V.int))
  sp : ∀ (i : Nat) v S, spt[i]? = some v → q[i]? = some S → SpanV H v S.span
  md : ∀ (i : Nat) m S, mk[i]? = some m → q[i]? = some S → Made q S m
structure GAt (C : Addr) (H : Hp) (a : GA) (rows : List (Int × Addr)) (q : List Sq) : Prop where
  ob : H a.g = some (.ins C a.dx a.flds)
  da : ∃ tups mk spt, GData H a q tups mk spt
  wf : ∀ S ∈ q, S.wf
  qn : q.Nodup
  pl : H a.dp = some (.dK (rows.map fun sa => ((Sum.inl sa.1 : Key), V.ref sa.2)))
  nd : (a.g :: a.muts rows).Nodup
  rn : (rows.map (·.1)).Nodup
  rs : ∀ s ∈ rows.map (·.1), 0 ≤ s ∧ s ≤ 7
  ro : ∀ s b, (s, b) ∈ rows → ∃ ns : List Nat, H b = some (.lst (ns.map fun (n : Nat) => V.int (n : Int))) ∧ ∀ (i : Nat) n, ns[i]? = some n → q[n]? = some (Sq.even i s)
/-- all but what stands at these addresses is as it was -/
def Fr (S : List Addr) (H H' : Hp) : Prop := ∀ b o, H b = some o → b ∉ S → H' b = some o
theorem Fr.refl (S : List Addr) (H : Hp) : Fr S H H := fun _ _ h _ => h
theorem Fr.trans {S : List Addr} {H H1 H2 : Hp} (x : Fr S H H1) (y : Fr S H1 H2) : Fr S H H2 := fun b o h n => y b o (x b o h n) n
theorem Fr.mono {S S' : List Addr} {H H' : Hp} (x : Fr S H H') (h : ∀ b ∈ S, b ∈ S') : Fr S' H H' := fun b o e n => x b o e fun z => n (h b z)
theorem fr_of {S : List Addr} {H H' : Hp} (x : Same H H') : Fr S H H' := fun b o e _ => x b o e
def HO.still : HO → Prop
  | .tup _ | .ins _ _ _ | .own _ => True
  | _ => False
/-- a grove stands where its own lists, the tuples and the instances are kept -/
theorem GAt.keep {C : Addr} {H H' : Hp} {a : GA} {rows : List (Int × Addr)} {q : List Sq} (G : GAt C H a rows q) (k : ∀ b o, H b = some o → HO.still o ∨ b ∈ a.muts rows → H' b = some o) : GAt C H' a rows q := by
  obtain ⟨tups, mk, spt, D⟩ := G.da
  have mem : ∀ b, b ∈ a.m5 → b ∈ a.muts rows := fun b h => List.mem_append_left _ h
  refine ⟨k _ _ G.ob (.inl trivial), ⟨tups, mk, spt, k _ _ D.hn (.inr (mem _ (by simp [GA.m5]))), k _ _ D.hm (.inr (mem _ (by simp [GA.m5]))), k _ _ D.hl (.inr (mem _ (by simp [GA.m5]))), k _ _ D.hv (.inr (mem _ (by simp [GA.m5]))), k _ _ D.hs (.inr (mem _ (by simp [GA.m5]))), D.lt, D.lm, D.ls,
    fun i t m h1 h2 => k _ _ (D.tu i t m h1 h2) (.inl trivial), fun i v S h1 h2 => (D.sp i v S h1 h2).keep fun b xs e => k _ _ e (.inl trivial), D.md⟩, G.wf, G.qn, k _ _ G.pl (.inr (by simp [GA.muts])), G.nd, G.rn, G.rs, fun s b h => ?_⟩
  obtain ⟨ns, h1, h2⟩ := G.ro s b h
  refine ⟨ns, k _ _ h1 (.inr ?_), h2⟩
  unfold GA.muts
  exact List.mem_append_right _ (List.mem_cons_of_mem _ (List.mem_map_of_mem (f := fun sa : Int × Addr => sa.2) h))
theorem GAt.same {C : Addr} {H H' : Hp} {a : GA} {rows : List (Int × Addr)} {q : List Sq} (G : GAt C H a rows q) (s : Same H H') : GAt C H' a rows q := G.keep fun b o e _ => s b o e
/-- a new object is laid -/
theorem same_upd {H : Hp} {p : Addr} {o : HO} (h : H p = none) : Same H (upd H p o) := fun b u e => by rw [upd_ne (ne_of_none e h)]; exact e
/-- a list, a dict of the asker's own is changed -/
theorem GAt.upd {C : Addr} {H : Hp} {a : GA} {rows : List (Int × Addr)} {q : List Sq} {p : Addr} {o : HO} (G : GAt C H a rows q) (hp : ∀ u, H p = some u → ¬ HO.still u) (hn : p ∉ a.muts rows) : GAt C (upd H p o) a rows q :=
  G.keep fun b u e h => by
    rw [upd_ne]
    · exact e
    · rintro rfl
      rcases h with h | h
      · exact hp u e h
      · exact hn h
/-- a grove goes on: what was is as it was, squares were added -/
structure GStep (C : Addr) (H : Hp) (a : GA) (rows : List (Int × Addr)) (q : List Sq) (H' : Hp) (rows' : List (Int × Addr)) (q' : List Sq) : Prop where
  gat : GAt C H' a rows' q'
  pre : q <+: q'
  fr : Fr (a.muts rows) H H'
  new : ∀ b ∈ a.muts rows', b ∈ a.muts rows ∨ H b = none
theorem GStep.refl {C : Addr} {H : Hp} {a : GA} {rows : List (Int × Addr)} {q : List Sq} (G : GAt C H a rows q) : GStep C H a rows q H rows q := ⟨G, List.prefix_refl _, Fr.refl _ _, fun _ h => .inl h⟩
theorem GStep.trans {C : Addr} {H H1 H2 : Hp} {a : GA} {rows r1 r2 : List (Int × Addr)} {q q1 q2 : List Sq} (x : GStep C H a rows q H1 r1 q1) (y : GStep C H1 a r1 q1 H2 r2 q2) : GStep C H a rows q H2 r2 q2 := by
  refine ⟨y.gat, x.pre.trans y.pre, fun b o e n => ?_, fun b h => ?_⟩
  · refine y.fr b o (x.fr b o e n) fun z => ?_
    rcases x.new b z with z | z
    · exact n z
    · rw [e] at z; cases z
  · rcases y.new b h with z | z
    · exact x.new b z
    · by_cases hb : b ∈ a.muts rows
      · exact .inl hb
      · right
        cases q : H b with
        | none => rfl
        | some o =>
          rw [x.fr b o q hb] at z
          cases z
/-- the asker's own things are kept, and stay the asker's own -/
theorem GStep.own {C : Addr} {H H1 : Hp} {a : GA} {rows r1 : List (Int × Addr)} {q q1 : List Sq} (x : GStep C H a rows q H1 r1 q1) {b : Addr} {o : HO} (h : H b = some o) (n : b ∉ a.muts rows) : H1 b = some o ∧ b ∉ a.muts r1 :=
  ⟨x.fr b o h n, fun z => (x.new b z).elim n fun z => by rw [h] at z; cases z⟩
theorem pre_get {q q' : List Sq} (h : q <+: q') {n : Nat} {S : Sq} (e : q[n]? = some S) : q'[n]? = some S := by
  obtain ⟨t, rfl⟩ := h
  exact getElem?_app e t
theorem ne_app {H : Hp} {b : Addr} {o : HO} {S : List Addr} (h : H b = some o) (hs : ∀ c ∈ S, ∀ u, H c = some u → o ≠ u) (hn : ∀ c ∈ S, ∃ u, H c = some u) : b ∉ S := fun z => by
  obtain ⟨u, e⟩ := hn b z
  refine hs b z u e ?_
  rw [h] at e
  exact Option.some.inj e
/-- a tuple is none of a grove's own lists -/
theorem GAt.tup_out {C : Addr} {H : Hp} {a : GA} {rows : List (Int × Addr)} {q : List Sq} (G : GAt C H a rows q) {b : Addr} {xs : List V} (h : H b = some (.tup xs)) : b ∉ a.muts rows := by
  obtain ⟨tups, mk, spt, D⟩ := G.da
  intro z
  unfold GA.muts GA.m5 at z
  simp only [List.cons_append, List.nil_append, List.mem_cons, List.mem_map] at z
  rcases z with rfl | rfl | rfl | rfl | rfl | rfl | ⟨sa, hm, rfl⟩
  · rw [D.hn] at h; cases h
  · rw [D.hm] at h; cases h
  · rw [D.hl] at h; cases h
  · rw [D.hv] at h; cases h
  · rw [D.hs] at h; cases h
  · rw [G.pl] at h; cases h
  · obtain ⟨ns, e, _⟩ := G.ro sa.1 sa.2 hm
    rw [e] at h; cases h
/-- what is new is none of them -/
theorem GAt.new_out {C : Addr} {H : Hp} {a : GA} {rows : List (Int × Addr)} {q : List Sq} (G : GAt C H a rows q) {b : Addr} (h : H b = none) : b ∉ a.muts rows := by
  obtain ⟨tups, mk, spt, D⟩ := G.da
  intro z
  unfold GA.muts GA.m5 at z
  simp only [List.cons_append, List.nil_append, List.mem_cons, List.mem_map] at z
  rcases z with rfl | rfl | rfl | rfl | rfl | rfl | ⟨sa, hm, rfl⟩
  · rw [D.hn] at h; cases h
  · rw [D.hm] at h; cases h
  · rw [D.hl] at h; cases h
  · rw [D.hv] at h; cases h
  · rw [D.hs] at h; cases h
  · rw [G.pl] at h; cases h
  · obtain ⟨ns, e, _⟩ := G.ro sa.1 sa.2 hm
    rw [e] at h; cases h
end JF

/-! ### the grove's small defs -/
namespace JF
open PySem PySem.Spec PyProof.Rows L2
section
variable {P : Program} {w : World} {K : PySem.W.Frag} {mg : Str → Option Value} {base : Heap}
/-- is_whole of a whole number, a truth, a text, None -/
def wholeV : V → Bool
  | .int _ => true
  | _ => false
def sp_is_whole : Sp := fun vs H Q _ => ∃ x : V, vs = [x] ∧ ((∃ i, x = .int i) ∨ (∃ b, x = .bl b) ∨ (∃ z, x = .str z) ∨ x = .non) ∧ Q (.bl (wholeV x)) H
theorem isi_ty {H : Hp} {Q : VK} {x : V} {a b : String} {r : Bool} (h : TyX K H x (.type a)) (k : kitB a b = some r) (q : Q (.bl r) H) : rIsi K [x, .ty b] H Q :=
  ⟨x, .ty b, _, _, r, rfl, .ty b, h, kit_ty k, q⟩
theorem ok_is_whole (T : Env fa fn K mg) : Good P w K mg base CX0 1 ("is_whole", none) ["thing"] sp_is_whole := by
  refine good_mk T 0 (d := d_is_whole) (N := ["thing"]) (ps := ["thing"]) rfl rfl sc_is_whole (fun _ _ _ _ _ _ us hl => match us, hl with | [_], _ => rfl) (fun vs H Q E h => ?_) (fun f cdv A outer s H vs Q E hr h => ?_)
  · obtain ⟨x, rfl, _⟩ := h; rfl
  · obtain ⟨x, rfl, hx, k⟩ := h
    refine ⟨_, (pss_one (ps_ret (pe_and (pe_callB (call_isiK K rfl) (by rfl) (T.free 1) (by decide +kernel) (pa_cons (pv 0) (pa_cons (pe_bltn (v := V.ty "int") rfl (T.free 2) (by decide +kernel) rfl) pa_nil))) (pe_one (pe_not (pe_callB (call_isiK K rfl) (by rfl) (T.free 1) (by decide +kernel) (pa_cons (pv 0) (pa_cons (pe_bltn (v := V.ty "bool") rfl (T.free 0) (by decide +kernel) rfl) pa_nil)))))))), ?_⟩
    walk_at "rd"
    rcases hx with ⟨i, rfl⟩ | ⟨b, rfl⟩ | ⟨z, rfl⟩ | rfl
    · refine isi_ty (.base (.int i)) (by decide +kernel : kitB "int" "int" = some true) ?_
      walk_at "rd"
      refine isi_ty (.base (.int i)) (by decide +kernel : kitB "int" "bool" = some false) ?_
      walk_at "rd"
      exact k
    · refine isi_ty (.base (.bl b)) (by decide +kernel : kitB "bool" "int" = some true) ?_
      walk_at "rd"
      refine isi_ty (.base (.bl b)) (by decide +kernel : kitB "bool" "bool" = some true) ?_
      walk_at "rd"
      exact k
    · refine isi_ty (.base (.str z)) (by decide +kernel : kitB "str" "int" = some false) ?_
      walk_at "rd"
      exact k
    · refine isi_ty (.base .non) (by decide +kernel : kitB "NoneType" "int" = some false) ?_
      walk_at "rd"
      exact k
/-! ### a state -/
def stateV : V → Bool
  | .int i => decide (0 ≤ i) && decide (i ≤ 7)
  | _ => false
theorem stateV_ok {s : Int} (h0 : 0 ≤ s) (h7 : s ≤ 7) : stateV (.int s) = true := by show (decide (0 ≤ s) && decide (s ≤ 7)) = true; rw [decide_eq_true h0, decide_eq_true h7]; rfl
def sp_is_state : Sp := fun vs H Q _ => ∃ x : V, vs = [x] ∧ ((∃ i, x = .int i) ∨ (∃ b, x = .bl b) ∨ (∃ z, x = .str z) ∨ x = .non) ∧ Q (.bl (stateV x)) H
theorem ok_is_state (T : Env fa fn K mg) : Good P w K mg base CX0 2 ("is_state", none) ["thing"] sp_is_state := by
  have G_is_whole := ok_is_whole (P := P) (w := w) (base := base) T
  refine good_mk T 3 (d := d_is_state) (N := ["thing"]) (ps := ["thing"]) rfl rfl sc_is_state (fun _ _ _ _ _ _ us hl => match us, hl with | [_], _ => rfl) (fun vs H Q E h => ?_) (fun f cdv A outer s H vs Q E hr h => ?_)
  · obtain ⟨x, rfl, _⟩ := h; rfl
  · obtain ⟨x, rfl, hx, k⟩ := h
    refine ⟨_, (pss_one (ps_ret (pe_and (pe_cgK K rfl G_is_whole (hr.mono (by decide)) (T.glo 7) (pa_cons (pv 0) pa_nil)) (pe_one (pe_chain op_le op_le pe_int (pv 0) pe_int))))), ?_⟩
    walk_at "rd"
    refine ⟨x, rfl, hx, ?_⟩
    walk_at "rd"
    rcases hx with ⟨i, rfl⟩ | ⟨b, rfl⟩ | ⟨z, rfl⟩ | rfl
    · refine iteT ?_
      walk_at "rd"
      have k' : Q (.bl (decide (0 ≤ i) && decide (i ≤ 7))) H := k
      by_cases h0 : 0 ≤ i
      · rw [decide_eq_true h0] at k' ⊢
        walk_at "rd"
        exact k'
      · rw [decide_eq_false h0] at k' ⊢
        walk_at "rd"
        exact k'
    · refine iteF ?_
      exact k
    · refine iteF ?_
      exact k
    · refine iteF ?_
      exact k
/-! ### boxes -/
def sp_round_both : Sp := fun vs H Q _ => ∃ (v : V) (o : Option Box) (p : Addr) (b : Box), vs = [v, .ref p] ∧ SpanV H v o ∧ SpanV H (.ref p) (some b) ∧ ∀ H' u, Same H H' → SpanV H' u (some (rb o b)) → Q u H'
theorem min_if (a b : Int) : (if b < a then b else a) = min a b := by rw [Int.min_def]; split <;> split <;> omega
theorem max_if (a b : Int) : (if b > a then b else a) = max a b := by rw [Int.max_def]; split <;> split <;> omega
theorem ok_round_both (T : Env fa fn K mg) : Good P w K mg base CX0 1 ("round_both", none) ["one", "other"] sp_round_both := by
  refine good_mk T 1 (d := d_round_both) (N := ["one", "other", "left", "top", "right", "low"]) (ps := ["one", "other"]) rfl rfl sc_round_both (fun _ _ _ _ _ _ us hl => match us, hl with | [_, _], _ => rfl) (fun vs H Q E h => ?_) (fun f cdv A outer s H vs Q E hr h => ?_)
  · obtain ⟨v, o, p, b, rfl, _⟩ := h; rfl
  · obtain ⟨v, o, p, b, rfl, hv, ⟨p', e, hp⟩, k⟩ := h
    cases e
    refine ⟨_, (pss_cons (ps_if (pt_cmpR op_isN (pv 0) pe_non (nomark _)) (pss_one (ps_ret (pv 1))) pss_nil)
      (pss_cons (ps_set (i := 2) sc_round_both.nd rfl (Or.inl rfl) (pe_callB (call_min2 rfl) (by rfl) (T.free 3) (by decide +kernel) (pa_cons (pe_ix (ix_tupK K rfl) (pv 0) pe_int (fun _ _ => rfl)) (pa_cons (pe_ix (ix_tupK K rfl) (pv 1) pe_int (fun _ _ => rfl)) pa_nil))))
      (pss_cons (ps_set (i := 3) sc_round_both.nd rfl (Or.inl rfl) (pe_callB (call_min2 rfl) (by rfl) (T.free 3) (by decide +kernel) (pa_cons (pe_ix (ix_tupK K rfl) (pv 0) pe_int (fun _ _ => rfl)) (pa_cons (pe_ix (ix_tupK K rfl) (pv 1) pe_int (fun _ _ => rfl)) pa_nil))))
      (pss_cons (ps_set (i := 4) sc_round_both.nd rfl (Or.inl rfl) (pe_callB (call_max2 rfl) (by rfl) (T.free 4) (by decide +kernel) (pa_cons (pe_op op_add (pe_ix (ix_tupK K rfl) (pv 0) pe_int (fun _ _ => rfl)) (pe_ix (ix_tupK K rfl) (pv 0) pe_int (fun _ _ => rfl))) (pa_cons (pe_op op_add (pe_ix (ix_tupK K rfl) (pv 1) pe_int (fun _ _ => rfl)) (pe_ix (ix_tupK K rfl) (pv 1) pe_int (fun _ _ => rfl))) pa_nil))))
      (pss_cons (ps_set (i := 5) sc_round_both.nd rfl (Or.inl rfl) (pe_callB (call_max2 rfl) (by rfl) (T.free 4) (by decide +kernel) (pa_cons (pe_op op_add (pe_ix (ix_tupK K rfl) (pv 0) pe_int (fun _ _ => rfl)) (pe_ix (ix_tupK K rfl) (pv 0) pe_int (fun _ _ => rfl))) (pa_cons (pe_op op_add (pe_ix (ix_tupK K rfl) (pv 1) pe_int (fun _ _ => rfl)) (pe_ix (ix_tupK K rfl) (pv 1) pe_int (fun _ _ => rfl))) pa_nil))))
      (pss_one (ps_ret (pe_tup (pa_cons (pv 2) (pa_cons (pv 3) (pa_cons (pe_op op_sub (pv 4) (pv 2)) (pa_cons (pe_op op_sub (pv 5) (pv 3)) pa_nil)))))))))))), ?_⟩
    walk_at "rd"
    cases o with
    | none =>
      have e : v = .non := hv
      subst e
      refine iteT ?_
      walk_at "rd"
      exact k H _ (Same.refl H) ⟨p, rfl, hp⟩
    | some a =>
      obtain ⟨q, rfl, hq⟩ := hv
      refine iteF ?_
      walk_at "rd"
      refine rd_new (hn := by show 4 ≤ sizeLine; decide) fun t ht => ?_
      walk_at "rd"
      refine k _ _ (fun b o e => by rw [upd_ne (ne_of_none e ht)]; exact e) ⟨t, rfl, ?_⟩
      rw [upd_same]
      simp only [rb, min_if, max_if]
/-! ### the span of four -/
def acc4 (half : Int) (os : List (Option Box)) : Nat → Option Box
  | 0 => none
  | k + 1 => r4step half (k : Int) (acc4 half os k) (os.getD k none)
def sp_round_four : Sp := fun vs H Q _ => ∃ (p : Addr) (us : List V) (os : List (Option Box)) (half : Int), vs = [.ref p, .int half] ∧ H p = some (.lst us) ∧ us.length = 4 ∧ os.length = 4 ∧ (∀ (i : Nat) v o, us[i]? = some v → os[i]? = some o → SpanV H v o) ∧
  0 ≤ half ∧ half < 2 ^ 64 ∧ ∀ H' u, Same H H' → SpanV H' u (acc4 half os 4) → Q u H'
theorem half_ok {h x : Int} (h0 : 0 ≤ h) (h1 : h < 2 ^ 64) (x0 : 0 ≤ x) (x1 : x < 4) : CMulW h x := by
  have e1 : (2 : Int) ^ 64 ≤ 2 ^ 2000 := by decide +kernel
  have e2 : (4 : Int) ≤ 2 ^ 2000 := by decide +kernel
  exact mulW_of (by omega) (by omega) (by omega) (by omega)
theorem ok_round_four (T : Env fa fn K mg) : Good P w K mg base CX0 2 ("round_four", none) ["spans", "half"] sp_round_four := by
  have G_round_both := ok_round_both (P := P) (w := w) (base := base) T
  refine good_mk T 2 (d := d_round_four) (N := ["spans", "half", "found", "at", "span", "left", "top"]) (ps := ["spans", "half"]) rfl rfl sc_round_four (fun _ _ _ _ _ _ us hl => match us, hl with | [_, _], _ => rfl) (fun vs H Q E h => ?_) (fun f cdv A outer s H vs Q E hr h => ?_)
  · obtain ⟨p, us, os, half, rfl, _⟩ := h; rfl
  · obtain ⟨p, us, os, half, rfl, hp, hu, ho, hs, h0, h1, k⟩ := h
    refine ⟨_, (pss_cons (ps_set (i := 2) sc_round_four.nd rfl (Or.inl rfl) pe_non)
      (pss_cons (ps_for PassesOwn.never rfl (pi_enum (by rfl) (T.free 5) (pa_cons (pv 0) pa_nil)) (pg_tup rfl (pgs_cons (pg_name (i := 3) sc_round_four.nd rfl (Or.inl rfl)) (pgs_cons (pg_name (i := 4) sc_round_four.nd rfl (Or.inl rfl)) pgs_nil))) (pss_one (ps_if (pt_cmpR op_notN (pv 4) pe_non (nomark _)) (pss_cons (ps_set (i := 5) sc_round_four.nd rfl (Or.inl rfl) (pe_op op_add (pe_ix (ix_tupK K rfl) (pv 4) pe_int (fun _ _ => rfl)) (pe_op op_mulW (pv 1) (pe_op op_mod (pv 3) pe_int))))
      (pss_cons (ps_set (i := 6) sc_round_four.nd rfl (Or.inl rfl) (pe_op op_add (pe_ix (ix_tupK K rfl) (pv 4) pe_int (fun _ _ => rfl)) (pe_op op_mulW (pv 1) (pe_op op_fdivW (pv 3) pe_int))))
      (pss_one (ps_set (i := 2) sc_round_four.nd rfl (Or.inl rfl) (pe_cgK K rfl G_round_both (hr.mono (by decide)) (T.glo 6) (pa_cons (pv 2) (pa_cons (pe_tup (pa_cons (pv 5) (pa_cons (pv 6) (pa_cons (pe_ix (ix_tupK K rfl) (pv 4) pe_int (fun _ _ => rfl)) (pa_cons (pe_ix (ix_tupK K rfl) (pv 4) pe_int (fun _ _ => rfl)) pa_nil))))) pa_nil))))))) pss_nil)))
      (pss_one (ps_ret (pv 2))))), ?_⟩
    walk_at "rd"
    refine ⟨p, us, rfl, SqL.of hp, ?_⟩
    refine for_it (walk_enum (xs := us)) (fun i σ H' => ∃ f x1 x2 x3 x4, σ = [some (.ref p), some (.int half), some f, x1, x2, x3, x4] ∧ Same H H' ∧ SpanV H' f (acc4 half os i)) ?_ ?_ ?_ ?_
    · exact ⟨.non, none, none, none, none, rfl, Same.refl H, rfl⟩
    · rintro i σ H' _ ⟨_, _, _, _, _, _, s1, _⟩
      exact SqL.of (s1 _ _ hp)
    · rintro i x σ H1 H2 hi ⟨f, x1, x2, x3, x4, rfl, s1, hf⟩ ⟨t, x, y, rfl, ht, rfl, ex, ey⟩
      cases ex
      have hu2 : us[i]? = some y := ey
      have s2 : Same H1 (upd H1 t (.tup [V.int (i : Nat), y])) := fun b o e => by rw [upd_ne (ne_of_none e ht)]; exact e
      have hT : (upd H1 t (.tup [V.int (i : Nat), y])) t = some (.tup [V.int (i : Nat), y]) := upd_same
      walk_at "rd"
      have hi4 : i < 4 := by omega
      obtain ⟨o, ho2⟩ : ∃ o, os[i]? = some o := ⟨os[i], by simp [ho, hi4]⟩
      have eo : os.getD i none = o := by simp [List.getD, ho2]
      have hy := hs i y o hu2 ho2
      cases o with
      | none =>
        have e : y = .non := hy
        subst e
        refine iteF ?_
        walk_at "rd"
        refine ⟨f, _, _, x3, x4, rfl, s1.trans s2, ?_⟩
        show SpanV _ f (r4step half (i : Int) (acc4 half os i) (os.getD i none))
        rw [eo]
        exact hf.keep fun b xs e => s2 _ _ e
      | some b =>
        obtain ⟨q, rfl, hq⟩ := hy
        have hq2 := s2 _ _ (s1 _ _ hq)
        refine iteT ?_
        walk_at "rd"
        refine rd_I (half_ok h0 h1 (by omega) (by omega)) ?_
        walk_at "rd"
        refine rd_I (half_ok h0 h1 (by omega) (by omega)) ?_
        walk_at "rd"
        refine rd_new (hn := by show 4 ≤ sizeLine; decide) fun t2 ht2 => ?_
        have s3 : ∀ o, Same (upd H1 t (.tup [V.int (i : Nat), .ref q])) (upd (upd H1 t (.tup [V.int (i : Nat), .ref q])) t2 o) := fun o b' o' e => by rw [upd_ne (ne_of_none e ht2)]; exact e
        walk_at "rd"
        refine ⟨f, acc4 half os i, t2, (b.1 + half * ((i : Int) % 2), b.2.1 + half * ((i : Int) / 2), b.2.2.1, b.2.2.2), rfl, (hf.keep fun b xs e => s3 _ _ _ (s2 _ _ e)), ⟨t2, rfl, upd_same⟩, fun H3 u s4 hu3 => ?_⟩
        walk_at "rd"
        refine ⟨u, _, _, _, _, rfl, (s1.trans s2).trans ((s3 _).trans s4), ?_⟩
        show SpanV _ u (r4step half (i : Int) (acc4 half os i) (os.getD i none))
        rw [eo]
        exact hu3
    · rintro σ H' ⟨f, x1, x2, x3, x4, rfl, s1, hf⟩
      rw [hu] at hf
      walk_at "rd"
      exact k _ _ s1 hf
end
end JF

/-! ### the grove's methods: kept, cell, knit -/
namespace JF
open PySem PySem.Spec PyProof.Rows L2
/-- the class stands at -/
abbrev CG (K : PySem.W.Frag) : Addr := He.ga K "Grove"
theorem nd_of {a : GA} {rows : List (Int × Addr)} (h : (a.g :: a.muts rows).Nodup) :
    (a.g ≠ a.dn ∧ a.g ≠ a.dm ∧ a.g ≠ a.dl ∧ a.g ≠ a.dv ∧ a.g ≠ a.ds ∧ a.g ≠ a.dp) ∧ (a.dn ≠ a.dm ∧ a.dn ≠ a.dl ∧ a.dn ≠ a.dv ∧ a.dn ≠ a.ds ∧ a.dn ≠ a.dp) ∧ (a.dm ≠ a.dl ∧ a.dm ≠ a.dv ∧ a.dm ≠ a.ds ∧ a.dm ≠ a.dp) ∧ (a.dl ≠ a.dv ∧ a.dl ≠ a.ds ∧ a.dl ≠ a.dp) ∧ (a.dv ≠ a.ds ∧ a.dv ≠ a.dp) ∧ a.ds ≠ a.dp ∧
      ∀ s b, (s, b) ∈ rows → b ≠ a.g ∧ b ≠ a.dn ∧ b ≠ a.dm ∧ b ≠ a.dl ∧ b ≠ a.dv ∧ b ≠ a.ds ∧ b ≠ a.dp := by
  simp only [GA.muts, GA.m5, List.cons_append, List.nil_append, List.nodup_cons, List.mem_cons, not_or] at h
  obtain ⟨⟨g1, g2, g3, g4, g5, g6, g7⟩, ⟨n1, n2, n3, n4, n5, n6⟩, ⟨m1, m2, m3, m4, m5⟩, ⟨l1, l2, l3, l4⟩, ⟨v1, v2, v3⟩, ⟨s1, s2⟩, p1, _⟩ := h
  refine ⟨⟨g1, g2, g3, g4, g5, g6⟩, ⟨n1, n2, n3, n4, n5⟩, ⟨m1, m2, m3, m4⟩, ⟨l1, l2, l3⟩, ⟨v1, v2⟩, s1, fun s b hb => ?_⟩
  have hm : b ∈ rows.map (·.2) := List.mem_map_of_mem (f := fun sa : Int × Addr => sa.2) hb
  exact ⟨fun z => g7 (z ▸ hm), fun z => n6 (z ▸ hm), fun z => m5 (z ▸ hm), fun z => l4 (z ▸ hm), fun z => v3 (z ▸ hm), fun z => s2 (z ▸ hm), fun z => p1 (z ▸ hm)⟩
theorem inl_kV (m : List Int) : (m.map (Sum.inl : Int → Key)).map kV = m.map V.int := by
  rw [List.map_map]; rfl
theorem snoc_get {α β : Type} {l : List α} {x : α} {l' : List β} {y : β} (hl : l.length = l'.length) {i : Nat} {u : α} {v : β} (h1 : (l ++ [x])[i]? = some u) (h2 : (l' ++ [y])[i]? = some v) : (l[i]? = some u ∧ l'[i]? = some v) ∨ (i = l.length ∧ u = x ∧ v = y) := by
  by_cases h : i < l.length
  · rw [List.getElem?_append_left h] at h1
    rw [List.getElem?_append_left (by omega)] at h2
    exact .inl ⟨h1, h2⟩
  · have hi : i < (l ++ [x]).length := (List.getElem?_eq_some_iff.mp h1).1
    have e : i = l.length := by simp at hi; omega
    subst e
    simp at h1
    rw [hl] at h2
    simp at h2
    exact .inr ⟨rfl, h1.symm, h2.symm⟩
/-- a square that is there stands in the dict by its own number; one that is not there does not -/
theorem look_of {q : List Sq} {mk : List (List Int)} (qn : q.Nodup) (lm : mk.length = q.length) (md : ∀ (i : Nat) m S, mk[i]? = some m → q[i]? = some S → Made q S m) {S : Sq} {m : List Int} (hm : Made q S m) :
    (∀ n, lookI mk m 0 = some n → q[n]? = some S) ∧ (lookI mk m 0 = none → S ∉ q) := by
  constructor
  · intro n h
    obtain ⟨_, h2⟩ := lookI_some h
    simp only [Nat.sub_zero] at h2
    have hn : n < q.length := by rw [← lm]; exact (List.getElem?_eq_some_iff.mp h2).1
    have e : q[n]? = some q[n] := by simp [hn]
    rw [e]
    exact congrArg some (made_same (md n m _ h2 e) hm)
  · intro h hS
    obtain ⟨n, hn, e⟩ := List.mem_iff_getElem.mp hS
    have hn' : n < mk.length := by omega
    have e1 : mk[n]? = some mk[n] := by simp [hn']
    have e2 : q[n]? = some S := by simp [hn, e]
    refine lookI_none h ?_
    rw [made_inj qn hm (md n _ S e1 e2)]
    exact List.getElem_mem hn'
theorem noats {K : PySem.W.Frag} {mg : Str → Option Value} (T : Env fa fn K mg) : NoAttr K (CG K) "numbers" ∧ NoAttr K (CG K) "made" ∧ NoAttr K (CG K) "levels" ∧ NoAttr K (CG K) "lives" ∧ NoAttr K (CG K) "spans" ∧ NoAttr K (CG K) "plain" :=
  ⟨T.noat 45, T.noat 44, T.noat 42, T.noat 43, T.noat 47, T.noat 46⟩
/-- the heap behind kept -/
theorem gat_kept {C : Addr} {H H' : Hp} {a : GA} {rows : List (Int × Addr)} {q : List Sq} {tups : List Addr} {mk : List (List Int)} {spt : List V} {S : Sq} {t : Addr} {m : List Int} {v : V} (G : GAt C H a rows q) (D : GData H a q tups mk spt)
    (ht : H t = some (.tup (m.map V.int))) (hm : Made q S m) (hw : S.wf) (hS : S ∉ q) (hv : SpanV H v S.span)
    (h1 : H' a.dn = some (.dT (kvsOf (mk ++ [m]) 0))) (h2 : H' a.dm = some (.lst ((tups ++ [t]).map V.ref))) (h3 : H' a.dl = some (.lst ((q ++ [S]).map fun S => V.int (S.level : Int)))) (h4 : H' a.dv = some (.lst ((q ++ [S]).map fun S => V.int S.lives))) (h5 : H' a.ds = some (.lst (spt ++ [v])))
    (fr : Fr a.m5 H H') : GAt C H' a rows (q ++ [S]) := by
  obtain ⟨⟨g1, g2, g3, g4, g5, g6⟩, ⟨n1, n2, n3, n4, n5⟩, ⟨m1, m2, m3, m4⟩, ⟨l1, l2, l3⟩, ⟨v1, v2⟩, s1, hr⟩ := nd_of G.nd
  have out : ∀ b xs, H b = some (.tup xs) → H' b = some (.tup xs) := fun b xs e => fr b _ e fun z => G.tup_out e (List.mem_append_left _ z)
  refine ⟨fr _ _ G.ob (by simp [GA.m5, g1, g2, g3, g4, g5]), ⟨tups ++ [t], mk ++ [m], spt ++ [v], h1, h2, h3, h4, h5, by simp [D.lt], by simp [D.lm], by simp [D.ls], fun i t' m' e1 e2 => ?_, fun i v' S' e1 e2 => ?_, fun i m' S' e1 e2 => ?_⟩, fun S' h => ?_, ?_, fr _ _ G.pl (by simp [GA.m5, Ne.symm n5, Ne.symm m4, Ne.symm l3, Ne.symm v2, Ne.symm s1]), G.nd, G.rn, G.rs, fun s b hb => ?_⟩
  · rcases snoc_get (by rw [D.lt, D.lm]) e1 e2 with ⟨e1, e2⟩ | ⟨_, rfl, rfl⟩
    · exact out _ _ (D.tu i t' m' e1 e2)
    · exact out _ _ ht
  · rcases snoc_get D.ls e1 e2 with ⟨e1, e2⟩ | ⟨_, rfl, rfl⟩
    · exact (D.sp i v' S' e1 e2).keep out
    · exact hv.keep out
  · rcases snoc_get D.lm e1 e2 with ⟨e1, e2⟩ | ⟨_, rfl, rfl⟩
    · exact (D.md i m' S' e1 e2).app _
    · exact hm.app _
  · rcases List.mem_append.mp h with h | h
    · exact G.wf S' h
    · simp only [List.mem_singleton] at h; subst h; exact hw
  · rw [List.nodup_append]
    refine ⟨G.qn, by simp, fun x hx y hy e => ?_⟩
    simp only [List.mem_singleton] at hy
    subst hy
    exact hS (e ▸ hx)
  · obtain ⟨ns, e, k⟩ := G.ro s b hb
    obtain ⟨_, b1, b2, b3, b4, b5, _⟩ := hr s b hb
    refine ⟨ns, fr _ _ e (by simp [GA.m5, b1, b2, b3, b4, b5]), fun i n hn => getElem?_app (k i n hn) _⟩
section
variable {P : Program} {w : World} {K : PySem.W.Frag} {mg : Str → Option Value} {base : Heap}
def sp_kept (C : Addr) : Sp := fun vs H Q _ => ∃ (a : GA) (rows : List (Int × Addr)) (q : List Sq) (S : Sq) (t : Addr) (m : List Int) (v : V), vs = [.ref a.g, .ref t, .int (S.level : Int), .int S.lives, v] ∧ GAt C H a rows q ∧ H t = some (.tup (m.map V.int)) ∧ Made q S m ∧ S.wf ∧ S ∉ q ∧ SpanV H v S.span ∧ q.length < 16000000 ∧
  ∀ H', GAt C H' a rows (q ++ [S]) → Fr a.m5 H H' → Q (.int (q.length : Int)) H'
theorem sizeBig : 16000000 < sizeLine := by decide
theorem ok_kept (T : Env fa fn K mg) : Good P w K mg base CX0 1 ("Grove", some "kept") ["self", "made", "level", "lives", "span"] (sp_kept (CG K)) := by
  refine good_mk T 5 (d := d_Grove_kept) (N := ["self", "made", "level", "lives", "span", "number"]) (ps := ["self", "made", "level", "lives", "span"]) rfl rfl sc_Grove_kept (fun _ _ _ _ _ _ us hl => match us, hl with | [_, _, _, _, _], _ => rfl) (fun vs H Q E h => ?_) (fun f cdv A outer s H vs Q E hr h => ?_)
  · obtain ⟨a, rows, q, S, t, m, v, rfl, _⟩ := h; rfl
  · obtain ⟨a, rows, q, S, t, m, v, rfl, G, ht, hm, hw, hS, hv, hlen, k⟩ := h
    have hu := hu_of hr
    have cl : Cls K (CG K) := T.cls 9
    have hsz := sizeBig
    obtain ⟨tups, mk, spt, D⟩ := id G.da
    obtain ⟨⟨g1, g2, g3, g4, g5, g6⟩, ⟨n1, n2, n3, n4, n5⟩, ⟨m1, m2, m3, m4⟩, ⟨l1, l2, l3⟩, ⟨v1, v2⟩, s1, _⟩ := nd_of G.nd
    have hob := G.ob
    have hn := D.hn
    have hm' := D.hm
    have hl := D.hl
    have hv' := D.hv
    have hs := D.hs
    have ne : ∀ b o, H b = some o → (∀ xs, o ≠ .tup xs) → b ≠ t := fun b o e h => ne_of e ht (h _)
    refine ⟨_, (pss_cons (ps_set (i := 5) sc_Grove_kept.nd rfl (Or.inl rfl) (pe_callB (call_lenK K rfl) (by rfl) (T.free 8) (by decide +kernel) (pa_cons (pe_fldK K rfl (pv 0) rfl) pa_nil)))
      (pss_cons (ps_dput hu (pe_fldK K rfl (pv 0) rfl) (pv 1) (pv 5) rfl)
      (pss_cons (ps_expr (pe_bm PySem.F.plainAttrs_list PySem.F.slot_list_append PySem.F.type_list_append mt_append (pe_fldK K rfl (pv 0) rfl) (pa_cons (pv 1) pa_nil)))
      (pss_cons (ps_expr (pe_bm PySem.F.plainAttrs_list PySem.F.slot_list_append PySem.F.type_list_append mt_append (pe_fldK K rfl (pv 0) rfl) (pa_cons (pv 2) pa_nil)))
      (pss_cons (ps_expr (pe_bm PySem.F.plainAttrs_list PySem.F.slot_list_append PySem.F.type_list_append mt_append (pe_fldK K rfl (pv 0) rfl) (pa_cons (pv 3) pa_nil)))
      (pss_cons (ps_expr (pe_bm PySem.F.plainAttrs_list PySem.F.slot_list_append PySem.F.type_list_append mt_append (pe_fldK K rfl (pv 0) rfl) (pa_cons (pv 4) pa_nil)))
      (pss_one (ps_ret (pv 5))))))))), ?_⟩
    walk_at "rd"
    refine rd_fldR hob cl (T.noat 44) (by rfl) ?_
    walk_at "rd"
    refine rd_len (SqL.of hm') ?_
    walk_at "rd"
    refine rd_fldR hob cl (T.noat 45) (by rfl) ?_
    walk_at "rd"
    refine ⟨a.dn, _, rfl, DPut.t (k := m.map Sum.inl) hn (by rw [inl_kV]; exact ht) (by rw [kvsOf_len, D.lm]; omega), ?_⟩
    have hnone : valV (kvsOf mk 0) (m.map Sum.inl) = none := by
      rw [valV_kvsOf]
      cases e : lookI mk m 0 with
      | none => rfl
      | some n => exact (hS (List.mem_of_getElem? ((look_of G.qn D.lm D.md hm).1 n e))).elim
    rw [putK_new _ hnone]
    have e1 : kvsOf mk 0 ++ [(m.map Sum.inl, V.int (((tups.map V.ref).length : Nat) : Int))] = kvsOf (mk ++ [m]) 0 := by
      rw [kvsOf_app, Nat.zero_add, D.lm, List.length_map, D.lt]
    rw [e1]
    walk_at "rd"
    refine rd_fldR (by walk_at "hp") cl (T.noat 44) (by rfl) ?_
    refine rd_tyL (by walk_at "hp") ?_
    walk_at "rd"
    refine rd_append (xs := tups.map V.ref) (by walk_at "hp") (by rw [List.length_map, D.lt]; omega) ?_
    walk_at "rd"
    refine rd_fldR (by walk_at "hp") cl (T.noat 42) (by rfl) ?_
    refine rd_tyL (xs := q.map fun S => V.int (S.level : Int)) (by walk_at "hp") ?_
    walk_at "rd"
    refine rd_append (xs := q.map fun S => V.int (S.level : Int)) (by walk_at "hp") (by rw [List.length_map]; omega) ?_
    walk_at "rd"
    refine rd_fldR (by walk_at "hp") cl (T.noat 43) (by rfl) ?_
    refine rd_tyL (xs := q.map fun S => V.int S.lives) (by walk_at "hp") ?_
    walk_at "rd"
    refine rd_append (xs := q.map fun S => V.int S.lives) (by walk_at "hp") (by rw [List.length_map]; omega) ?_
    walk_at "rd"
    refine rd_fldR (by walk_at "hp") cl (T.noat 47) (by rfl) ?_
    refine rd_tyL (xs := spt) (by walk_at "hp") ?_
    walk_at "rd"
    refine rd_append (xs := spt) (by walk_at "hp") (by rw [D.ls]; omega) ?_
    walk_at "rd"
    rw [List.length_map, D.lt]
    refine k _ (gat_kept G D ht hm hw hS hv (by walk_at "hp") ((by walk_at "hp" : _ = some (HO.lst (tups.map V.ref ++ [V.ref t]))).trans (by simp)) ((by walk_at "hp" : _ = some (HO.lst ((q.map fun S => V.int (S.level : Int)) ++ [V.int (S.level : Int)]))).trans (by simp)) ((by walk_at "hp" : _ = some (HO.lst ((q.map fun S => V.int S.lives) ++ [V.int S.lives]))).trans (by simp)) (by walk_at "hp") ?fr) ?fr
    case fr =>
      intro b o e hb
      simp only [GA.m5, List.mem_cons, List.not_mem_nil, or_false, not_or] at hb
      obtain ⟨b1, b2, b3, b4, b5⟩ := hb
      walk_at "hp"
/-! ### cell and knit -/
theorem take_snoc {α : Type} {l : List α} {i : Nat} {v : α} (h : l[i]? = some v) : l.take (i + 1) = l.take i ++ [v] := by
  rw [List.take_add_one, h]; rfl
def sp_cell (C : Addr) : Sp := fun vs H Q _ => ∃ (a : GA) (rows : List (Int × Addr)) (q : List Sq) (s : Int), vs = [.ref a.g, .int s] ∧ GAt C H a rows q ∧ 0 ≤ s ∧ s ≤ 7 ∧ q.length < 16000000 ∧
  ∀ H' q' (n : Nat), GAt C H' a rows q' → q <+: q' → q'.length ≤ q.length + 1 → q'[n]? = some (.leaf s) → Fr a.m5 H H' → Q (.int (n : Int)) H'
theorem ok_cell (T : Env fa fn K mg) : Good P w K mg base CX0 2 ("Grove", some "cell") ["self", "state"] (sp_cell (CG K)) := by
  have G_Grove_kept := ok_kept (P := P) (w := w) (base := base) T
  refine good_mk T 6 (d := d_Grove_cell) (N := ["self", "state", "made"]) (ps := ["self", "state"]) rfl rfl sc_Grove_cell (fun _ _ _ _ _ _ us hl => match us, hl with | [_, _], _ => rfl) (fun vs H Q E h => ?_) (fun f cdv A outer s H vs Q E hr h => ?_)
  · obtain ⟨a, rows, q, s, rfl, _⟩ := h; rfl
  · obtain ⟨a, rows, q, s, rfl, G, h0, h7, hlen, k⟩ := h
    have hu := hu_of hr
    have cl : Cls K (CG K) := T.cls 9
    obtain ⟨na1, na2, na3, na4, na5, na6⟩ := noats T
    refine ⟨_, (pss_cons (ps_set (i := 2) sc_Grove_cell.nd rfl (Or.inl rfl) (pe_tup (pa_cons (pv 1) pa_nil)))
      (pss_cons (ps_if (pt_cmp (pc_din hu (pv 2) (pe_fldK K rfl (pv 0) rfl))) (pss_one (ps_ret (pe_dget hu (pe_fldK K rfl (pv 0) rfl) (pv 2) (fun _ _ => rfl)))) pss_nil)
      (pss_cons (ps_if (pt_cmpR op_eq (pv 1) pe_int (nomark _)) (pss_one (ps_ret (pe_mgK K rfl (pv 0) (T.cls 9) (T.meth 10) G_Grove_kept (hr.mono (by decide)) (pa_cons (pv 2) (pa_cons pe_int (pa_cons pe_int (pa_cons pe_non pa_nil))))))) pss_nil)
      (pss_one (ps_ret (pe_mgK K rfl (pv 0) (T.cls 9) (T.meth 10) G_Grove_kept (hr.mono (by decide)) (pa_cons (pv 2) (pa_cons pe_int (pa_cons pe_int (pa_cons (pe_tup (pa_cons pe_int (pa_cons pe_int (pa_cons pe_int (pa_cons pe_int pa_nil))))) pa_nil)))))))))), ?_⟩
    walk_at "rd"
    refine rd_new (hn := by show 1 ≤ sizeLine; decide) fun t ht => ?_
    walk_at "rd"
    have sm := same_upd (o := HO.tup [V.int s]) ht
    have G1 := G.same sm
    have ob1 := G1.ob
    obtain ⟨tups, mk, spt, D⟩ := G1.da
    have hT : (upd H t (HO.tup [V.int s])) t = some (.tup ([s].map V.int)) := upd_same
    have hT' : (upd H t (HO.tup [V.int s])) t = some (.tup (([s].map (Sum.inl : Int → Key)).map kV)) := upd_same
    walk_at "rd"
    refine ⟨a.dn, _, rfl, DGet.t (k := [s].map Sum.inl) D.hn hT', ?_⟩
    rw [valV_kvsOf]
    obtain ⟨L1, L2⟩ := look_of G.qn D.lm D.md (S := .leaf s) (m := [s]) rfl
    cases e : lookI mk [s] 0 with
    | some n =>
      walk_at "rd"
      refine iteT ?_
      walk_at "rd"
      refine ⟨a.dn, .int (n : Int), rfl, ?_, ?_⟩
      · have z := DGet.t (k := [s].map Sum.inl) D.hn hT'
        rw [valV_kvsOf, e] at z
        exact z
      · exact k _ q n G1 (List.prefix_refl _) (by omega) (L1 n e) (fr_of sm)
    | none =>
      walk_at "rd"
      refine iteF ?_
      walk_at "rd"
      have hS := L2 e
      have fin : ∀ H', GAt (CG K) H' a rows (q ++ [Sq.leaf s]) → Fr a.m5 (upd H t (HO.tup [V.int s])) H' → Q (.int (q.length : Int)) H' := fun H' g fr =>
        k H' _ q.length g (List.prefix_append _ _) (by simp) (by simp) ((fr_of sm).trans fr)
      refine ite_d (fun hs => ?_) (fun hs => ?_)
      · walk_at "rd"
        refine rd_methR G1.ob (by rfl) ?_
        walk_at "rd"
        exact ⟨a, rows, q, .leaf s, t, [s], .non, by simp [Sq.level, Sq.lives, hs], G1, hT, rfl, ⟨h0, h7⟩, hS, by simp [Sq.span, hs, SpanV], hlen, fin⟩
      · walk_at "rd"
        refine rd_methR G1.ob (by rfl) ?_
        walk_at "rd"
        refine rd_new (hn := by show 4 ≤ sizeLine; decide) fun t2 ht2 => ?_
        walk_at "rd"
        have sm2 := same_upd (o := HO.tup [V.int 0, V.int 0, V.int 1, V.int 1]) ht2
        exact ⟨a, rows, q, .leaf s, t, [s], .ref t2, by simp [Sq.level, Sq.lives, hs], G1.same sm2, sm2 _ _ hT, rfl, ⟨h0, h7⟩, hS, by simp only [Sq.span, hs, if_false]; exact ⟨t2, rfl, upd_same⟩, hlen, fun H' g fr => fin H' g ((fr_of sm2).trans fr)⟩
def sp_knit (C : Addr) : Sp := fun vs H Q _ => ∃ (a : GA) (rows : List (Int × Addr)) (q : List Sq) (A B C' D : Sq) (na nb nc nd : Nat), vs = [.ref a.g, .int (na : Int), .int (nb : Int), .int (nc : Int), .int (nd : Int)] ∧ GAt C H a rows q ∧
  q[na]? = some A ∧ q[nb]? = some B ∧ q[nc]? = some C' ∧ q[nd]? = some D ∧ (Sq.node A B C' D).wf ∧ A.level ≤ 60 ∧ q.length < 16000000 ∧
  ∀ H' q' (n : Nat), GAt C H' a rows q' → q <+: q' → q'.length ≤ q.length + 1 → q'[n]? = some (.node A B C' D) → Fr a.m5 H H' → Q (.int (n : Int)) H'
theorem map_get {α β : Type} {l : List α} {n : Nat} {x : α} (f : α → β) (h : l[n]? = some x) : (l.map f)[n]? = some (f x) := by
  rw [List.getElem?_map, h]; rfl
theorem acc4_r4 (half : Int) (a b c d : Option Box) : acc4 half [a, b, c, d] 4 = r4 half a b c d := rfl
theorem ok_knit (T : Env fa fn K mg) : Good P w K mg base CX0 3 ("Grove", some "knit") ["self", "a", "b", "c", "d"] (sp_knit (CG K)) := by
  have G_Grove_kept := ok_kept (P := P) (w := w) (base := base) T
  have G_round_four := ok_round_four (P := P) (w := w) (base := base) T
  refine good_mk T 7 (d := d_Grove_knit) (N := ["self", "a", "b", "c", "d", "made", "level", "lives", "span", "one"]) (ps := ["self", "a", "b", "c", "d"]) rfl rfl sc_Grove_knit (fun _ _ _ _ _ _ us hl => match us, hl with | [_, _, _, _, _], _ => rfl) (fun vs H Q E h => ?_) (fun f cdv A outer s H vs Q E hr h => ?_)
  · obtain ⟨a, rows, q, A, B, C', D, na, nb, nc, nd, rfl, _⟩ := h; rfl
  · obtain ⟨a, rows, q, A, B, C', D, na, nb, nc, nd, rfl, G, ha, hb, hc, hd, hwf, hlv, hlen, k⟩ := h
    have hu := hu_of hr
    have cl : Cls K (CG K) := T.cls 9
    obtain ⟨na1, na2, na3, na4, na5, na6⟩ := noats T
    refine ⟨_, (pss_cons (ps_set (i := 5) sc_Grove_knit.nd rfl (Or.inl rfl) (pe_tup (pa_cons (pv 1) (pa_cons (pv 2) (pa_cons (pv 3) (pa_cons (pv 4) pa_nil))))))
      (pss_cons (ps_if (pt_cmp (pc_din hu (pv 5) (pe_fldK K rfl (pv 0) rfl))) (pss_one (ps_ret (pe_dget hu (pe_fldK K rfl (pv 0) rfl) (pv 5) (fun _ _ => rfl)))) pss_nil)
      (pss_cons (ps_set (i := 6) sc_Grove_knit.nd rfl (Or.inl rfl) (pe_ix (ix_listK K rfl) (pe_fldK K rfl (pv 0) rfl) (pv 1) (fun _ _ => rfl)))
      (pss_cons (ps_set (i := 7) sc_Grove_knit.nd rfl (Or.inl rfl) (pe_op op_add (pe_op op_add (pe_op op_add (pe_ix (ix_listK K rfl) (pe_fldK K rfl (pv 0) rfl) (pv 1) (fun _ _ => rfl)) (pe_ix (ix_listK K rfl) (pe_fldK K rfl (pv 0) rfl) (pv 2) (fun _ _ => rfl))) (pe_ix (ix_listK K rfl) (pe_fldK K rfl (pv 0) rfl) (pv 3) (fun _ _ => rfl))) (pe_ix (ix_listK K rfl) (pe_fldK K rfl (pv 0) rfl) (pv 4) (fun _ _ => rfl))))
      (pss_cons (ps_set (i := 8) sc_Grove_knit.nd rfl (Or.inl rfl) (pe_cgK K rfl G_round_four (hr.mono (by decide)) (T.glo 11) (pa_cons (pe_lc (own := [("one", 9)]) (tt := tYes) rfl sc_Grove_knit.nd (pi_tupK K rfl (pv 5)) (blkOk_by (own := [("one", 9)]) (N := ["self", "a", "b", "c", "d", "made", "level", "lives", "span", "one"]) (sc := defScope st_Grove_knit) (by decide +kernel)) (fun _ _ _ _ _ => by exact (pg_name (i := 9) sc_Grove_knit.nd rfl (Or.inl rfl))) (fun _ _ _ _ _ => by exact pts_nil) (fun _ _ _ _ _ => by exact (pe_ix (ix_listK K rfl) (pe_fldK K rfl (pv 0) rfl) (pv 9) (fun _ _ => rfl)))) (pa_cons (pe_op op_shl pe_int (pv 6)) pa_nil))))
      (pss_one (ps_ret (pe_mgK K rfl (pv 0) (T.cls 9) (T.meth 10) G_Grove_kept (hr.mono (by decide)) (pa_cons (pv 5) (pa_cons (pe_op op_add (pv 6) pe_int) (pa_cons (pv 7) (pa_cons (pv 8) pa_nil)))))))))))), ?_⟩
    walk_at "rd"
    refine rd_new (hn := by show 4 ≤ sizeLine; decide) fun t ht => ?_
    walk_at "rd"
    have sm := same_upd (o := HO.tup [V.int (na : Int), V.int (nb : Int), V.int (nc : Int), V.int (nd : Int)]) ht
    have G1 := G.same sm
    have ob1 := G1.ob
    have hT : (upd H t (HO.tup [V.int (na : Int), V.int (nb : Int), V.int (nc : Int), V.int (nd : Int)])) t = some (.tup [V.int (na : Int), V.int (nb : Int), V.int (nc : Int), V.int (nd : Int)]) := upd_same
    generalize hH1 : upd H t (HO.tup [V.int (na : Int), V.int (nb : Int), V.int (nc : Int), V.int (nd : Int)]) = H1 at sm G1 ob1 hT ⊢
    obtain ⟨tups, mk, spt, Dt⟩ := G1.da
    have hT' : H1 t = some (.tup (([(na : Int), (nb : Int), (nc : Int), (nd : Int)].map (Sum.inl : Int → Key)).map kV)) := hT
    walk_at "rd"
    refine ⟨a.dn, _, rfl, DGet.t (k := [(na : Int), (nb : Int), (nc : Int), (nd : Int)].map Sum.inl) Dt.hn hT', ?_⟩
    rw [valV_kvsOf]
    have hM : Made q (.node A B C' D) [(na : Int), (nb : Int), (nc : Int), (nd : Int)] := ⟨na, nb, nc, nd, rfl, ha, hb, hc, hd⟩
    obtain ⟨L1, L2⟩ := look_of G.qn Dt.lm Dt.md hM
    cases e : lookI mk [(na : Int), (nb : Int), (nc : Int), (nd : Int)] 0 with
    | some n =>
      walk_at "rd"
      refine iteT ?_
      walk_at "rd"
      refine ⟨a.dn, .int (n : Int), rfl, ?_, ?_⟩
      · have z := DGet.t (k := [(na : Int), (nb : Int), (nc : Int), (nd : Int)].map Sum.inl) Dt.hn hT'
        rw [valV_kvsOf, e] at z
        exact z
      · exact k _ q n G1 (List.prefix_refl _) (by omega) (L1 n e) (fr_of sm)
    | none =>
      walk_at "rd"
      refine iteF ?_
      walk_at "rd"
      have hS := L2 e
      obtain ⟨wa, wb, wc, wd, l1, l2, l3⟩ := id hwf
      walk_at "rd"
      refine rd_ixL (SqL.of Dt.hl) (atI_nat (map_get (fun S : Sq => V.int (S.level : Int)) ha)) ?_
      walk_at "rd"
      refine rd_ixL (SqL.of Dt.hv) (atI_nat (map_get (fun S : Sq => V.int S.lives) ha)) ?_
      walk_at "rd"
      refine rd_ixL (SqL.of Dt.hv) (atI_nat (map_get (fun S : Sq => V.int S.lives) hb)) ?_
      walk_at "rd"
      refine rd_ixL (SqL.of Dt.hv) (atI_nat (map_get (fun S : Sq => V.int S.lives) hc)) ?_
      walk_at "rd"
      refine rd_ixL (SqL.of Dt.hv) (atI_nat (map_get (fun S : Sq => V.int S.lives) hd)) ?_
      walk_at "rd"
      have sv : ∀ (n : Nat) S, q[n]? = some S → ∃ v, spt[n]? = some v ∧ SpanV H1 v S.span := fun n S h => by
        have hn : n < spt.length := by rw [Dt.ls]; exact (List.getElem?_eq_some_iff.mp h).1
        exact ⟨spt[n], by simp [hn], Dt.sp n _ S (by simp [hn]) h⟩
      obtain ⟨va, ea, pa⟩ := sv _ _ ha
      obtain ⟨vb, eb, pb⟩ := sv _ _ hb
      obtain ⟨vc, ec, pc⟩ := sv _ _ hc
      obtain ⟨vd, ed, pd⟩ := sv _ _ hd
      refine ⟨t, rfl, ⟨_, SqT.of hT⟩, fun dl hdl => ?_⟩
      have ndl : ∀ b o, H1 b = some o → b ≠ dl := fun b o e => ne_of_none e hdl
      refine lc_tup (K := K) (xs := [V.int (na : Int), V.int (nb : Int), V.int (nc : Int), V.int (nd : Int)]) (fun i H' => H' = upd H1 dl (.lst ([va, vb, vc, vd].take i))) rfl (fun i H' _ e => SqT.of (by rw [e, upd_ne (ndl _ _ hT)]; exact hT)) ?_ ?_
      · rintro i x H' hx rfl
        obtain ⟨n, v, rfl, e1, e2⟩ : ∃ (n : Nat) (v : V), x = .int (n : Int) ∧ spt[n]? = some v ∧ [va, vb, vc, vd][i]? = some v := by
          match i, hx with
          | 0, hx => exact ⟨na, va, (Option.some.inj hx).symm, ea, rfl⟩
          | 1, hx => exact ⟨nb, vb, (Option.some.inj hx).symm, eb, rfl⟩
          | 2, hx => exact ⟨nc, vc, (Option.some.inj hx).symm, ec, rfl⟩
          | 3, hx => exact ⟨nd, vd, (Option.some.inj hx).symm, ed, rfl⟩
        walk_at "rd"
        refine ⟨rfl, ?_⟩
        walk_at "rd"
        refine rd_fldR (by rw [upd_ne (ndl _ _ G1.ob)]; exact G1.ob) cl na5 (by rfl) ?_
        walk_at "rd"
        refine rd_ixL (SqL.of (by rw [upd_ne (ndl _ _ Dt.hs)]; exact Dt.hs)) (atI_nat e1) ?_
        refine ⟨_, upd_same, ?_, ?_⟩
        · have : (([va, vb, vc, vd] : List V).take i).length ≤ 4 := by rw [List.length_take]; exact Nat.min_le_right _ _
          exact small1000 (by omega)
        · rw [upd_upd, take_snoc e2]
      · rintro H' rfl
        have s2 := same_upd (o := HO.lst [va, vb, vc, vd]) hdl
        walk_at "rd"
        refine rd_I (by refine ⟨by omega, by omega, by decide⟩) ?_
        walk_at "rd"
        have eh : (1 : Int) * 2 ^ ((A.level : Int)).toNat = 2 ^ A.level := by rw [Int.one_mul, Int.toNat_natCast]
        refine ⟨dl, [va, vb, vc, vd], [A.span, B.span, C'.span, D.span], _, rfl, upd_same, rfl, rfl, ?_, ?_, ?_, fun H2 u s3 hu2 => ?_⟩
        · intro i v o h1 h2
          match i, h1, h2 with
          | 0, h1, h2 => cases h1; cases h2; exact pa.keep fun b xs e => s2 _ _ e
          | 1, h1, h2 => cases h1; cases h2; exact pb.keep fun b xs e => s2 _ _ e
          | 2, h1, h2 => cases h1; cases h2; exact pc.keep fun b xs e => s2 _ _ e
          | 3, h1, h2 => cases h1; cases h2; exact pd.keep fun b xs e => s2 _ _ e
        · have e2 : (0 : Int) < 2 ^ A.level := Int.pow_pos (by decide)
          rw [eh]; omega
        · have e2 : 2 ^ A.level < 2 ^ 64 := Nat.pow_lt_pow_right (by decide) (by omega)
          rw [eh]
          exact_mod_cast e2
        · rw [eh, acc4_r4] at hu2
          have s13 : Same H1 H2 := fun b o e => s3 b o (by rw [upd_ne (ndl _ _ e)]; exact e)
          walk_at "rd"
          refine rd_methR (s13 _ _ G1.ob) (by rfl) ?_
          walk_at "rd"
          refine ⟨a, rows, q, .node A B C' D, t, [(na : Int), (nb : Int), (nc : Int), (nd : Int)], u, ?_, G1.same s13, s13 _ _ hT, hM, hwf, hS, ?_, hlen, fun H' g fr => k H' _ q.length g (List.prefix_append _ _) (by simp) (by simp) (((fr_of sm).trans (fr_of s13)).trans fr)⟩
          · have e1 : (V.int ((A.level : Int) + 1)) = V.int (((Sq.node A B C' D).level : Nat) : Int) := rfl
            rw [← e1]; rfl
          · exact hu2
theorem mp_kept {C : Addr} : MonP (sp_kept C) := fun vs H Q Q' E h ⟨a, rows, q, S, t, m, v, x1, x2, x3, x4, x5, x6, x7, x8, k⟩ => ⟨a, rows, q, S, t, m, v, x1, x2, x3, x4, x5, x6, x7, x8, fun H' g f => h _ _ (k H' g f)⟩
theorem mp_cell {C : Addr} : MonP (sp_cell C) := fun vs H Q Q' E h ⟨a, rows, q, s, x1, x2, x3, x4, x5, k⟩ => ⟨a, rows, q, s, x1, x2, x3, x4, x5, fun H' q' n g p l e f => h _ _ (k H' q' n g p l e f)⟩
theorem mp_knit {C : Addr} : MonP (sp_knit C) := fun vs H Q Q' E h ⟨a, rows, q, A, B, C', D, na, nb, nc, nd, x1, x2, x3, x4, x5, x6, x7, x8, x9, k⟩ => ⟨a, rows, q, A, B, C', D, na, nb, nc, nd, x1, x2, x3, x4, x5, x6, x7, x8, x9, fun H' q' n g p l e f => h _ _ (k H' q' n g p l e f)⟩
end
end JF

/-! ### the grove's methods: __init__, even -/
namespace JF
open PySem PySem.Spec PyProof.Rows L2
section
variable {P : Program} {w : World} {K : PySem.W.Frag} {mg : Str → Option Value} {base : Heap}
def sp_ginit (C : Addr) : Sp := fun vs H Q _ => ∃ (p dx : Addr), vs = [.ref p] ∧ H p = some (.ins C dx []) ∧ ∀ (a : GA) (H' : Hp), a.g = p → GAt C H' a [] [] → (∀ b ∈ a.muts [], H b = none) → (∀ b o, H b = some o → b ≠ p → H' b = some o) → Q .non H'
theorem ok_ginit (T : Env fa fn K mg) : Good P w K mg base CX0 1 ("Grove", some "__init__") ["self"] (sp_ginit (CG K)) := by
  refine good_mk T 4 (d := d_Grove_init) (N := ["self"]) (ps := ["self"]) rfl rfl sc_Grove_init (fun _ _ _ _ _ _ us hl => match us, hl with | [_], _ => rfl) (fun vs H Q E h => ?_) (fun f cdv A outer s H vs Q E hr h => ?_)
  · obtain ⟨p, dx, rfl, _⟩ := h; rfl
  · obtain ⟨p, dx, rfl, hp, k⟩ := h
    have cl : Cls K (CG K) := T.cls 9
    obtain ⟨na1, na2, na3, na4, na5, na6⟩ := noats T
    refine ⟨_, (pss_cons (ps_fld (pv 0) pe_dnewT rfl)
      (pss_cons (ps_fld (pv 0) (pe_lst pa_nil) rfl)
      (pss_cons (ps_fld (pv 0) (pe_lst pa_nil) rfl)
      (pss_cons (ps_fld (pv 0) (pe_lst pa_nil) rfl)
      (pss_cons (ps_fld (pv 0) (pe_lst pa_nil) rfl)
      (pss_one (ps_fld (pv 0) pe_dnewK rfl))))))), ?_⟩
    walk_at "rd"
    intro dn hdn
    have p1 : p ≠ dn := ne_of_none hp hdn
    walk_at "rd"
    refine ⟨p, CG K, dx, [], rfl, by walk_at "hp", cl, na1, by decide, ?_⟩
    walk_at "rd"
    refine rd_new (hn := by show 0 ≤ sizeLine; decide) fun dm hdm => ?_
    have p2 : p ≠ dm := ne_of_none upd_same hdm
    have e1 : dn ≠ dm := ne_of_none (by rw [upd_ne p1.symm, upd_same]) hdm
    walk_at "rd"
    refine ⟨p, CG K, dx, _, rfl, by walk_at "hp", cl, na2, (by show 1 < 1000; decide), ?_⟩
    walk_at "rd"
    refine rd_new (hn := by show 0 ≤ sizeLine; decide) fun dl hdl => ?_
    have p3 : p ≠ dl := ne_of_none upd_same hdl
    have e2 : dn ≠ dl := ne_of_none (o := .dT []) (by walk_at "hp") hdl
    have e3 : dm ≠ dl := ne_of_none (o := .lst []) (by walk_at "hp") hdl
    walk_at "rd"
    refine ⟨p, CG K, dx, _, rfl, by walk_at "hp", cl, na3, (by show 2 < 1000; decide), ?_⟩
    walk_at "rd"
    refine rd_new (hn := by show 0 ≤ sizeLine; decide) fun dv hdv => ?_
    have p4 : p ≠ dv := ne_of_none upd_same hdv
    have f1 : dn ≠ dv := ne_of_none (o := .dT []) (by walk_at "hp") hdv
    have f2 : dm ≠ dv := ne_of_none (o := .lst []) (by walk_at "hp") hdv
    have f3 : dl ≠ dv := ne_of_none (o := .lst []) (by walk_at "hp") hdv
    walk_at "rd"
    refine ⟨p, CG K, dx, _, rfl, by walk_at "hp", cl, na4, (by show 3 < 1000; decide), ?_⟩
    walk_at "rd"
    refine rd_new (hn := by show 0 ≤ sizeLine; decide) fun ds hds => ?_
    have p5 : p ≠ ds := ne_of_none upd_same hds
    have g1 : dn ≠ ds := ne_of_none (o := .dT []) (by walk_at "hp") hds
    have g2 : dm ≠ ds := ne_of_none (o := .lst []) (by walk_at "hp") hds
    have g3 : dl ≠ ds := ne_of_none (o := .lst []) (by walk_at "hp") hds
    have g4 : dv ≠ ds := ne_of_none (o := .lst []) (by walk_at "hp") hds
    walk_at "rd"
    refine ⟨p, CG K, dx, _, rfl, by walk_at "hp", cl, na5, (by show 4 < 1000; decide), ?_⟩
    walk_at "rd"
    intro dp hdp
    have p6 : p ≠ dp := ne_of_none upd_same hdp
    have h1 : dn ≠ dp := ne_of_none (o := .dT []) (by walk_at "hp") hdp
    have h2 : dm ≠ dp := ne_of_none (o := .lst []) (by walk_at "hp") hdp
    have h3 : dl ≠ dp := ne_of_none (o := .lst []) (by walk_at "hp") hdp
    have h4 : dv ≠ dp := ne_of_none (o := .lst []) (by walk_at "hp") hdp
    have h5 : ds ≠ dp := ne_of_none (o := .lst []) (by walk_at "hp") hdp
    walk_at "rd"
    refine ⟨p, CG K, dx, _, rfl, by walk_at "hp", cl, na6, (by show 5 < 1000; decide), ?_⟩
    have emp : ∀ (i : Nat) {α : Type} (x : α), ([] : List α)[i]? = some x → False := fun i α x e => by simp at e
    have out : ∀ (b u : Addr) (Hx : Hp) (o : HO), upd Hx u o b = none → Hx b = none := fun b u Hx o e => by
      by_cases z : b = u
      · subst z; rw [upd_same] at e; cases e
      · rw [upd_ne z] at e; exact e
    refine k ⟨p, dx, dn, dm, dl, dv, ds, dp⟩ _ rfl ⟨upd_same, ⟨[], [], [], by walk_at "hp", by walk_at "hp", by walk_at "hp", by walk_at "hp", by walk_at "hp", rfl, rfl, rfl, fun i t m e => (emp i _ e).elim, fun i t m e => (emp i _ e).elim, fun i t m e => (emp i _ e).elim⟩, by simp, by simp, by walk_at "hp", by simp [GA.muts, GA.m5, *], by simp, by simp, by simp⟩ ?_ ?_
    · intro b hb
      simp only [GA.muts, GA.m5, List.cons_append, List.nil_append, List.mem_cons, List.map_nil, List.not_mem_nil, or_false] at hb
      rcases hb with rfl | rfl | rfl | rfl | rfl | rfl
      · exact hdn
      · exact out _ _ _ _ (out _ _ _ _ hdm)
      · exact out _ _ _ _ (out _ _ _ _ (out _ _ _ _ (out _ _ _ _ hdl)))
      · exact out _ _ _ _ (out _ _ _ _ (out _ _ _ _ (out _ _ _ _ (out _ _ _ _ (out _ _ _ _ hdv)))))
      · exact out _ _ _ _ (out _ _ _ _ (out _ _ _ _ (out _ _ _ _ (out _ _ _ _ (out _ _ _ _ (out _ _ _ _ (out _ _ _ _ hds)))))))
      · exact out _ _ _ _ (out _ _ _ _ (out _ _ _ _ (out _ _ _ _ (out _ _ _ _ (out _ _ _ _ (out _ _ _ _ (out _ _ _ _ (out _ _ _ _ (out _ _ _ _ hdp)))))))))
    · intro b o e hb
      have b1 : b ≠ dn := ne_of_none e hdn
      have b2 : b ≠ dm := ne_of_none e (out _ _ _ _ (out _ _ _ _ hdm))
      have b3 : b ≠ dl := ne_of_none e (out _ _ _ _ (out _ _ _ _ (out _ _ _ _ (out _ _ _ _ hdl))))
      have b4 : b ≠ dv := ne_of_none e (out _ _ _ _ (out _ _ _ _ (out _ _ _ _ (out _ _ _ _ (out _ _ _ _ (out _ _ _ _ hdv))))))
      have b5 : b ≠ ds := ne_of_none e (out _ _ _ _ (out _ _ _ _ (out _ _ _ _ (out _ _ _ _ (out _ _ _ _ (out _ _ _ _ (out _ _ _ _ (out _ _ _ _ hds))))))))
      have b6 : b ≠ dp := ne_of_none e (out _ _ _ _ (out _ _ _ _ (out _ _ _ _ (out _ _ _ _ (out _ _ _ _ (out _ _ _ _ (out _ _ _ _ (out _ _ _ _ (out _ _ _ _ (out _ _ _ _ hdp))))))))))
      walk_at "hp"
end
end JF

/-! ### even, and the asking methods -/
namespace JF
open PySem PySem.Spec PyProof.Rows L2
/-- a row of plain squares grows -/
theorem GAt.row {C : Addr} {H : Hp} {a : GA} {rows : List (Int × Addr)} {q : List Sq} {s : Int} {b : Addr} {ns : List Nat} (G : GAt C H a rows q) (h : (s, b) ∈ rows) (hv : ∀ (i : Nat) n, ns[i]? = some n → q[n]? = some (Sq.even i s)) :
    GAt C (L2.upd H b (.lst (ns.map fun (n : Nat) => V.int (n : Int)))) a rows q := by
  obtain ⟨tups, mk, spt, D⟩ := G.da
  obtain ⟨⟨g1, g2, g3, g4, g5, g6⟩, _, _, _, _, _, hr⟩ := nd_of G.nd
  obtain ⟨r1, r2, r3, r4', r5, r6, r7⟩ := hr s b h
  obtain ⟨ns0, hb0, _⟩ := G.ro s b h
  have out : ∀ c xs, H c = some (.tup xs) → L2.upd H b (.lst (ns.map fun (n : Nat) => V.int (n : Int))) c = some (.tup xs) := fun c xs e => by
    rw [upd_ne (by rintro rfl; rw [hb0] at e; cases e)]; exact e
  refine ⟨by rw [upd_ne r1.symm]; exact G.ob, ⟨tups, mk, spt, by rw [upd_ne r2.symm]; exact D.hn, by rw [upd_ne r3.symm]; exact D.hm, by rw [upd_ne r4'.symm]; exact D.hl, by rw [upd_ne r5.symm]; exact D.hv, by rw [upd_ne r6.symm]; exact D.hs, D.lt, D.lm, D.ls,
    fun i t m h1 h2 => out _ _ (D.tu i t m h1 h2), fun i v S h1 h2 => (D.sp i v S h1 h2).keep out, D.md⟩, G.wf, G.qn, by rw [upd_ne r7.symm]; exact G.pl, G.nd, G.rn, G.rs, fun s' b' h' => ?_⟩
  by_cases e : b' = b
  · subst e
    have hs : s' = s := by
      have nd2 : (rows.map (·.2)).Nodup := by
        have z := (List.nodup_cons.mp G.nd).2
        unfold GA.muts at z
        exact (List.nodup_cons.mp (List.nodup_append.mp z).2.1).2
      obtain ⟨i, hi, e1⟩ := List.mem_iff_getElem.mp h
      obtain ⟨j, hj, e2⟩ := List.mem_iff_getElem.mp h'
      have e3 : i = j := (List.getElem_inj (xs := rows.map (·.2)) (h₀ := by simpa using hi) (h₁ := by simpa using hj) nd2).mp (by simp [e1, e2])
      subst e3
      rw [e1] at e2
      exact (congrArg Prod.fst e2).symm
    subst hs
    exact ⟨ns, upd_same, hv⟩
  · obtain ⟨ns', e1, e2⟩ := G.ro s' b' h'
    exact ⟨ns', by rw [upd_ne e]; exact e1, e2⟩
theorem rows_look {rows : List (Int × Addr)} {s : Int} : (∀ v, valV (rows.map fun sa => ((Sum.inl sa.1 : Key), V.ref sa.2)) (Sum.inl s) = some v → ∃ b, (s, b) ∈ rows ∧ v = .ref b) ∧ (valV (rows.map fun sa => ((Sum.inl sa.1 : Key), V.ref sa.2)) (Sum.inl s) = none → s ∉ rows.map (·.1)) := by
  induction rows with
  | nil => exact ⟨fun v h => (by cases h), fun _ => by simp⟩
  | cons x r ih =>
    by_cases e : x.1 = s
    · constructor
      · intro v h
        have h' : some (V.ref x.2) = some v := by rw [← h]; simp [valV, e]
        exact ⟨x.2, by rw [← e]; exact List.mem_cons_self, (Option.some.inj h').symm⟩
      · intro h
        have h' : valV (((x :: r).map fun sa => ((Sum.inl sa.1 : Key), V.ref sa.2))) (Sum.inl s) = some (V.ref x.2) := by simp [valV, e]
        rw [h'] at h; cases h
    · have e' : ¬ ((Sum.inl x.1 : Key) = Sum.inl s) := fun z => e (Sum.inl.inj z)
      have eq : valV (((x :: r).map fun sa => ((Sum.inl sa.1 : Key), V.ref sa.2))) (Sum.inl s) = valV ((r.map fun sa => ((Sum.inl sa.1 : Key), V.ref sa.2))) (Sum.inl s) := by
        simp [valV, e]
      rw [eq]
      refine ⟨fun v h => ?_, fun h => ?_⟩
      · obtain ⟨b, h1, h2⟩ := ih.1 v h
        exact ⟨b, List.mem_cons_of_mem _ h1, h2⟩
      · simp only [List.map_cons, List.mem_cons, not_or]
        exact ⟨fun z => e z.symm, ih.2 h⟩
/-- a new row -/
theorem GAt.addrow {C : Addr} {H : Hp} {a : GA} {rows : List (Int × Addr)} {q : List Sq} {s : Int} {p : Addr} (G : GAt C H a rows q) (hp : H p = none) (hs : s ∉ rows.map (·.1)) (h0 : 0 ≤ s) (h7 : s ≤ 7) :
    GAt C (L2.upd (L2.upd H p (.lst [])) a.dp (.dK ((rows.map fun sa => ((Sum.inl sa.1 : Key), V.ref sa.2)) ++ [((Sum.inl s : Key), V.ref p)]))) a (rows ++ [(s, p)]) q := by
  have G1 := G.same (same_upd (o := .lst []) hp)
  obtain ⟨tups, mk, spt, D⟩ := G1.da
  obtain ⟨⟨g1, g2, g3, g4, g5, g6⟩, ⟨n1, n2, n3, n4, n5⟩, ⟨m1, m2, m3, m4⟩, ⟨l1, l2, l3⟩, ⟨v1, v2⟩, s1, hr⟩ := nd_of G.nd
  have hdp : ∀ xs, L2.upd H p (.lst []) a.dp ≠ some (.tup xs) := fun xs e => by rw [G1.pl] at e; cases e
  have out : ∀ c xs o, L2.upd H p (.lst []) c = some (.tup xs) → L2.upd (L2.upd H p (.lst [])) a.dp o c = some (.tup xs) := fun c xs o e => by
    rw [upd_ne (by rintro rfl; exact hdp _ e)]; exact e
  refine ⟨by rw [upd_ne g6]; exact G1.ob, ⟨tups, mk, spt, by rw [upd_ne n5]; exact D.hn, by rw [upd_ne m4]; exact D.hm, by rw [upd_ne l3]; exact D.hl, by rw [upd_ne v2]; exact D.hv, by rw [upd_ne s1]; exact D.hs, D.lt, D.lm, D.ls,
    fun i t m h1 h2 => out _ _ _ (D.tu i t m h1 h2), fun i v S h1 h2 => (D.sp i v S h1 h2).keep fun b xs e => out _ _ _ e, D.md⟩, G1.wf, G1.qn, by rw [upd_same, List.map_append]; rfl, ?_, ?_, fun s' h' => ?_, fun s' b' h' => ?_⟩
  · have hout := G.new_out hp
    have hg : a.g ≠ p := ne_of_none G.ob hp
    have z := G.nd
    rw [List.nodup_cons] at z ⊢
    have em : a.muts (rows ++ [(s, p)]) = a.muts rows ++ [p] := by simp [GA.muts]
    rw [em]
    refine ⟨fun h => ?_, ?_⟩
    · rcases List.mem_append.mp h with h | h
      · exact z.1 h
      · simp only [List.mem_singleton] at h; exact hg h
    · rw [List.nodup_append]
      refine ⟨z.2, by simp, fun x hx y hy e => ?_⟩
      simp only [List.mem_singleton] at hy
      subst hy
      exact hout (e ▸ hx)
  · rw [List.map_append, List.nodup_append]
    refine ⟨G.rn, by simp, fun x hx y hy e => ?_⟩
    simp only [List.map_cons, List.map_nil, List.mem_singleton] at hy
    subst hy
    exact hs (e ▸ hx)
  · rw [List.map_append] at h'
    rcases List.mem_append.mp h' with h' | h'
    · exact G.rs s' h'
    · simp only [List.map_cons, List.map_nil, List.mem_singleton] at h'
      subst h'; exact ⟨h0, h7⟩
  · rcases List.mem_append.mp h' with h' | h'
    · obtain ⟨ns, e1, e2⟩ := G1.ro s' b' h'
      obtain ⟨_, _, _, _, _, _, r7⟩ := hr s' b' h'
      exact ⟨ns, by rw [upd_ne r7]; exact e1, e2⟩
    · simp only [List.mem_singleton, Prod.mk.injEq] at h'
      obtain ⟨rfl, rfl⟩ := h'
      have : b' ≠ a.dp := (ne_of_none G.pl hp).symm
      exact ⟨[], by rw [upd_ne this, upd_same]; rfl, fun i n h => by simp at h⟩
theorem fr_muts {a : GA} {rows : List (Int × Addr)} {H H' : Hp} (h : Fr a.m5 H H') : Fr (a.muts rows) H H' := h.mono fun b hb => List.mem_append_left _ hb
theorem row_mem {a : GA} {rows : List (Int × Addr)} {s : Int} {b : Addr} (h : (s, b) ∈ rows) : b ∈ a.muts rows :=
  List.mem_append_right _ (List.mem_cons_of_mem _ (List.mem_map_of_mem (f := fun sa : Int × Addr => sa.2) h))
/-- knit's and cell's way: the rows stay -/
theorem GStep.m5 {C : Addr} {H H1 H2 : Hp} {a : GA} {rows r1 : List (Int × Addr)} {q q1 q2 : List Sq} (x : GStep C H a rows q H1 r1 q1) (G : GAt C H2 a r1 q2) (p : q1 <+: q2) (f : Fr a.m5 H1 H2) : GStep C H a rows q H2 r1 q2 :=
  x.trans ⟨G, p, fr_muts f, fun _ h => .inl h⟩
theorem GStep.row {C : Addr} {H H1 : Hp} {a : GA} {rows r1 : List (Int × Addr)} {q q1 : List Sq} {s : Int} {b : Addr} {ns : List Nat} (x : GStep C H a rows q H1 r1 q1) (h : (s, b) ∈ r1) (hv : ∀ (i : Nat) n, ns[i]? = some n → q1[n]? = some (Sq.even i s)) :
    GStep C H a rows q (L2.upd H1 b (.lst (ns.map fun (n : Nat) => V.int (n : Int)))) r1 q1 :=
  x.trans ⟨x.gat.row h hv, List.prefix_refl _, fun c o e n => by rw [upd_ne (by rintro rfl; exact n (row_mem h))]; exact e, fun _ h => .inl h⟩
theorem GStep.same {C : Addr} {H H1 H2 : Hp} {a : GA} {rows r1 : List (Int × Addr)} {q q1 : List Sq} (x : GStep C H a rows q H1 r1 q1) (s : Same H1 H2) : GStep C H a rows q H2 r1 q1 :=
  x.trans ⟨x.gat.same s, List.prefix_refl _, fr_of s, fun _ h => .inl h⟩
theorem row_not5 {C : Addr} {H : Hp} {a : GA} {rows : List (Int × Addr)} {q : List Sq} {s : Int} {b : Addr} (G : GAt C H a rows q) (h : (s, b) ∈ rows) : b ∉ a.m5 := by
  obtain ⟨_, _, _, _, _, _, hr⟩ := nd_of G.nd
  obtain ⟨r1, r2, r3, r4', r5, r6, r7⟩ := hr s b h
  simp [GA.m5, r2, r3, r4', r5, r6]
theorem map_int_len (ns : List Nat) : (ns.map fun (n : Nat) => V.int (n : Int)).length = ns.length := List.length_map _
section
variable {P : Program} {w : World} {K : PySem.W.Frag} {mg : Str → Option Value} {base : Heap}
def sp_even (C : Addr) : Sp := fun vs H Q _ => ∃ (a : GA) (rows : List (Int × Addr)) (q : List Sq) (l : Nat) (s : Int), vs = [.ref a.g, .int (l : Int), .int s] ∧ GAt C H a rows q ∧ l ≤ 60 ∧ 0 ≤ s ∧ s ≤ 7 ∧ q.length + 100 < 16000000 ∧
  ∀ H' rows' q' (n : Nat), GStep C H a rows q H' rows' q' → q'.length ≤ q.length + l + 1 → q'[n]? = some (Sq.even l s) → Q (.int (n : Int)) H'
theorem ok_even (T : Env fa fn K mg) : Good P w K mg base CX0 4 ("Grove", some "even") ["self", "level", "state"] (sp_even (CG K)) := by
  have G_Grove_cell := ok_cell (P := P) (w := w) (base := base) T
  have G_Grove_knit := ok_knit (P := P) (w := w) (base := base) T
  refine good_mk T 8 (d := d_Grove_even) (N := ["self", "level", "state", "row", "one"]) (ps := ["self", "level", "state"]) rfl rfl sc_Grove_even (fun _ _ _ _ _ _ us hl => match us, hl with | [_, _, _], _ => rfl) (fun vs H Q E h => ?_) (fun f cdv A outer σ0 H vs Q E hr h => ?_)
  · obtain ⟨a, rows, q, l, s, rfl, _⟩ := h; rfl
  · obtain ⟨a, rows, q, l, s, rfl, G, hl, h0, h7, hlen, k⟩ := h
    have hu := hu_of hr
    have cl : Cls K (CG K) := T.cls 9
    obtain ⟨na1, na2, na3, na4, na5, na6⟩ := noats T
    have ob := G.ob
    have hsz := sizeBig
    have mp1 := mp_cell (C := CG K)
    have mp2 := mp_knit (C := CG K)
    refine ⟨_, (pss_cons (ps_set (i := 3) sc_Grove_even.nd rfl (Or.inl rfl) (pe_dsetd (pe_fldK K rfl (pv 0) rfl) (pv 2) (pe_lst pa_nil) ⟨rfl, rfl, rfl, rfl⟩))
      (pss_cons (ps_if (pt_cmpR op_eq (pe_callB (call_lenK K rfl) (by rfl) (T.free 8) (by decide +kernel) (pa_cons (pv 3) pa_nil)) pe_int (nomark _)) (pss_one (ps_expr (pe_bm PySem.F.plainAttrs_list PySem.F.slot_list_append PySem.F.type_list_append mt_append (pv 3) (pa_cons (pe_mgK K rfl (pv 0) (T.cls 9) (T.meth 12) G_Grove_cell (hr.mono (by decide)) (pa_cons (pv 2) pa_nil)) pa_nil)))) pss_nil)
      (pss_cons (ps_while PassesOwn.never (pt_cmpR op_le (pe_callB (call_lenK K rfl) (by rfl) (T.free 8) (by decide +kernel) (pa_cons (pv 3) pa_nil)) (pv 1) (nomark _)) (pss_cons (ps_set (i := 4) sc_Grove_even.nd rfl (Or.inl rfl) (pe_ix (ix_listK K rfl) (pv 3) (pe_un un_neg pe_int) (fun _ _ => rfl)))
      (pss_one (ps_expr (pe_bm PySem.F.plainAttrs_list PySem.F.slot_list_append PySem.F.type_list_append mt_append (pv 3) (pa_cons (pe_mgK K rfl (pv 0) (T.cls 9) (T.meth 13) G_Grove_knit (hr.mono (by decide)) (pa_cons (pv 4) (pa_cons (pv 4) (pa_cons (pv 4) (pa_cons (pv 4) pa_nil))))) pa_nil))))))
      (pss_one (ps_ret (pe_ix (ix_listK K rfl) (pv 3) (pv 1) (fun _ _ => rfl))))))), ?_⟩
    -- row = self.plain.setdefault(state, [])
    refine rd_cut (fun σ H1 => ∃ (r1 : List (Int × Addr)) (b : Addr) (ns : List Nat), σ = [some (.ref a.g), some (.int (l : Int)), some (.int s), some (.ref b), none] ∧ GStep (CG K) H a rows q H1 r1 q ∧ (s, b) ∈ r1 ∧
      H1 b = some (.lst (ns.map fun (n : Nat) => V.int (n : Int))) ∧ ∀ (i : Nat) n, ns[i]? = some n → q[n]? = some (Sq.even i s)) (by walk_at "mono") ?_ ?_
    · walk_at "rd"
      refine rd_isD G.pl ?_
      walk_at "rd"
      refine rd_new (hn := by show 0 ≤ sizeLine; decide) fun p hp => ?_
      have sm := same_upd (o := .lst []) hp
      have G1 := G.same sm
      have S1 := (GStep.refl G).same sm
      have rl : rows.length ≤ 8 := by have z := states_len G.rn G.rs; rw [List.length_map] at z; exact z
      refine ⟨_, Sum.inl s, G1.pl, rfl, by rw [List.length_map]; exact small1000 (by omega), fun v hv => ?_, fun hv => ?_⟩
      · obtain ⟨b, hb, rfl⟩ := rows_look.1 v hv
        obtain ⟨ns, e1, e2⟩ := G1.ro s b hb
        walk_at "rd"
        exact ⟨rows, b, ns, rfl, S1, hb, e1, e2⟩
      · rw [putK_new _ hv]
        walk_at "rd"
        have G2 := G.addrow hp (rows_look.2 hv) h0 h7
        refine ⟨_, p, [], rfl, ⟨G2, List.prefix_refl _, fun b o e n => ?_, fun b hb => ?_⟩, List.mem_append_right _ (List.mem_singleton_self _), ?_, fun i n h => by simp at h⟩
        · rw [upd_ne (fun z => n (by rw [z]; simp [GA.muts])), upd_ne (ne_of_none e hp)]; exact e
        · have em : a.muts (rows ++ [(s, p)]) = a.muts rows ++ [p] := by simp [GA.muts]
          rw [em] at hb
          rcases List.mem_append.mp hb with hb | hb
          · exact .inl hb
          · simp only [List.mem_singleton] at hb; subst hb; exact .inr hp
        · rw [upd_ne (ne_of_none G.pl hp).symm, upd_same]; rfl
    rintro σ H1 ⟨r1, b, ns, rfl, S1, hb, e1, e2⟩
    -- if len(row) == 0: row.append(self.cell(state))
    refine rd_cut (fun σ H2 => ∃ (q2 : List Sq) (ns2 : List Nat), σ = [some (.ref a.g), some (.int (l : Int)), some (.int s), some (.ref b), none] ∧ GStep (CG K) H a rows q H2 r1 q2 ∧
      H2 b = some (.lst (ns2.map fun (n : Nat) => V.int (n : Int))) ∧ (∀ (i : Nat) n, ns2[i]? = some n → q2[n]? = some (Sq.even i s)) ∧ 0 < ns2.length ∧ (q2.length ≤ q.length ∨ q2.length ≤ q.length + ns2.length ∧ ns2.length ≤ l + 1)) (by walk_at "mono") ?_ ?_
    · have ob1 := S1.gat.ob
      walk_at "rd"
      refine rd_len (SqL.of e1) ?_
      walk_at "rd"
      rw [map_int_len]
      refine ite_d (fun hz => ?_) (fun hz => ?_)
      · have hns : ns = [] := List.length_eq_zero_iff.mp (by omega)
        subst hns
        walk_at "rd"
        refine rd_tyL e1 ?_
        walk_at "rd"
        refine rd_methR S1.gat.ob (by rfl) ?_
        walk_at "rd"
        refine ⟨a, r1, q, s, rfl, S1.gat, h0, h7, by omega, fun H2 q2 n G2 pre len en fr => ?_⟩
        walk_at "rd"
        have eb : H2 b = some (.lst []) := fr _ _ e1 (row_not5 S1.gat hb)
        refine rd_append eb (by show 0 < sizeLine; decide) ?_
        walk_at "rd"
        have S2 := S1.m5 G2 pre fr
        have hv : ∀ (i : Nat) m, [n][i]? = some m → q2[m]? = some (Sq.even i s) := fun i m h => by
          cases i with
          | zero => cases h; exact en
          | succ i => simp at h
        exact ⟨q2, [n], rfl, S2.row hb hv, upd_same, hv, by simp, .inr ⟨by simp; omega, by simp⟩⟩
      · walk_at "rd"
        exact ⟨q, ns, rfl, S1, e1, e2, by omega, .inl (Nat.le_refl _)⟩
    rintro σ H2 ⟨q2, ns2, rfl, S2, e3, e4, hpos, hcnt⟩
    -- while len(row) <= level
    refine rd_cut (fun σ H3 => ∃ (q3 : List Sq) (ns3 : List Nat) (x : Option V), σ = [some (.ref a.g), some (.int (l : Int)), some (.int s), some (.ref b), x] ∧ GStep (CG K) H a rows q H3 r1 q3 ∧
      H3 b = some (.lst (ns3.map fun (n : Nat) => V.int (n : Int))) ∧ (∀ (i : Nat) n, ns3[i]? = some n → q3[n]? = some (Sq.even i s)) ∧ l < ns3.length ∧ q3.length ≤ q.length + l + 1) (by walk_at "mono") ?_ ?_
    · refine while_by (fun σ H3 => ∃ (q3 : List Sq) (ns3 : List Nat) (x : Option V), σ = [some (.ref a.g), some (.int (l : Int)), some (.int s), some (.ref b), x] ∧ GStep (CG K) H a rows q H3 r1 q3 ∧
        H3 b = some (.lst (ns3.map fun (n : Nat) => V.int (n : Int))) ∧ (∀ (i : Nat) n, ns3[i]? = some n → q3[n]? = some (Sq.even i s)) ∧ 0 < ns3.length ∧ q3.length + ns2.length ≤ q2.length + ns3.length ∧ (ns3.length ≤ ns2.length ∨ ns3.length ≤ l + 1) ∧ ns2.length ≤ ns3.length)
        (fun σ H3 => match H3 b with | some (.lst xs) => l + 1 - xs.length | _ => 0) ?_ ?_ (by
          have z : MonT (tTest (tOp (rI0 fun i j => V.bl (decide (i ≤ j))) (tCB (rLenS K) (tCons (tVar 3) tNil)) (tVar 1))) := by walk_at "mono"
          exact z)
      · exact ⟨q2, ns2, none, rfl, S2, e3, e4, hpos, Nat.le_refl _, .inl (Nat.le_refl _), Nat.le_refl _⟩
      · rintro σ H3 ⟨q3, ns3, x, rfl, S3, f3, f4, pos3, cnt3, le3, ge3⟩
        have ob3 := S3.gat.ob
        walk_at "rd"
        refine rd_len (SqL.of f3) ?_
        walk_at "rd"
        rw [map_int_len]
        refine ite_d (fun hz => ?_) (fun hz => ?_)
        · walk_at "rd"
          obtain ⟨init, last, rfl⟩ : ∃ init last, ns3 = init ++ [last] := ⟨ns3.dropLast, ns3.getLast (by intro z; simp [z] at pos3), (List.dropLast_concat_getLast _).symm⟩
          have hl1 : q3[last]? = some (Sq.even init.length s) := f4 init.length last (by simp)
          refine rd_ixL (SqL.of f3) (by rw [List.map_append]; exact atI_last _ _) ?_
          walk_at "rd"
          refine rd_tyL f3 ?_
          walk_at "rd"
          refine rd_methR S3.gat.ob (by rfl) ?_
          walk_at "rd"
          have hlen3 : init.length + 1 ≤ l := by simp at hz; omega
          refine ⟨a, r1, q3, Sq.even init.length s, Sq.even init.length s, Sq.even init.length s, Sq.even init.length s, last, last, last, last, rfl, S3.gat, hl1, hl1, hl1, hl1, Sq.wf_even h0 h7 (init.length + 1), by rw [Sq.level_even]; omega, ?_, fun H4 q4 n G4 pre len en fr => ?_⟩
          · simp only [List.length_append, List.length_cons, List.length_nil] at cnt3 le3 ge3
            omega
          walk_at "rd"
          have eb : H4 b = some (.lst ((init ++ [last]).map fun (n : Nat) => V.int (n : Int))) := fr _ _ f3 (row_not5 S3.gat hb)
          refine rd_append eb (by rw [map_int_len]; simp; exact small1000 (by omega)) ?_
          walk_at "rd"
          have S4 := S3.m5 G4 pre fr
          have hv : ∀ (i : Nat) m, ((init ++ [last]) ++ [n])[i]? = some m → q4[m]? = some (Sq.even i s) := fun i m h => by
            by_cases hi : i < (init ++ [last]).length
            · rw [List.getElem?_append_left hi] at h
              exact pre_get pre (f4 i m h)
            · have hi2 := (List.getElem?_eq_some_iff.mp h).1
              have e : i = init.length + 1 := by simp at hi hi2; omega
              subst e
              simp at h
              subst h
              exact en
          have S5 := S4.row hb hv
          simp only [List.length_append, List.length_cons, List.length_nil] at cnt3 le3 ge3
          refine ⟨⟨q4, (init ++ [last]) ++ [n], _, rfl, ?_, ?_, hv, by simp, by simp; omega, by simp; omega, by simp; omega⟩, ?_⟩
          · rw [List.map_append] at S5; exact S5
          · rw [upd_same, List.map_append (l₂ := [n])]; rfl
          · have e1' : ∀ (xs : List V), H3 b = some (.lst xs) → (match H3 b with | some (.lst xs) => l + 1 - xs.length | _ => 0) = l + 1 - xs.length := fun xs e => by rw [e]
            rw [e1' _ f3]
            simp only [upd_same]
            simp
            omega
        · refine ⟨q3, ns3, x, rfl, S3, f3, f4, by omega, ?_⟩
          rcases hcnt with h | ⟨h, h'⟩
          · rcases le3 with h2 | h2 <;> omega
          · rcases le3 with h2 | h2 <;> omega
    rintro σ H3 ⟨q3, ns3, x, rfl, S3, f3, f4, hlt, hq⟩
    obtain ⟨n, hn⟩ : ∃ n, ns3[l]? = some n := ⟨ns3[l], by simp [hlt]⟩
    walk_at "rd"
    refine rd_ixL (SqL.of f3) (atI_nat (map_get (fun (n : Nat) => V.int (n : Int)) hn)) ?_
    exact k H3 r1 q3 n S3 hq (f4 l n hn)
end
end JF

/-! ### the asking methods (no refusal) -/
namespace JF
open PySem PySem.Spec PyProof.Rows L2
section
variable {P : Program} {w : World} {K : PySem.W.Frag} {mg : Str → Option Value} {base : Heap}
theorem at_lt {q : List Sq} {n : Nat} {S : Sq} (h : q[n]? = some S) : n < q.length := (List.getElem?_eq_some_iff.mp h).1
def sp_asked (C : Addr) : Sp := fun vs H Q _ => ∃ (a : GA) (rows : List (Int × Addr)) (q : List Sq) (n : Nat) (S : Sq), vs = [.ref a.g, .int (n : Int)] ∧ GAt C H a rows q ∧ q[n]? = some S ∧ q.length ≤ 16000000 ∧ Q (.int (S.level : Int)) H
theorem mp_asked {C : Addr} : MonP (sp_asked C) := fun vs H Q Q' E h ⟨a, rows, q, n, S, x1, x2, x3, x4, k⟩ => ⟨a, rows, q, n, S, x1, x2, x3, x4, h _ _ k⟩
theorem ok_asked (T : Env fa fn K mg) : Good P w K mg base CX0 2 ("Grove", some "asked") ["self", "square"] (sp_asked (CG K)) := by
  have G_is_whole := ok_is_whole (P := P) (w := w) (base := base) T
  refine good_mk T 9 (d := d_Grove_asked) (N := ["self", "square"]) (ps := ["self", "square"]) rfl rfl sc_Grove_asked (fun _ _ _ _ _ _ us hl => match us, hl with | [_, _], _ => rfl) (fun vs H Q E h => ?_) (fun f cdv A outer s H vs Q E hr h => ?_)
  · obtain ⟨a, rows, q, n, S, rfl, _⟩ := h; rfl
  · obtain ⟨a, rows, q, n, S, rfl, G, hn, hlen, k⟩ := h
    have cl : Cls K (CG K) := T.cls 9
    obtain ⟨na1, na2, na3, na4, na5, na6⟩ := noats T
    have ob := G.ob
    have hlt := at_lt hn
    obtain ⟨tups, mk, spt, D⟩ := G.da
    refine ⟨_, (pss_cons (ps_if (PW.pt (pw_or (pt_not (pt_val (pe_cgK K rfl G_is_whole (hr.mono (by decide)) (T.glo 7) (pa_cons (pv 1) pa_nil)))) (pw_or1 (pt_not (pt_chain op_le op_lt pe_int (pv 1) (pe_gint (T.int 14) rfl)))))) pss_never pss_nil)
      (pss_one (ps_ret (pe_ix (ix_listK K rfl) (pe_fldK K rfl (pv 0) rfl) (pv 1) (fun _ _ => rfl))))), ?_⟩
    walk_at "rd"
    refine ⟨_, rfl, .inl ⟨_, rfl⟩, ?_⟩
    walk_at "rd"
    refine iteF ?_
    walk_at "rd"
    rw [decide_eq_true (show (0 : Int) ≤ (n : Int) by omega)]
    walk_at "rd"
    rw [decide_eq_true (show (n : Int) < 1000000000 by omega)]
    walk_at "rd"
    exact rd_ixL (SqL.of D.hl) (atI_nat (map_get (fun S : Sq => V.int (S.level : Int)) hn)) k
/-- what asks one square, and tells a value: the level and so on -/
def sp_level_of (C : Addr) : Sp := sp_asked C
theorem ok_level_of (T : Env fa fn K mg) : Good P w K mg base CX0 3 ("Grove", some "level_of") ["self", "square"] (sp_level_of (CG K)) := by
  have G_Grove_asked := ok_asked (P := P) (w := w) (base := base) T
  refine good_mk T 13 (d := d_Grove_level_of) (N := ["self", "square"]) (ps := ["self", "square"]) rfl rfl sc_Grove_level_of (fun _ _ _ _ _ _ us hl => match us, hl with | [_, _], _ => rfl) (fun vs H Q E h => ?_) (fun f cdv A outer s H vs Q E hr h => ?_)
  · obtain ⟨a, rows, q, n, S, rfl, _⟩ := h; rfl
  · obtain ⟨a, rows, q, n, S, rfl, G, hn, hlen, k⟩ := h
    have cl : Cls K (CG K) := T.cls 9
    refine ⟨_, (pss_one (ps_ret (pe_mgK K rfl (pv 0) (T.cls 9) (T.meth 16) G_Grove_asked (hr.mono (by decide)) (pa_cons (pv 1) pa_nil)))), ?_⟩
    walk_at "rd"
    refine rd_methR G.ob (by rfl) ?_
    walk_at "rd"
    exact ⟨a, rows, q, n, S, rfl, G, hn, hlen, k⟩
def sp_living (C : Addr) : Sp := fun vs H Q _ => ∃ (a : GA) (rows : List (Int × Addr)) (q : List Sq) (n : Nat) (S : Sq), vs = [.ref a.g, .int (n : Int)] ∧ GAt C H a rows q ∧ q[n]? = some S ∧ q.length ≤ 16000000 ∧ Q (.int S.lives) H
theorem mp_living {C : Addr} : MonP (sp_living C) := fun vs H Q Q' E h ⟨a, rows, q, n, S, x1, x2, x3, x4, k⟩ => ⟨a, rows, q, n, S, x1, x2, x3, x4, h _ _ k⟩
theorem ok_living (T : Env fa fn K mg) : Good P w K mg base CX0 3 ("Grove", some "living") ["self", "square"] (sp_living (CG K)) := by
  have G_Grove_asked := ok_asked (P := P) (w := w) (base := base) T
  refine good_mk T 16 (d := d_Grove_living) (N := ["self", "square"]) (ps := ["self", "square"]) rfl rfl sc_Grove_living (fun _ _ _ _ _ _ us hl => match us, hl with | [_, _], _ => rfl) (fun vs H Q E h => ?_) (fun f cdv A outer s H vs Q E hr h => ?_)
  · obtain ⟨a, rows, q, n, S, rfl, _⟩ := h; rfl
  · obtain ⟨a, rows, q, n, S, rfl, G, hn, hlen, k⟩ := h
    have cl : Cls K (CG K) := T.cls 9
    obtain ⟨na1, na2, na3, na4, na5, na6⟩ := noats T
    have ob := G.ob
    obtain ⟨tups, mk, spt, D⟩ := id G.da
    refine ⟨_, (pss_cons (ps_expr (pe_mgK K rfl (pv 0) (T.cls 9) (T.meth 16) G_Grove_asked (hr.mono (by decide)) (pa_cons (pv 1) pa_nil)))
      (pss_one (ps_ret (pe_ix (ix_listK K rfl) (pe_fldK K rfl (pv 0) rfl) (pv 1) (fun _ _ => rfl))))), ?_⟩
    walk_at "rd"
    refine rd_methR G.ob (by rfl) ?_
    walk_at "rd"
    refine ⟨a, rows, q, n, S, rfl, G, hn, hlen, ?_⟩
    walk_at "rd"
    exact rd_ixL (SqL.of D.hv) (atI_nat (map_get (fun S : Sq => V.int S.lives) hn)) k
def sp_span (C : Addr) : Sp := fun vs H Q _ => ∃ (a : GA) (rows : List (Int × Addr)) (q : List Sq) (n : Nat) (S : Sq), vs = [.ref a.g, .int (n : Int)] ∧ GAt C H a rows q ∧ q[n]? = some S ∧ q.length ≤ 16000000 ∧ ∀ v, SpanV H v S.span → Q v H
theorem mp_span {C : Addr} : MonP (sp_span C) := fun vs H Q Q' E h ⟨a, rows, q, n, S, x1, x2, x3, x4, k⟩ => ⟨a, rows, q, n, S, x1, x2, x3, x4, fun v hv => h _ _ (k v hv)⟩
theorem ok_span (T : Env fa fn K mg) : Good P w K mg base CX0 3 ("Grove", some "span") ["self", "square"] (sp_span (CG K)) := by
  have G_Grove_asked := ok_asked (P := P) (w := w) (base := base) T
  refine good_mk T 17 (d := d_Grove_span) (N := ["self", "square"]) (ps := ["self", "square"]) rfl rfl sc_Grove_span (fun _ _ _ _ _ _ us hl => match us, hl with | [_, _], _ => rfl) (fun vs H Q E h => ?_) (fun f cdv A outer s H vs Q E hr h => ?_)
  · obtain ⟨a, rows, q, n, S, rfl, _⟩ := h; rfl
  · obtain ⟨a, rows, q, n, S, rfl, G, hn, hlen, k⟩ := h
    have cl : Cls K (CG K) := T.cls 9
    obtain ⟨na1, na2, na3, na4, na5, na6⟩ := noats T
    have ob := G.ob
    obtain ⟨tups, mk, spt, D⟩ := id G.da
    refine ⟨_, (pss_cons (ps_expr (pe_mgK K rfl (pv 0) (T.cls 9) (T.meth 16) G_Grove_asked (hr.mono (by decide)) (pa_cons (pv 1) pa_nil)))
      (pss_one (ps_ret (pe_ix (ix_listK K rfl) (pe_fldK K rfl (pv 0) rfl) (pv 1) (fun _ _ => rfl))))), ?_⟩
    walk_at "rd"
    refine rd_methR G.ob (by rfl) ?_
    walk_at "rd"
    refine ⟨a, rows, q, n, S, rfl, G, hn, hlen, ?_⟩
    walk_at "rd"
    have hl : n < spt.length := by rw [D.ls]; exact at_lt hn
    exact rd_ixL (SqL.of D.hs) (atI_nat (by simp [hl] : spt[n]? = some spt[n])) (k _ (D.sp n _ S (by simp [hl]) hn))
/-- the quarters, as the tuple that stands there -/
def sp_quarters (C : Addr) : Sp := fun vs H Q _ => ∃ (a : GA) (rows : List (Int × Addr)) (q : List Sq) (n : Nat) (A B C' D : Sq), vs = [.ref a.g, .int (n : Int)] ∧ GAt C H a rows q ∧ q[n]? = some (.node A B C' D) ∧ q.length ≤ 16000000 ∧
  ∀ (t : Addr) (x y z u : Nat), H t = some (.tup [.int (x : Int), .int (y : Int), .int (z : Int), .int (u : Int)]) → q[x]? = some A → q[y]? = some B → q[z]? = some C' → q[u]? = some D → Q (.ref t) H
theorem mp_quarters {C : Addr} : MonP (sp_quarters C) := fun vs H Q Q' E h ⟨a, rows, q, n, A, B, C', D, x1, x2, x3, x4, k⟩ => ⟨a, rows, q, n, A, B, C', D, x1, x2, x3, x4, fun t x y z u e1 e2 e3 e4 e5 => h _ _ (k t x y z u e1 e2 e3 e4 e5)⟩
theorem ok_quarters (T : Env fa fn K mg) : Good P w K mg base CX0 3 ("Grove", some "quarters") ["self", "square"] (sp_quarters (CG K)) := by
  have G_Grove_asked := ok_asked (P := P) (w := w) (base := base) T
  refine good_mk T 14 (d := d_Grove_quarters) (N := ["self", "square"]) (ps := ["self", "square"]) rfl rfl sc_Grove_quarters (fun _ _ _ _ _ _ us hl => match us, hl with | [_, _], _ => rfl) (fun vs H Q E h => ?_) (fun f cdv A outer s H vs Q E hr h => ?_)
  · obtain ⟨a, rows, q, n, A, B, C', D, rfl, _⟩ := h; rfl
  · obtain ⟨a, rows, q, n, S1, S2, S3, S4, rfl, G, hn, hlen, k⟩ := h
    have cl : Cls K (CG K) := T.cls 9
    obtain ⟨na1, na2, na3, na4, na5, na6⟩ := noats T
    have ob := G.ob
    obtain ⟨tups, mk, spt, D⟩ := id G.da
    refine ⟨_, (pss_cons (ps_if (pt_cmpR op_eq (pe_mgK K rfl (pv 0) (T.cls 9) (T.meth 16) G_Grove_asked (hr.mono (by decide)) (pa_cons (pv 1) pa_nil)) pe_int (nomark _)) pss_never pss_nil)
      (pss_one (ps_ret (pe_ix (ix_listK K rfl) (pe_fldK K rfl (pv 0) rfl) (pv 1) (fun _ _ => rfl))))), ?_⟩
    walk_at "rd"
    refine rd_methR G.ob (by rfl) ?_
    walk_at "rd"
    refine ⟨a, rows, q, n, _, rfl, G, hn, hlen, ?_⟩
    walk_at "rd"
    refine ite_d (fun h => ?_) (fun h => ?_)
    · have : (Sq.node S1 S2 S3 S4).level = S1.level + 1 := rfl
      omega
    walk_at "rd"
    have hl : n < tups.length := by rw [D.lt]; exact at_lt hn
    have hm : n < mk.length := by rw [D.lm]; exact at_lt hn
    obtain ⟨x, y, z, u, e, h1, h2, h3, h4⟩ := D.md n mk[n] _ (by simp [hm]) hn
    have ht := D.tu n tups[n] mk[n] (by simp [hl]) (by simp [hm])
    rw [e] at ht
    refine rd_ixL (SqL.of D.hm) (atI_nat (map_get V.ref (by simp [hl] : tups[n]? = some tups[n]))) ?_
    exact k _ x y z u ht h1 h2 h3 h4
def sp_state_of (C : Addr) : Sp := fun vs H Q _ => ∃ (a : GA) (rows : List (Int × Addr)) (q : List Sq) (n : Nat) (s : Int), vs = [.ref a.g, .int (n : Int)] ∧ GAt C H a rows q ∧ q[n]? = some (.leaf s) ∧ q.length ≤ 16000000 ∧ Q (.int s) H
theorem mp_state_of {C : Addr} : MonP (sp_state_of C) := fun vs H Q Q' E h ⟨a, rows, q, n, S, x1, x2, x3, x4, k⟩ => ⟨a, rows, q, n, S, x1, x2, x3, x4, h _ _ k⟩
theorem ok_state_of (T : Env fa fn K mg) : Good P w K mg base CX0 3 ("Grove", some "state_of") ["self", "square"] (sp_state_of (CG K)) := by
  have G_Grove_asked := ok_asked (P := P) (w := w) (base := base) T
  refine good_mk T 15 (d := d_Grove_state_of) (N := ["self", "square"]) (ps := ["self", "square"]) rfl rfl sc_Grove_state_of (fun _ _ _ _ _ _ us hl => match us, hl with | [_, _], _ => rfl) (fun vs H Q E h => ?_) (fun f cdv A outer s H vs Q E hr h => ?_)
  · obtain ⟨a, rows, q, n, s, rfl, _⟩ := h; rfl
  · obtain ⟨a, rows, q, n, s, rfl, G, hn, hlen, k⟩ := h
    have cl : Cls K (CG K) := T.cls 9
    obtain ⟨na1, na2, na3, na4, na5, na6⟩ := noats T
    have ob := G.ob
    obtain ⟨tups, mk, spt, D⟩ := id G.da
    refine ⟨_, (pss_cons (ps_if (pt_cmpR op_gt (pe_mgK K rfl (pv 0) (T.cls 9) (T.meth 16) G_Grove_asked (hr.mono (by decide)) (pa_cons (pv 1) pa_nil)) pe_int (nomark _)) pss_never pss_nil)
      (pss_one (ps_ret (pe_ix (ix_tupK K rfl) (pe_ix (ix_listK K rfl) (pe_fldK K rfl (pv 0) rfl) (pv 1) (fun _ _ => rfl)) pe_int (fun _ _ => rfl))))), ?_⟩
    walk_at "rd"
    refine rd_methR G.ob (by rfl) ?_
    walk_at "rd"
    refine ⟨a, rows, q, n, _, rfl, G, hn, hlen, ?_⟩
    walk_at "rd"
    refine ite_d (fun h => ?_) (fun h => ?_)
    · have : (Sq.leaf s).level = 0 := rfl
      omega
    walk_at "rd"
    have hl : n < tups.length := by rw [D.lt]; exact at_lt hn
    have hm : n < mk.length := by rw [D.lm]; exact at_lt hn
    have e : mk[n] = [s] := D.md n mk[n] _ (by simp [hm]) hn
    have ht := D.tu n tups[n] mk[n] (by simp [hl]) (by simp [hm])
    rw [e] at ht
    refine rd_ixL (SqL.of D.hm) (atI_nat (map_get V.ref (by simp [hl] : tups[n]? = some tups[n]))) ?_
    walk_at "rd"
    exact k
def sp_leaf (C : Addr) : Sp := sp_cell C
theorem ok_leaf (T : Env fa fn K mg) : Good P w K mg base CX0 3 ("Grove", some "leaf") ["self", "state"] (sp_leaf (CG K)) := by
  have G_Grove_cell := ok_cell (P := P) (w := w) (base := base) T
  have G_is_state := ok_is_state (P := P) (w := w) (base := base) T
  refine good_mk T 10 (d := d_Grove_leaf) (N := ["self", "state"]) (ps := ["self", "state"]) rfl rfl sc_Grove_leaf (fun _ _ _ _ _ _ us hl => match us, hl with | [_, _], _ => rfl) (fun vs H Q E h => ?_) (fun f cdv A outer s H vs Q E hr h => ?_)
  · obtain ⟨a, rows, q, s, rfl, _⟩ := h; rfl
  · obtain ⟨a, rows, q, s, rfl, G, h0, h7, hlen, k⟩ := h
    have cl : Cls K (CG K) := T.cls 9
    refine ⟨_, (pss_cons (ps_if (pt_not (pt_val (pe_cgK K rfl G_is_state (hr.mono (by decide)) (T.glo 15) (pa_cons (pv 1) pa_nil)))) pss_never pss_nil)
      (pss_one (ps_ret (pe_mgK K rfl (pv 0) (T.cls 9) (T.meth 12) G_Grove_cell (hr.mono (by decide)) (pa_cons (pv 1) pa_nil))))), ?_⟩
    walk_at "rd"
    refine ⟨_, rfl, .inl ⟨_, rfl⟩, ?_⟩
    walk_at "rd"
    rw [stateV_ok h0 h7]
    walk_at "rd"
    walk_at "rd"
    refine rd_methR G.ob (by rfl) ?_
    walk_at "rd"
    exact ⟨a, rows, q, s, rfl, G, h0, h7, hlen, k⟩
def sp_solid (C : Addr) : Sp := fun vs H Q _ => ∃ (a : GA) (rows : List (Int × Addr)) (q : List Sq) (l : Nat) (s : Int), vs = [.ref a.g, .int (l : Int), .int s] ∧ GAt C H a rows q ∧ l ≤ 48 ∧ 0 ≤ s ∧ s ≤ 7 ∧ q.length + 100 < 16000000 ∧
  ∀ H' rows' q' (n : Nat), GStep C H a rows q H' rows' q' → q'.length ≤ q.length + l + 1 → q'[n]? = some (Sq.even l s) → Q (.int (n : Int)) H'
theorem mp_even {C : Addr} : MonP (sp_even C) := fun vs H Q Q' E h ⟨a, rows, q, l, s, x1, x2, x3, x4, x5, x6, k⟩ => ⟨a, rows, q, l, s, x1, x2, x3, x4, x5, x6, fun H' r' q' n g p l => h _ _ (k H' r' q' n g p l)⟩
theorem mp_solid {C : Addr} : MonP (sp_solid C) := fun vs H Q Q' E h ⟨a, rows, q, l, s, x1, x2, x3, x4, x5, x6, k⟩ => ⟨a, rows, q, l, s, x1, x2, x3, x4, x5, x6, fun H' r' q' n g p l => h _ _ (k H' r' q' n g p l)⟩
theorem ok_solid (T : Env fa fn K mg) : Good P w K mg base CX0 5 ("Grove", some "solid") ["self", "level", "state"] (sp_solid (CG K)) := by
  have G_Grove_even := ok_even (P := P) (w := w) (base := base) T
  have G_is_state := ok_is_state (P := P) (w := w) (base := base) T
  have G_is_whole := ok_is_whole (P := P) (w := w) (base := base) T
  refine good_mk T 12 (d := d_Grove_solid) (N := ["self", "level", "state"]) (ps := ["self", "level", "state"]) rfl rfl sc_Grove_solid (fun _ _ _ _ _ _ us hl => match us, hl with | [_, _, _], _ => rfl) (fun vs H Q E h => ?_) (fun f cdv A outer σ0 H vs Q E hr h => ?_)
  · obtain ⟨a, rows, q, l, s, rfl, _⟩ := h; rfl
  · obtain ⟨a, rows, q, l, s, rfl, G, hl, h0, h7, hlen, k⟩ := h
    have cl : Cls K (CG K) := T.cls 9
    refine ⟨_, (pss_cons (ps_if (PW.pt (pw_or (pt_not (pt_val (pe_cgK K rfl G_is_whole (hr.mono (by decide)) (T.glo 7) (pa_cons (pv 1) pa_nil)))) (pw_or1 (pt_not (pt_chain op_le op_le pe_int (pv 1) (pe_gint (T.int 17) rfl)))))) pss_never pss_nil)
      (pss_cons (ps_if (pt_not (pt_val (pe_cgK K rfl G_is_state (hr.mono (by decide)) (T.glo 15) (pa_cons (pv 2) pa_nil)))) pss_never pss_nil)
      (pss_one (ps_ret (pe_mgK K rfl (pv 0) (T.cls 9) (T.meth 18) G_Grove_even (hr.mono (by decide)) (pa_cons (pv 1) (pa_cons (pv 2) pa_nil))))))), ?_⟩
    walk_at "rd"
    refine ⟨_, rfl, .inl ⟨_, rfl⟩, ?_⟩
    walk_at "rd"
    refine iteF ?_
    walk_at "rd"
    rw [decide_eq_true (show (0 : Int) ≤ (l : Int) by omega)]
    walk_at "rd"
    rw [decide_eq_true (show (l : Int) ≤ 48 by omega)]
    walk_at "rd"
    refine ⟨_, rfl, .inl ⟨_, rfl⟩, ?_⟩
    walk_at "rd"
    rw [stateV_ok h0 h7]
    walk_at "rd"
    walk_at "rd"
    refine rd_methR G.ob (by rfl) ?_
    walk_at "rd"
    exact ⟨a, rows, q, l, s, rfl, G, by omega, h0, h7, hlen, k⟩
/-- four are joined -/
def sp_joined (C : Addr) : Sp := fun vs H Q _ => ∃ (a : GA) (rows : List (Int × Addr)) (q : List Sq) (A B C' D : Sq) (na nb nc nd : Nat), vs = [.ref a.g, .int (na : Int), .int (nb : Int), .int (nc : Int), .int (nd : Int)] ∧ GAt C H a rows q ∧
  q[na]? = some A ∧ q[nb]? = some B ∧ q[nc]? = some C' ∧ q[nd]? = some D ∧ B.level = A.level ∧ C'.level = A.level ∧ D.level = A.level ∧ A.level ≤ 47 ∧ q.length < 16000000 ∧
  ∀ H' q' (n : Nat), GStep C H a rows q H' rows q' → q'.length ≤ q.length + 1 → q'[n]? = some (.node A B C' D) → Fr a.m5 H H' → Q (.int (n : Int)) H'
theorem mp_joined {C : Addr} : MonP (sp_joined C) := fun vs H Q Q' E h ⟨a, rows, q, A, B, C', D, na, nb, nc, nd, x1, x2, x3, x4, x5, x6, x7, x8, x9, y1, y2, k⟩ => ⟨a, rows, q, A, B, C', D, na, nb, nc, nd, x1, x2, x3, x4, x5, x6, x7, x8, x9, y1, y2, fun H' q' n g p l f => h _ _ (k H' q' n g p l f)⟩
theorem ok_joined (T : Env fa fn K mg) : Good P w K mg base CX0 4 ("Grove", some "joined") ["self", "a", "b", "c", "d"] (sp_joined (CG K)) := by
  have G_Grove_asked := ok_asked (P := P) (w := w) (base := base) T
  have G_Grove_knit := ok_knit (P := P) (w := w) (base := base) T
  refine good_mk T 11 (d := d_Grove_joined) (N := ["self", "a", "b", "c", "d", "levels", "one"]) (ps := ["self", "a", "b", "c", "d"]) rfl rfl sc_Grove_joined (fun _ _ _ _ _ _ us hl => match us, hl with | [_, _, _, _, _], _ => rfl) (fun vs H Q E h => ?_) (fun f cdv A outer s H vs Q E hr h => ?_)
  · obtain ⟨a, rows, q, A, B, C', D, na, nb, nc, nd, rfl, _⟩ := h; rfl
  · obtain ⟨a, rows, q, A, B, C', D, na, nb, nc, nd, rfl, G, ha, hb, hc, hd, l1, l2, l3, hlv, hlen, k⟩ := h
    have cl : Cls K (CG K) := T.cls 9
    have mp1 := mp_asked (C := CG K)
    refine ⟨_, (pss_cons (ps_setLc (i := 5) (own := [("one", 6)]) (tt := tYes) rfl sc_Grove_joined.nd rfl rfl (sw_true rfl rfl rfl (by decide +kernel)) (pi_tupK K rfl (pe_tup (pa_cons (pv 1) (pa_cons (pv 2) (pa_cons (pv 3) (pa_cons (pv 4) pa_nil)))))) (blkOk_by (own := [("one", 6)]) (N := ["self", "a", "b", "c", "d", "levels", "one"]) (sc := defScope st_Grove_joined) (by decide +kernel)) (fun _ _ _ _ _ => by exact (pg_name (i := 6) sc_Grove_joined.nd rfl (Or.inl rfl))) (fun _ _ _ _ _ => by exact pts_nil) (fun _ _ _ _ _ => by exact (pe_mgK K rfl (pv 0) (T.cls 9) (T.meth 16) G_Grove_asked (hr.mono (by decide)) (pa_cons (pv 6) pa_nil))))
      (pss_cons (ps_if (PW.pt (pw_or (pt_cmpR (op_neDK K rfl hr.units) (pv 5) (pe_op op_rep (pe_lst (pa_cons (pe_ix (ix_listK K rfl) (pv 5) pe_int (fun _ _ => rfl)) pa_nil)) pe_int) (nomark _)) (pw_or1 (pt_cmpR op_ge (pe_ix (ix_listK K rfl) (pv 5) pe_int (fun _ _ => rfl)) (pe_gint (T.int 17) rfl) (nomark _))))) pss_never pss_nil)
      (pss_one (ps_ret (pe_mgK K rfl (pv 0) (T.cls 9) (T.meth 13) G_Grove_knit (hr.mono (by decide)) (pa_cons (pv 1) (pa_cons (pv 2) (pa_cons (pv 3) (pa_cons (pv 4) pa_nil))))))))), ?_⟩
    walk_at "rd"
    refine rd_new (hn := by show 4 ≤ sizeLine; decide) fun t ht => ?_
    have sm := same_upd (o := HO.tup [V.int (na : Int), V.int (nb : Int), V.int (nc : Int), V.int (nd : Int)]) ht
    have G1 := G.same sm
    have hT : (upd H t (HO.tup [V.int (na : Int), V.int (nb : Int), V.int (nc : Int), V.int (nd : Int)])) t = some (.tup [V.int (na : Int), V.int (nb : Int), V.int (nc : Int), V.int (nd : Int)]) := upd_same
    generalize hH1 : upd H t (HO.tup [V.int (na : Int), V.int (nb : Int), V.int (nc : Int), V.int (nd : Int)]) = H1 at sm G1 hT ⊢
    refine ⟨t, rfl, ⟨_, SqT.of hT⟩, fun dl hdl => ?_⟩
    have ndl : ∀ b o, H1 b = some o → b ≠ dl := fun b o e => ne_of_none e hdl
    have kl : ∀ xs, Same H1 (upd H1 dl (.lst xs)) := fun xs => same_upd hdl
    refine lc_tup (K := K) (xs := [V.int (na : Int), V.int (nb : Int), V.int (nc : Int), V.int (nd : Int)]) (fun i H' => H' = upd H1 dl (.lst (([(A.level : Int), (A.level : Int), (A.level : Int), (A.level : Int)].map V.int).take i))) rfl (fun i H' _ e => SqT.of (by rw [e]; exact kl _ _ _ hT)) ?_ ?_
    · rintro i x H' hx rfl
      obtain ⟨n, S, rfl, e1, e2, e3⟩ : ∃ (n : Nat) (S : Sq), x = .int (n : Int) ∧ q[n]? = some S ∧ ([(A.level : Int), (A.level : Int), (A.level : Int), (A.level : Int)].map V.int)[i]? = some (V.int (S.level : Int)) ∧ i < 4 := by
        match i, hx with
        | 0, hx => exact ⟨na, A, (Option.some.inj hx).symm, ha, rfl, by omega⟩
        | 1, hx => exact ⟨nb, B, (Option.some.inj hx).symm, hb, by rw [l1]; rfl, by omega⟩
        | 2, hx => exact ⟨nc, C', (Option.some.inj hx).symm, hc, by rw [l2]; rfl, by omega⟩
        | 3, hx => exact ⟨nd, D, (Option.some.inj hx).symm, hd, by rw [l3]; rfl, by omega⟩
      walk_at "rd"
      refine ⟨rfl, ?_⟩
      walk_at "rd"
      refine rd_methR (kl _ _ _ G1.ob) (by rfl) ?_
      walk_at "rd"
      refine ⟨a, rows, q, n, S, rfl, G1.same (kl _), e1, by omega, _, upd_same, ?_, ?_⟩
      · rw [List.length_take]; exact small1000 (by omega)
      · rw [upd_upd, take_snoc e2]
    · rintro H' rfl
      have G2 := G1.same (kl [V.int (A.level : Int), V.int (A.level : Int), V.int (A.level : Int), V.int (A.level : Int)])
      have hL : (upd H1 dl (.lst [V.int (A.level : Int), V.int (A.level : Int), V.int (A.level : Int), V.int (A.level : Int)])) dl = some (.lst ([(A.level : Int), (A.level : Int), (A.level : Int), (A.level : Int)].map V.int)) := upd_same
      have sm2 := sm.trans (kl [V.int (A.level : Int), V.int (A.level : Int), V.int (A.level : Int), V.int (A.level : Int)])
      show tSeq _ _ _ _ (upd H1 dl (.lst [V.int (A.level : Int), V.int (A.level : Int), V.int (A.level : Int), V.int (A.level : Int)]))
      generalize hH2 : upd H1 dl (.lst [V.int (A.level : Int), V.int (A.level : Int), V.int (A.level : Int), V.int (A.level : Int)]) = H2 at G2 hL sm2 ⊢
      walk_at "rd"
      refine rd_ixL (SqL.of hL) (v := .int (A.level : Int)) rfl ?_
      walk_at "rd"
      refine rd_new (hn := by show 1 ≤ sizeLine; decide) fun p1 hp1 => ?_
      walk_at "rd"
      refine rd_rep (xs := [V.int (A.level : Int)]) upd_same (by decide) (by decide) (by show 1 * 4 ≤ sizeLine; decide) fun p2 hp2 => ?_
      have kp1 := same_upd (o := .lst [V.int (A.level : Int)]) hp1
      have kp2 := same_upd (o := .lst (List.replicate (Int.toNat 4) [V.int (A.level : Int)]).flatten) hp2
      refine rd_neDI (ns := [(A.level : Int), (A.level : Int), (A.level : Int), (A.level : Int)]) (ms := [(A.level : Int), (A.level : Int), (A.level : Int), (A.level : Int)]) (SqL.of (kp2 _ _ (kp1 _ _ hL))) (SqL.of upd_same) rfl rfl ?_
      rw [SeqAt.eqv_refl _ rfl]
      walk_at "rd"
      refine rd_ixL (SqL.of (kp2 _ _ (kp1 _ _ hL))) (v := .int (A.level : Int)) rfl ?_
      walk_at "rd"
      refine ite_d (fun h => ?_) (fun h => ?_)
      · omega
      walk_at "rd"
      have G3 := (G2.same kp1).same kp2
      have sm3 := (sm2.trans kp1).trans kp2
      refine rd_methR G3.ob (by rfl) ?_
      walk_at "rd"
      refine ⟨a, rows, q, A, B, C', D, na, nb, nc, nd, rfl, G3, ha, hb, hc, hd, ?_, by omega, hlen, fun H' q' n g p l e f => ?_⟩
      · have wf := G.wf
        exact ⟨wf _ (List.mem_of_getElem? ha), wf _ (List.mem_of_getElem? hb), wf _ (List.mem_of_getElem? hc), wf _ (List.mem_of_getElem? hd), l1, l2, l3⟩
      · exact k H' q' n (((GStep.refl G).same sm3).m5 g p f) l e ((fr_of sm3).trans f)
end
end JF

/-! ### helpers of the laws: the script's numbers, lists of tuples of numbers -/
namespace JF
open PySem PySem.Spec PyProof.Rows L2
/-- tuples of whole numbers, one by one -/
def TR (H : Hp) : List Addr → List (List Int) → Prop
  | [], [] => True
  | r :: rs, x :: xs => H r = some (.tup (x.map V.int)) ∧ TR H rs xs
  | _, _ => False
theorem TR.len {H : Hp} : ∀ {rs : List Addr} {xs : List (List Int)}, TR H rs xs → rs.length = xs.length
  | [], [], _ => rfl
  | r :: rs, x :: xs, h => congrArg (· + 1) (TR.len h.2)
  | [], _ :: _, h => h.elim
  | _ :: _, [], h => h.elim
theorem TR.keep {H H' : Hp} (k : ∀ b ys, H b = some (.tup ys) → H' b = some (.tup ys)) : ∀ {rs : List Addr} {xs : List (List Int)}, TR H rs xs → TR H' rs xs
  | [], [], _ => trivial
  | r :: rs, x :: xs, h => ⟨k _ _ h.1, TR.keep k h.2⟩
  | [], _ :: _, h => h.elim
  | _ :: _, [], h => h.elim
theorem TR.app {H : Hp} {r : Addr} {x : List Int} (hr : H r = some (.tup (x.map V.int))) : ∀ {rs : List Addr} {xs : List (List Int)}, TR H rs xs → TR H (rs ++ [r]) (xs ++ [x])
  | [], [], _ => ⟨hr, trivial⟩
  | _ :: _, _ :: _, h => ⟨h.1, TR.app hr h.2⟩
  | [], _ :: _, h => h.elim
  | _ :: _, [], h => h.elim
theorem TR.get {H : Hp} : ∀ {rs : List Addr} {xs : List (List Int)} {i : Nat} {r : Addr}, TR H rs xs → rs[i]? = some r → ∃ x, xs[i]? = some x ∧ H r = some (.tup (x.map V.int))
  | [], [], _, _, _, e => by simp at e
  | r :: rs, x :: xs, 0, _, h, e => by
    simp only [List.getElem?_cons_zero, Option.some.injEq] at e
    subst e
    exact ⟨x, rfl, h.1⟩
  | r :: rs, x :: xs, i + 1, _, h, e => by
    simp only [List.getElem?_cons_succ] at e ⊢
    exact TR.get h.2 e
  | [], _ :: _, _, _, h, _ => h.elim
  | _ :: _, [], _, _, h, _ => h.elim
/-- a list of tuples of whole numbers -/
def TL (H : Hp) (p : Addr) (xs : List (List Int)) : Prop := ∃ rs : List Addr, H p = some (.lst (rs.map V.ref)) ∧ TR H rs xs
theorem at_get {α : Type} {l : List α} {i : Nat} (h : i < l.length) : l[i]? = some l[i] := by simp [h]
section
variable {K : PySem.W.Frag} {σ : L2.St} {H : Hp} {Q : VK}
/-- [x[c] for x in list] of tuples of numbers -/
theorem rd_colT {L i n : Nat} {c : Int} {p : Addr} {xs : List (List Int)} (hi : i < σ.length) (hv : σ[L]? = some (some (.ref p))) (h : TL H p xs) (hx : ∀ x ∈ xs, x.length = n) (hc0 : 0 ≤ c) (hcn : c.toNat < n) (hz : xs.length ≤ sizeLine)
    (hd : ∀ D, H D = none → Q (.ref D) (upd H D (.lst ((xs.map fun x => x.getD c.toNat 0).map V.int)))) : tLc (iList K (tVar L)) (gName i) tYes (tOp (rIxT K) (tVar i) (tC (.int c))) [i] σ H Q := by
  obtain ⟨rs, hp, ht⟩ := h
  refine ⟨_, hv, p, rfl, ⟨_, SqL.of hp⟩, fun D hD => ?_⟩
  have sm : ∀ o, Same H (upd H D o) := fun o => same_upd hD
  refine lc_list (K := K) (xs := rs.map V.ref) (fun i H' => H' = upd H D (.lst (((xs.take i).map fun x => x.getD c.toNat 0).map V.int))) (by simp) (fun i H' _ e => SqL.of (by rw [e]; exact sm _ _ _ hp)) ?_ ?_
  · rintro j x H' hj rfl
    obtain ⟨r, hr, rfl⟩ : ∃ r, rs[j]? = some r ∧ x = .ref r := by
      rw [List.getElem?_map] at hj
      cases e : rs[j]? with
      | none => rw [e] at hj; cases hj
      | some r => rw [e] at hj; exact ⟨r, rfl, (Option.some.inj hj).symm⟩
    obtain ⟨x, hx1, hx2⟩ := ht.get hr
    have hl := hx x (List.mem_of_getElem? hx1)
    have hlt : c.toNat < x.length := by omega
    have hset : (((wipe σ [i]).set i (some (.ref r)))[i]? : Option (Option V)) = some (some (.ref r)) := by
      rw [List.getElem?_set_self (by rw [wipe_length]; exact hi)]
    refine ⟨by simp only [wipe, List.set_set], ?_⟩
    refine rd_yes (iteT' (rd_op (rd_var hset (rd_c ?_))))
    have e1 : atI (x.map V.int) c = some (V.int (x.getD c.toNat 0)) := by
      obtain ⟨m, rfl⟩ : ∃ m : Nat, c = m := ⟨c.toNat, by omega⟩
      refine atI_nat ?_
      rw [Int.toNat_natCast] at hlt ⊢
      rw [List.getElem?_map, at_get hlt]
      simp [List.getD, hlt]
    refine rd_ixT (SqT.of (sm _ _ _ hx2)) e1 ?_
    refine ⟨_, upd_same, ?_, ?_⟩
    · have hj2 : j < xs.length := (List.getElem?_eq_some_iff.mp hx1).1
      simp only [List.length_map, List.length_take]
      omega
    · rw [upd_upd]
      have : xs.take (j + 1) = xs.take j ++ [x] := by rw [List.take_succ, hx1]; rfl
      rw [this, List.map_append, List.map_append]; rfl
  · rintro H' rfl
    have e : xs.take (rs.map V.ref).length = xs := by rw [List.length_map, ht.len, List.take_length]
    rw [e]
    exact hd D hD
/-- min, max, of a list of numbers -/
theorem rd_min {p : Addr} {ns : List Int} (m0 : Int) (h : H p = some (.lst (ns.map V.int))) (hm : m0 ∈ ns) (hle : ∀ y ∈ ns, m0 ≤ y) (q : Q (.int m0) H) : rMin K [.ref p] H Q :=
  ⟨p, ns, rfl, SqL.of h, List.length_pos_of_mem hm, fun m h1 h2 => by
    have e : m = m0 := Int.le_antisymm (h2 m0 hm) (hle m h1)
    rw [e]; exact q⟩
theorem rd_max {p : Addr} {ns : List Int} (m0 : Int) (h : H p = some (.lst (ns.map V.int))) (hm : m0 ∈ ns) (hle : ∀ y ∈ ns, y ≤ m0) (q : Q (.int m0) H) : rMax K [.ref p] H Q :=
  ⟨p, ns, rfl, SqL.of h, List.length_pos_of_mem hm, fun m h1 h2 => by
    have e : m = m0 := Int.le_antisymm (hle m h1) (h2 m0 hm)
    rw [e]; exact q⟩
/-! lists of tuples, compared -/
theorem dp_tr : ∀ {rs : List Addr} {xs : List (List Int)}, TR H rs xs → DpAll K H (rs.map V.ref) (xs.map fun x => PyData.tuple (x.map PyData.int))
  | [], [], _ => .nil
  | r :: rs, x :: xs, h => .cons (.tup (SqT.of h.1) dp_ints) (dp_tr h.2)
  | [], _ :: _, h => h.elim
  | _ :: _, [], h => h.elim
theorem lay_ints : ∀ x : List Int, PyData.canLayAll0 (x.map PyData.int) = true
  | [] => by simp [PyData.canLayAll0]
  | i :: x => by simp [PyData.canLayAll0, PyData.canLay0, lay_ints x]
theorem depth_ints : ∀ x : List Int, PyData.depthAll (x.map PyData.int) ≤ 1
  | [] => by simp [PyData.depthAll]
  | i :: x => by simp [PyData.depthAll, PyData.depth, depth_ints x]
theorem lay_tr : ∀ xs : List (List Int), PyData.canLayAll0 (xs.map fun x => PyData.tuple (x.map PyData.int)) = true
  | [] => by simp [PyData.canLayAll0]
  | x :: xs => by simp [PyData.canLayAll0, PyData.canLay0, lay_tr xs, lay_ints x]
theorem depth_tr : ∀ xs : List (List Int), PyData.depthAll (xs.map fun x => PyData.tuple (x.map PyData.int)) ≤ 2
  | [] => by simp [PyData.depthAll]
  | x :: xs => by
    have h1 := depth_tr xs
    have h2 := depth_ints x
    simp only [List.map_cons, PyData.depthAll, PyData.depth]
    omega
theorem shaped_tr (xs : List (List Int)) : SeqAt.shaped (.list (xs.map fun x => PyData.tuple (x.map PyData.int))) = true := by
  have h1 := depth_tr xs
  have h2 := lay_tr xs
  have h3 : PyData.depth (.list (xs.map fun x => PyData.tuple (x.map PyData.int))) ≤ 64 := by
    simp only [PyData.depth]
    omega
  unfold SeqAt.shaped
  rw [decide_eq_true h3, Bool.and_true]
  simp only [PyData.canLay0, h2]
theorem TL.same {H H' : Hp} {p : Addr} {xs : List (List Int)} (h : TL H p xs) (s : Same H H') : TL H' p xs := by
  obtain ⟨rs, h1, h2⟩ := h
  exact ⟨rs, s _ _ h1, h2.keep fun _ _ e => s _ _ e⟩
/-- rows == [] -/
theorem rd_eqTL0 {p pe : Addr} {xs : List (List Int)} (h : TL H p xs) (he : H pe = some (.lst [])) (q : Q (.bl (decide (xs = []))) H) : rEqD K (.ref p) (.ref pe) H Q := by
  obtain ⟨rs, h1, h2⟩ := h
  refine ⟨_, _, .lst (SqL.of h1) (dp_tr h2), .lst (SqL.of he) .nil, shaped_tr xs, rfl, ?_⟩
  cases xs with
  | nil => exact q
  | cons x xs => exact q
/-- isinstance(tuple of the law's, tuple) -/
theorem rd_isiT {p : Addr} {xs : List V} (h : H p = some (.tup xs)) (q : Q (.bl true) H) : rIsi K [.ref p, .ty "tuple"] H Q :=
  isi_ty (.base (.tup h)) (by decide +kernel : kitB "tuple" "tuple" = some true) q
theorem rd_isiI {i : Int} (q : Q (.bl true) H) : rIsi K [.int i, .ty "int"] H Q := isi_ty (.base (.int i)) (by decide +kernel : kitB "int" "int" = some true) q
theorem rd_isiB {i : Int} (q : Q (.bl false) H) : rIsi K [.int i, .ty "bool"] H Q := isi_ty (.base (.int i)) (by decide +kernel : kitB "int" "bool" = some false) q
end
theorem sqL_on {K : PySem.W.Frag} {H H' : Hp} {a : Addr} {xs : List V} (h : SqL K H a xs) (e : ∀ o, H a = some o → H' a = some o) : SqL K H' a xs :=
  h.elim (fun h => .inl (h.elim (fun h => .inl (e _ h)) fun ⟨o, h⟩ => .inr ⟨o, e _ h⟩)) fun h => .inr h
theorem walk_r0 {n : Nat} : Walk (Itr 0 n) n (fun _ => True) (YFn fun i => .int (i : Int)) :=
  walk_range.mono (fun _ h => h) fun i H x H' _ _ y => ⟨y.1, y.2.trans (by show V.int (0 + (i : Int)) = V.int (i : Int); rw [Int.zero_add])⟩
def cutI (ns : List Int) (lo hi : Option Int) : List Int := (ns.drop (HT.sIx ns.length 0 lo)).take (HT.sIx ns.length ns.length hi - HT.sIx ns.length 0 lo)
theorem cutV_ints (ns : List Int) (lo hi : Option Int) : cutV (ns.map V.int) lo hi = (cutI ns lo hi).map V.int := by
  unfold cutV cutI
  rw [List.length_map, List.map_take, List.map_drop]
/-- Grove() -/
theorem rd_grove {K : PySem.W.Frag} {σ : L2.St} {H : Hp} {Q : VK} (h : ∀ (a : GA) H', GAt (CG K) H' a [] [] → (∀ b ∈ a.muts [], H b = none) → Same H H' → Q (.ref a.g) H') : tMake (CG K) (sp_ginit (CG K)) [] E0 tNil σ H Q := by
  intro x dx hx hdx hne
  refine ⟨x, dx, rfl, upd_same, fun a H' e G hn hk => ⟨rfl, ?_⟩⟩
  subst e
  have out : ∀ (b u : Addr) (Hx : Hp) (o : HO), upd Hx u o b = none → Hx b = none := fun b u Hx o e => by
    by_cases z : b = u
    · subst z; rw [upd_same] at e; cases e
    · rw [upd_ne z] at e; exact e
  refine h a H' G (fun b hb => out _ _ _ _ (out _ _ _ _ (hn b hb))) fun b o e => ?_
  have b1 : b ≠ a.g := ne_of_none e hx
  have b2 : b ≠ dx := ne_of_none e hdx
  exact hk b o (by rw [upd_ne b1, upd_ne b2]; exact e) b1
/-! #### the asker's own lists beside a grove -/
/-- tuples stay -/
def Tup (H H' : Hp) : Prop := ∀ b ys, H b = some (.tup ys) → H' b = some (.tup ys)
theorem Tup.refl (H : Hp) : Tup H H := fun _ _ h => h
theorem Tup.trans {H H1 H2 : Hp} (x : Tup H H1) (y : Tup H1 H2) : Tup H H2 := fun b ys h => y b ys (x b ys h)
theorem Tup.of {H H' : Hp} (x : Same H H') : Tup H H' := fun b ys h => x b _ h
theorem Tup.put {H : Hp} {p : Addr} {xs : List V} (h : H p = some (.lst xs)) (o : HO) : Tup H (upd H p o) := fun b ys e => by
  rw [upd_ne (by rintro rfl; rw [h] at e; cases e)]; exact e
theorem GStep.tup {C : Addr} {H H1 : Hp} {a : GA} {rows r1 : List (Int × Addr)} {q q1 : List Sq} (x : GStep C H a rows q H1 r1 q1) (G : GAt C H a rows q) : Tup H H1 := fun b ys e => x.fr b _ e (G.tup_out e)
/-- own lists, by their addresses -/
structure OwnL (a : GA) (rows : List (Int × Addr)) (H : Hp) (l : List (Addr × List V)) : Prop where
  nd : (l.map (·.1)).Nodup
  at_ : ∀ p xs, (p, xs) ∈ l → H p = some (.lst xs)
  out : ∀ p xs, (p, xs) ∈ l → p ∉ a.muts rows
theorem OwnL.same {a : GA} {rows : List (Int × Addr)} {H H' : Hp} {l : List (Addr × List V)} (h : OwnL a rows H l) (s : Same H H') : OwnL a rows H' l := ⟨h.nd, fun p xs m => s _ _ (h.at_ p xs m), h.out⟩
theorem OwnL.step {C : Addr} {H H1 : Hp} {a : GA} {rows r1 : List (Int × Addr)} {q q1 : List Sq} {l : List (Addr × List V)} (h : OwnL a rows H l) (x : GStep C H a rows q H1 r1 q1) : OwnL a r1 H1 l :=
  ⟨h.nd, fun p xs m => (x.own (h.at_ p xs m) (h.out p xs m)).1, fun p xs m => (x.own (h.at_ p xs m) (h.out p xs m)).2⟩
theorem OwnL.nil {a : GA} {rows : List (Int × Addr)} {H : Hp} : OwnL a rows H [] := ⟨by simp, fun _ _ m => by simp at m, fun _ _ m => by simp at m⟩
theorem OwnL.new {C : Addr} {a : GA} {rows : List (Int × Addr)} {q : List Sq} {H : Hp} {l : List (Addr × List V)} {p : Addr} {xs : List V} (h : OwnL a rows H l) (G : GAt C H a rows q) (hp : H p = none) : OwnL a rows (upd H p (.lst xs)) ((p, xs) :: l) := by
  refine ⟨?_, fun p' ys m => ?_, fun p' ys m => ?_⟩
  · rw [List.map_cons, List.nodup_cons]
    refine ⟨fun z => ?_, h.nd⟩
    obtain ⟨⟨p', ys⟩, m, e⟩ := List.mem_map.mp z
    have e' : p' = p := e
    subst e'
    rw [h.at_ _ _ m] at hp
    cases hp
  · rcases List.mem_cons.mp m with m | m
    · cases m; exact upd_same
    · exact same_upd hp _ _ (h.at_ _ _ m)
  · rcases List.mem_cons.mp m with m | m
    · cases m; exact G.new_out hp
    · exact h.out _ _ m
theorem OwnL.put {a : GA} {rows : List (Int × Addr)} {H : Hp} {p : Addr} {xs : List V} (l1 l2 : List (Addr × List V)) (ys : List V) (h : OwnL a rows H (l1 ++ (p, xs) :: l2)) : OwnL a rows (upd H p (.lst ys)) (l1 ++ (p, ys) :: l2) := by
  have nd := h.nd
  rw [List.map_append, List.map_cons] at nd
  have ne : ∀ p' zs, (p', zs) ∈ l1 ∨ (p', zs) ∈ l2 → p' ≠ p := fun p' zs m e => by
    subst e
    rw [List.nodup_append, List.nodup_cons] at nd
    rcases m with m | m
    · exact nd.2.2 p' (List.mem_map_of_mem (f := fun x : Addr × List V => x.1) (a := (p', zs)) m) p' List.mem_cons_self rfl
    · exact nd.2.1.1 (List.mem_map_of_mem (f := fun x : Addr × List V => x.1) (a := (p', zs)) m)
  refine ⟨by rw [List.map_append, List.map_cons]; exact nd, fun p' zs m => ?_, fun p' zs m => ?_⟩
  · rcases List.mem_append.mp m with m | m
    · rw [upd_ne (ne p' zs (.inl m))]; exact h.at_ _ _ (List.mem_append_left _ m)
    · rcases List.mem_cons.mp m with m | m
      · cases m; exact upd_same
      · rw [upd_ne (ne p' zs (.inr m))]; exact h.at_ _ _ (List.mem_append_right _ (List.mem_cons_of_mem _ m))
  · rcases List.mem_append.mp m with m | m
    · exact h.out _ _ (List.mem_append_left _ m)
    · rcases List.mem_cons.mp m with m | m
      · cases m; exact h.out _ xs (List.mem_append_right _ List.mem_cons_self)
      · exact h.out _ _ (List.mem_append_right _ (List.mem_cons_of_mem _ m))
theorem GAt.own {C : Addr} {H : Hp} {a : GA} {rows : List (Int × Addr)} {q : List Sq} {l : List (Addr × List V)} {p : Addr} {xs : List V} {o : HO} (G : GAt C H a rows q) (h : OwnL a rows H l) (m : (p, xs) ∈ l) : GAt C (L2.upd H p o) a rows q :=
  G.upd (fun u e => by rw [h.at_ _ _ m] at e; cases e; exact fun z => z) (h.out _ _ m)
theorem OwnL.ix {a : GA} {rows : List (Int × Addr)} {H : Hp} {l : List (Addr × List V)} {p : Addr} {xs : List V} (h : OwnL a rows H l) (i : Nat) (e : l[i]? = some (p, xs)) : H p = some (.lst xs) := h.at_ p xs (List.mem_of_getElem? e)
theorem GAt.ownI {C : Addr} {H : Hp} {a : GA} {rows : List (Int × Addr)} {q : List Sq} {l : List (Addr × List V)} {p : Addr} {xs : List V} (G : GAt C H a rows q) (h : OwnL a rows H l) (i : Nat) (e : l[i]? = some (p, xs)) (o : HO) : GAt C (L2.upd H p o) a rows q := G.own h (List.mem_of_getElem? e)
theorem OwnL.putI {a : GA} {rows : List (Int × Addr)} {H : Hp} {l : List (Addr × List V)} {p : Addr} {xs : List V} (h : OwnL a rows H l) (i : Nat) (e : l[i]? = some (p, xs)) (ys : List V) : OwnL a rows (upd H p (.lst ys)) (l.set i (p, ys)) := by
  obtain ⟨hi, e'⟩ := List.getElem?_eq_some_iff.mp e
  have e1 : l = l.take i ++ (p, xs) :: l.drop (i + 1) := by rw [← e']; simp
  rw [List.set_eq_take_append_cons_drop, if_pos hi]
  rw [e1] at h
  exact h.put (l.take i) (l.drop (i + 1)) ys
theorem OwnL.tup {a : GA} {rows : List (Int × Addr)} {H : Hp} {l : List (Addr × List V)} {p : Addr} {xs : List V} (h : OwnL a rows H l) (i : Nat) (e : l[i]? = some (p, xs)) (o : HO) : Tup H (L2.upd H p o) := Tup.put (h.ix i e) o
section
variable {P : Program} {w : World} {K : PySem.W.Frag} {mg : Str → Option Value} {base : Heap}
def atN (ns : List Int) (k : Nat) : Int := (ns[k]?).getD 0
def sp_at (K : PySem.W.Frag) : Sp := fun vs H Q _ => ∃ (a : Addr) (ns : List Int) (k : Int), vs = [.ref a, .int k] ∧ SqL K H a (ns.map V.int) ∧ 0 ≤ k ∧ Q (.int (atN ns k.toNat)) H
theorem mp_at : MonP (sp_at K) := fun vs H Q Q' E h ⟨a, ns, k, x1, x2, x3, q⟩ => ⟨a, ns, k, x1, x2, x3, h _ _ q⟩
end
end JF

/-! ### helpers of the laws: dicts by tuples, zips of tuples -/
namespace JF
open PySem PySem.Spec PyProof.Rows L2
section
variable {X : Cx}
/-- d.setdefault(tuple, x), the dict by tuples -/
def rSetdT : V → List V → Hp → VK → Prop := fun u us H Q => ∃ (d t : Addr) (k : List Key) (z : V) (tab : List (List Key × V)), u = .ref d ∧ us = [.ref t, z] ∧ H d = some (.dT tab) ∧ H t = some (.tup (k.map kV)) ∧ tab.length < sizeLine ∧
  (∀ v, valV tab k = some v → Q v H) ∧ (valV tab k = none → Q z (upd H d (.dT (putK tab k z))))
theorem mt_setdT (room : X.A.units + 64 < cLine) : MtR X "dict.setdefault" rSetdT := by
  intro pins s σ H u us uv uvs Q I ru rus h
  obtain ⟨d, t, k, z, tab, rfl, rfl, hd, ht, hlt, there, away⟩ := h
  cases ru
  obtain ⟨kv, zv, rfl, rk, rz⟩ := vals2 rus
  cases rk
  obtain ⟨hle, hsys, ys, tie, dict⟩ := dt_of I.hok hd
  have hys : ys.length ≤ sizeLine := Paired.length tie ▸ hle
  have look := tie.val k
  refine call_setdefault_heap (knd := tupleKind (mixKind X.prog X.w)) (k := k) (tupleKind_room_in1 (by omega)) (key_of I.hok ht) hsys dict ?got ?new hys
  case got =>
    intro p hp
    rw [hp] at look
    cases ev : valV tab k with
    | none => rw [ev] at look; exact False.elim look
    | some v =>
      rw [ev] at look
      exact ⟨v, H, I.tok _, look, there v ev⟩
  case new =>
    intro hn h2 dict2 but
    have ev : valV tab k = none := by
      cases ev : valV tab k with
      | none => rfl
      | some v => rw [hn, ev] at look; exact False.elim look
    obtain ⟨o, es, ep, ho, m1, m2, m3, _, m4⟩ := dict2
    have tie2 : KT (upd H d (.dT (putK tab k z))) (putK tab k z) (storedH ys k t zv) := (tie.put k ht rz).keeps fun b items e => by
      rw [upd_ne (ne_of e hd (fun x => nomatch x))]
      exact e
    have hle2 : (putK tab k z).length ≤ sizeLine := by
      rw [putK_new _ ev, List.length_append]
      exact hlt
    have I2 := d_write (t' := s.toks + (tupleKind (mixKind X.prog X.w)).draws k) I (by rw [hd]; exact True.intro) but ⟨o, ho⟩ (ob := .dT (putK tab k z)) ⟨hle2, hsys, _, tie2, o, es, ep, ho, m1, m2, m3, m4⟩
    exact ⟨z, _, I2, rz, away ev⟩
end
section
variable {X : Cx} {p pos tpos : Pos} {e e2 : Expr} {ta : TA} {elts : List Expr} {kk : Nat}
theorem pi_zipAK (K : PySem.W.Frag) (hK : X.K = K) (hg : Gl X "zip") (hm : X.mg "zip" = none) (ha : PA X [e, e2] ta) (hs : starEach [e, e2] X.env = (false, eval e X.env) :: starEach [e2] X.env := by rfl) (hpl : (backTo pos (starEach [e2] X.env)).any (·.1) = false := by rfl) :
    PI X (.Tuple elts kk tpos) (.Call (.Name "zip" p) [e, e2] [] pos) (RZ.iZipA K ta) := by subst hK; exact RZ.pi_zipA hg hm ha hs hpl
end
section
variable {K : PySem.W.Frag} {σ : L2.St} {H : Hp} {Q : VK}
theorem rd_iZA {tr : TA} {R : It → Hp → Prop} (h : tr σ H fun vs H1 => ∃ a b xs ys, vs = [.ref a, .ref b] ∧ ((SqL K H1 a xs ∧ SqL K H1 b ys ∧ R (Itz K a b) H1) ∨ (SqT K H1 a xs ∧ SqT K H1 b ys ∧ R (RZ.ItzT K a b) H1))) : RZ.iZipA K tr σ H R := h
theorem rd_tyD {l : Addr} {xs : List (Key × V)} {R : Prop} (h1 : H l = some (.dK xs)) (q : R) : tyV K "dict" (.ref l) H ∧ R := ⟨Or.inr (Or.inr (Or.inl ⟨rfl, Or.inl ⟨_, h1⟩⟩)), q⟩
theorem rd_tyDT {l : Addr} {xs : List (List Key × V)} {R : Prop} (h1 : H l = some (.dT xs)) (q : R) : tyV K "dict" (.ref l) H ∧ R := ⟨Or.inr (Or.inr (Or.inl ⟨rfl, Or.inr ⟨_, h1⟩⟩)), q⟩
theorem rd_iK {td : TE} {R : It → Hp → Prop} (h : td σ H fun x H1 => ∃ d o, x = .ref d ∧ ((∃ kvs, H1 d = some (.frz o (.dK kvs)) ∧ R (Itk d o kvs) H1) ∨ ∃ kvs, H1 d = some (.frz o (.dT kvs)) ∧ R (Itkt d o kvs) H1)) : iKeys td σ H R := h
theorem shaped_tup {ns : List Int} : SeqAt.shaped (.tuple (ns.map PyData.int)) = true := by
  have h1 := depth_ints ns
  have h2 := lay_ints ns
  have h3 : PyData.depth (.tuple (ns.map PyData.int)) ≤ 64 := by
    simp only [PyData.depth]
    omega
  unfold SeqAt.shaped
  rw [decide_eq_true h3, Bool.and_true]
  simp only [PyData.canLay0, h2]
theorem rd_neDT {p p' : Addr} {ns ms : List Int} (h1 : H p = some (.tup (ns.map V.int))) (h2 : H p' = some (.tup (ms.map V.int)))
    (q : Q (.bl (!PyData.eqv (.tuple (ns.map PyData.int)) (.tuple (ms.map PyData.int)))) H) : rNeD K (.ref p) (.ref p') H Q := ⟨_, _, .tup (SqT.of h1) dp_ints, .tup (SqT.of h2) dp_ints, shaped_tup, shaped_tup, q⟩
theorem eqvT_refl (ns : List Int) : PyData.eqv (.tuple (ns.map PyData.int)) (.tuple (ns.map PyData.int)) = true := SeqAt.eqv_refl _ (by simp only [PyData.canLay0]; exact lay_ints ns)
end
theorem eqvAll_ints : ∀ ns ms : List Int, PyData.eqvAll (ns.map PyData.int) (ms.map PyData.int) = decide (ns = ms)
  | [], [] => by simp [PyData.eqvAll]
  | [], _ :: _ => by simp [PyData.eqvAll]
  | _ :: _, [] => by simp [PyData.eqvAll]
  | n :: ns, m :: ms => by
    simp only [List.map_cons, PyData.eqvAll, PyData.eqv, eqvAll_ints ns ms, List.cons.injEq]
    by_cases a : n = m <;> by_cases b : ns = ms <;> simp [a, b]
theorem shaped_list {ns : List Int} : SeqAt.shaped (.list (ns.map PyData.int)) = true := by
  have h1 := depth_ints ns
  have h2 := lay_ints ns
  have h3 : PyData.depth (.list (ns.map PyData.int)) ≤ 64 := by
    simp only [PyData.depth]
    omega
  unfold SeqAt.shaped
  rw [decide_eq_true h3, Bool.and_true]
  simp only [PyData.canLay0, h2]
/-- lists, tuples of whole numbers, compared -/
theorem rd_eqLI {K : PySem.W.Frag} {H : Hp} {Q : VK} {p p' : Addr} {ns ms : List Int} (h1 : SqL K H p (ns.map V.int)) (h2 : SqL K H p' (ms.map V.int)) (q : Q (.bl (decide (ns = ms))) H) : rEqD K (.ref p) (.ref p') H Q :=
  rd_eqDI h1 h2 shaped_list shaped_list (by
    have e : PyData.eqv (.list (ns.map PyData.int)) (.list (ms.map PyData.int)) = decide (ns = ms) := by rw [← eqvAll_ints]; simp only [PyData.eqv]
    rw [e]; exact q)
theorem rd_neLI {K : PySem.W.Frag} {H : Hp} {Q : VK} {p p' : Addr} {ns ms : List Int} (h1 : SqL K H p (ns.map V.int)) (h2 : SqL K H p' (ms.map V.int)) (q : Q (.bl (!decide (ns = ms))) H) : rNeD K (.ref p) (.ref p') H Q :=
  rd_neDI h1 h2 shaped_list shaped_list (by
    have e : PyData.eqv (.list (ns.map PyData.int)) (.list (ms.map PyData.int)) = decide (ns = ms) := by rw [← eqvAll_ints]; simp only [PyData.eqv]
    rw [e]; exact q)
theorem rd_neTI {K : PySem.W.Frag} {H : Hp} {Q : VK} {p p' : Addr} {ns ms : List Int} (h1 : H p = some (.tup (ns.map V.int))) (h2 : H p' = some (.tup (ms.map V.int))) (q : Q (.bl (!decide (ns = ms))) H) : rNeD K (.ref p) (.ref p') H Q :=
  rd_neDT h1 h2 (by
    have e : PyData.eqv (.tuple (ns.map PyData.int)) (.tuple (ms.map PyData.int)) = decide (ns = ms) := by rw [← eqvAll_ints]; simp only [PyData.eqv]
    rw [e]; exact q)
theorem mm_setdT : MonM rSetdT := fun x y H Q Q' h ⟨d, t, k, z, tab, e1, e2, e3, e4, e5, q1, q2⟩ => ⟨d, t, k, z, tab, e1, e2, e3, e4, e5, fun v hv => h _ _ (q1 v hv), fun hv => h _ _ (q2 hv)⟩
theorem mr_neD {K : PySem.W.Frag} : MonR (rNeD K) := fun x y H Q Q' h ⟨a, b, e1, e2, e3, e4, q⟩ => ⟨a, b, e1, e2, e3, e4, h _ _ q⟩
theorem mr_eqD {K : PySem.W.Frag} : MonR (rEqD K) := fun x y H Q Q' h ⟨a, b, e1, e2, e3, e4, q⟩ => ⟨a, b, e1, e2, e3, e4, h _ _ q⟩
/-! own objects beside a grove: lists, dicts -/
structure OwnO (a : GA) (rows : List (Int × Addr)) (H : Hp) (l : List (Addr × HO)) : Prop where
  nd : (l.map (·.1)).Nodup
  at_ : ∀ p o, (p, o) ∈ l → H p = some o
  mv : ∀ p o, (p, o) ∈ l → ¬ HO.still o
  out : ∀ p o, (p, o) ∈ l → p ∉ a.muts rows
theorem OwnO.same {a : GA} {rows : List (Int × Addr)} {H H' : Hp} {l : List (Addr × HO)} (h : OwnO a rows H l) (s : Same H H') : OwnO a rows H' l := ⟨h.nd, fun p xs m => s _ _ (h.at_ p xs m), h.mv, h.out⟩
theorem OwnO.step {C : Addr} {H H1 : Hp} {a : GA} {rows r1 : List (Int × Addr)} {q q1 : List Sq} {l : List (Addr × HO)} (h : OwnO a rows H l) (x : GStep C H a rows q H1 r1 q1) : OwnO a r1 H1 l :=
  ⟨h.nd, fun p xs m => (x.own (h.at_ p xs m) (h.out p xs m)).1, h.mv, fun p xs m => (x.own (h.at_ p xs m) (h.out p xs m)).2⟩
theorem OwnO.nil {a : GA} {rows : List (Int × Addr)} {H : Hp} : OwnO a rows H [] := ⟨by simp, fun _ _ m => by simp at m, fun _ _ m => by simp at m, fun _ _ m => by simp at m⟩
theorem OwnO.new {C : Addr} {a : GA} {rows : List (Int × Addr)} {q : List Sq} {H : Hp} {l : List (Addr × HO)} {p : Addr} {o : HO} (h : OwnO a rows H l) (G : GAt C H a rows q) (hp : H p = none) (ho : ¬ HO.still o) : OwnO a rows (upd H p o) ((p, o) :: l) := by
  refine ⟨?_, fun p' ys m => ?_, fun p' ys m => ?_, fun p' ys m => ?_⟩
  · rw [List.map_cons, List.nodup_cons]
    refine ⟨fun z => ?_, h.nd⟩
    obtain ⟨⟨p', ys⟩, m, e⟩ := List.mem_map.mp z
    have e' : p' = p := e
    subst e'
    rw [h.at_ _ _ m] at hp
    cases hp
  · rcases List.mem_cons.mp m with m | m
    · cases m; exact upd_same
    · exact same_upd hp _ _ (h.at_ _ _ m)
  · rcases List.mem_cons.mp m with m | m
    · cases m; exact ho
    · exact h.mv _ _ m
  · rcases List.mem_cons.mp m with m | m
    · cases m; exact G.new_out hp
    · exact h.out _ _ m
theorem OwnO.ix {a : GA} {rows : List (Int × Addr)} {H : Hp} {l : List (Addr × HO)} {p : Addr} {o : HO} (h : OwnO a rows H l) (i : Nat) (e : l[i]? = some (p, o)) : H p = some o := h.at_ p o (List.mem_of_getElem? e)
theorem mem_set {α : Type} {l : List α} {i : Nat} {y x : α} (h : x ∈ l.set i y) : x = y ∨ ∃ j, j ≠ i ∧ l[j]? = some x := by
  obtain ⟨j, hj, e⟩ := List.mem_iff_getElem.mp h
  by_cases z : i = j
  · subst z; left; rw [← e, List.getElem_set_self]
  · right
    refine ⟨j, Ne.symm z, ?_⟩
    rw [List.getElem_set_ne z] at e
    rw [List.length_set] at hj
    rw [at_get hj, e]
theorem OwnO.ne {a : GA} {rows : List (Int × Addr)} {H : Hp} {l : List (Addr × HO)} (h : OwnO a rows H l) {i j : Nat} {p p' : Addr} {o o' : HO} (e : l[i]? = some (p, o)) (e' : l[j]? = some (p', o')) (n : j ≠ i) : p' ≠ p := fun z => by
  obtain ⟨hi, ei⟩ := List.getElem?_eq_some_iff.mp e
  obtain ⟨hj, ej⟩ := List.getElem?_eq_some_iff.mp e'
  exact n ((List.getElem_inj (xs := l.map (·.1)) (h₀ := by simpa using hj) (h₁ := by simpa using hi) h.nd).mp (by simp [ei, ej, z]))
theorem OwnO.put {a : GA} {rows : List (Int × Addr)} {H : Hp} {l : List (Addr × HO)} {p : Addr} {o : HO} (h : OwnO a rows H l) (i : Nat) (e : l[i]? = some (p, o)) (o' : HO) (ho : ¬ HO.still o') : OwnO a rows (upd H p o') (l.set i (p, o')) := by
  have nd' : ((l.set i (p, o')).map (·.1)) = l.map (·.1) := by
    rw [List.map_set]
    obtain ⟨hi, ei⟩ := List.getElem?_eq_some_iff.mp e
    refine List.ext_getElem (by simp) fun j h1 h2 => ?_
    by_cases z : i = j
    · subst z; simp [ei]
    · rw [List.getElem_set_ne z]
  have cases_ : ∀ p' u, (p', u) ∈ l.set i (p, o') → (p' = p ∧ u = o') ∨ (p' ≠ p ∧ (p', u) ∈ l) := fun p' u m => by
    rcases mem_set m with m | ⟨j, hj, m⟩
    · cases m; exact .inl ⟨rfl, rfl⟩
    · exact .inr ⟨h.ne e m hj, List.mem_of_getElem? m⟩
  refine ⟨by rw [nd']; exact h.nd, fun p' u m => ?_, fun p' u m => ?_, fun p' u m => ?_⟩
  · rcases cases_ p' u m with ⟨rfl, rfl⟩ | ⟨n, m⟩
    · exact upd_same
    · rw [upd_ne n]; exact h.at_ _ _ m
  · rcases cases_ p' u m with ⟨rfl, rfl⟩ | ⟨n, m⟩
    · exact ho
    · exact h.mv _ _ m
  · rcases cases_ p' u m with ⟨rfl, rfl⟩ | ⟨n, m⟩
    · exact h.out _ o (List.mem_of_getElem? e)
    · exact h.out _ _ m
theorem GAt.ownO {C : Addr} {H : Hp} {a : GA} {rows : List (Int × Addr)} {q : List Sq} {l : List (Addr × HO)} {p : Addr} {o : HO} (G : GAt C H a rows q) (h : OwnO a rows H l) (i : Nat) (e : l[i]? = some (p, o)) (o' : HO) : GAt C (L2.upd H p o') a rows q :=
  G.upd (fun u e' => by rw [h.ix i e] at e'; cases e'; exact h.mv _ _ (List.mem_of_getElem? e)) (h.out _ _ (List.mem_of_getElem? e))
theorem OwnO.tup {a : GA} {rows : List (Int × Addr)} {H : Hp} {l : List (Addr × HO)} {p : Addr} {o : HO} (h : OwnO a rows H l) (i : Nat) (e : l[i]? = some (p, o)) (o' : HO) : Tup H (L2.upd H p o') := fun b ys e' => by
  rw [upd_ne (by rintro rfl; rw [h.ix i e] at e'; cases e'; exact h.mv _ _ (List.mem_of_getElem? e) trivial)]; exact e'
/-! the law's promise -/
def sp_law (K : PySem.W.Frag) : Sp := fun vs H Q _ => ∃ (a : Addr) (ns : List Int), vs = [.ref a] ∧ SqL K H a (ns.map V.int) ∧ ns.length ≤ 63 ∧ Only H ∧ ∀ H', Q (.bl true) H'
theorem sp_law_in {K : PySem.W.Frag} (H : Hp) (a : Addr) (ns : List Int) (hl : ns.length ≤ 63) (hO : Only H) (hS : SqL K H a (ns.map V.int)) : sp_law K [.ref a] H (fun v _ => v = .bl true) (fun _ _ _ => False) := ⟨a, ns, rfl, hS, hl, hO, fun _ => rfl⟩
theorem shl_ok {i : Nat} : (1 : Int) * 2 ^ ((i : Int)).toNat = 2 ^ i := by rw [Int.one_mul, Int.toNat_natCast]
/-! solid squares: what lives, the span -/
theorem even_none : ∀ l : Nat, (Sq.even l 0).lives = 0 ∧ (Sq.even l 0).span = none
  | 0 => ⟨rfl, rfl⟩
  | l + 1 => by
    obtain ⟨h1, h2⟩ := even_none l
    refine ⟨?_, ?_⟩
    · show (Sq.even l 0).lives + (Sq.even l 0).lives + (Sq.even l 0).lives + (Sq.even l 0).lives = 0
      rw [h1]; rfl
    · show r4 _ (Sq.even l 0).span (Sq.even l 0).span (Sq.even l 0).span (Sq.even l 0).span = none
      rw [h2]; rfl
theorem even_some {s : Int} (hs : s ≠ 0) : ∀ l : Nat, (Sq.even l s).lives = 2 ^ l * 2 ^ l ∧ (Sq.even l s).span = some (0, 0, 2 ^ l, 2 ^ l)
  | 0 => by simp [Sq.even, Sq.lives, Sq.span, hs]
  | l + 1 => by
    obtain ⟨h1, h2⟩ := even_some hs l
    have e : (2 : Int) ^ (l + 1) = 2 * 2 ^ l := by rw [Int.pow_succ]; omega
    have h0 : (0 : Int) < 2 ^ l := Int.pow_pos (by decide)
    refine ⟨?_, ?_⟩
    · show (Sq.even l s).lives + (Sq.even l s).lives + (Sq.even l s).lives + (Sq.even l s).lives = _
      rw [h1, e]
      generalize (2 : Int) ^ l = h
      have e2 : 2 * h * (2 * h) = 4 * (h * h) := by rw [Int.mul_assoc, Int.mul_left_comm h 2 h, ← Int.mul_assoc]; rfl
      rw [e2]; omega
    · show r4 (2 ^ (Sq.even l s).level) (Sq.even l s).span (Sq.even l s).span (Sq.even l s).span (Sq.even l s).span = _
      rw [h2, Sq.level_even, e]
      generalize (2 : Int) ^ l = h at h0
      simp only [r4, r4step, rb, Option.some.injEq, Prod.mk.injEq]
      refine ⟨?_, ?_, ?_, ?_⟩ <;> omega
theorem even_inj {s s' : Int} : ∀ {l l' : Nat}, Sq.even l s = Sq.even l' s' → l = l' ∧ s = s'
  | 0, 0, h => by cases h; exact ⟨rfl, rfl⟩
  | 0, _ + 1, h => by cases h
  | _ + 1, 0, h => by cases h
  | l + 1, l' + 1, h => by
    injection h with h1
    obtain ⟨a, b⟩ := even_inj h1
    exact ⟨by rw [a], b⟩
theorem pow64 {i : Nat} (h : i ≤ 60) : (0 : Int) < 2 ^ i ∧ (2 : Int) ^ i < 2 ^ 64 := by
  refine ⟨Int.pow_pos (by decide), ?_⟩
  have e2 : 2 ^ i < 2 ^ 64 := Nat.pow_lt_pow_right (by decide) (by omega)
  exact_mod_cast e2
theorem sq_ok {i : Nat} (h : i ≤ 60) : CMulW ((2 : Int) ^ i) (2 ^ i) := by
  obtain ⟨h1, h2⟩ := pow64 h
  have e1 : (2 : Int) ^ 64 ≤ 2 ^ 2000 := by decide +kernel
  exact mulW_of (by omega) (by omega) (by omega) (by omega)
section
variable {P : Program} {w : World} {K : PySem.W.Frag} {mg : Str → Option Value} {base : Heap}
def sp_same : Sp := fun vs H Q _ => ∃ i d : Int, vs = [.int i, .int d] ∧ Q (.bl (decide (i = d))) H
theorem mp_same : MonP sp_same := fun vs H Q Q' E h ⟨i, d, x1, q⟩ => ⟨i, d, x1, h _ _ q⟩
theorem sp_sameT {i : Int} {H : Hp} {Q : VK} {E : XK} (q : Q (.bl true) H) : sp_same [.int i, .int i] H Q E := ⟨i, i, rfl, by rw [decide_eq_true rfl]; exact q⟩
end
end JF

/-! ### walks that the hand layer lacks: zip over lists and tuples alike, enumerate of a text -/
namespace JF
open PySem PySem.Spec PyProof.Rows L2
/-- a tuple, or a list -/
def sqB (t : Bool) (K : PySem.W.Frag) (H : Hp) (a : Addr) (xs : List V) : Prop := match t with
  | true => SqT K H a xs
  | false => SqL K H a xs
def isB (t : Bool) (h : Heap) (a : Addr) (its : Array Value) : Prop := match t with
  | true => h.IsTuple a its
  | false => h.IsList a its
def itB (t : Bool) (h : Heap) (it a : Addr) (i : Nat) : Prop := match t with
  | true => h.IsTupleIter it a i
  | false => h.IsListIter it a i
def obB (t : Bool) (a : Addr) : Obj := match t with
  | true => { cls := .type "tuple_iterator", data := .fields #[.ref a, .int 0 0] }
  | false => { cls := .type "list_iterator", data := .fields #[.ref a, .int 0 0] }
theorem itB.obj {t : Bool} {h : Heap} {it a : Addr} {i : Nat} (s : itB t h it a i) : ∃ o vs, h.get? it = some o ∧ o.data = .fields vs := by
  cases t with
  | true => obtain ⟨o, e, _, d⟩ := s; exact ⟨o, _, e, d⟩
  | false => obtain ⟨o, e, _, d⟩ := s; exact ⟨o, _, e, d⟩
theorem itB.at {t : Bool} {h h' : Heap} {it a : Addr} {i : Nat} (s : itB t h it a i) (k : ∀ o, h.get? it = some o → h'.get? it = some o) : itB t h' it a i := by
  cases t with
  | true => exact Heap.IsTupleIter.at s k
  | false => exact Heap.IsListIter.at s k
theorem isB.at {t : Bool} {h h' : Heap} {a : Addr} {its : Array Value} (s : isB t h a its) (k : ∀ o, h.get? a = some o → h'.get? a = some o) : isB t h' a its := by
  cases t with
  | true => exact Heap.IsTuple.at s k
  | false => exact Heap.IsList.at s k
theorem isB.lt {t : Bool} {h : Heap} {a : Addr} {its : Array Value} (s : isB t h a its) : a < h.objs.size := by
  cases t with
  | true => obtain ⟨o, e, _⟩ := s; exact Heap.lt_size e
  | false => obtain ⟨o, e, _⟩ := s; exact Heap.lt_size e
theorem isB.ne {t u : Bool} {h : Heap} {a b it : Addr} {i : Nat} {its : Array Value} (p : isB t h a its) (s : itB u h it b i) : a ≠ it := fun q => by
  obtain ⟨o', vs, e', d'⟩ := s.obj
  rw [← q] at e'
  cases t with
  | true => obtain ⟨o, e, _, n, d⟩ := p; rw [e] at e'; cases e'; rw [d] at d'; cases d'
  | false => obtain ⟨o, e, _, n, d⟩ := p; rw [e] at e'; cases e'; rw [d] at d'; cases d'
theorem drawsB {P : Program} {w : World} {A : Around} (hh : A.handled = none) (t : Bool) (it a : Addr) (hne : a ≠ it) (its : Array Value) :
    Draws P w A it [it, a] its.size (fun i v => its[i]? = some v) (fun i h => itB t h it a i ∧ isB t h a its) := by
  cases t with
  | true => exact Draws.tuple hh it a hne its
  | false => exact Draws.list hh it a hne its
theorem beginsB (t : Bool) (a : Addr) (its : Array Value) : Begins (.ref a) (obB t a) fun h => isB t h a its := by
  cases t with
  | true => exact begins_tuple a its
  | false => exact begins_list a its
theorem itB0 {t : Bool} {h : Heap} {it a : Addr} (e : h.get? it = some (obB t a)) : itB t h it a 0 := by
  cases t with
  | true => exact ⟨_, e, rfl, rfl⟩
  | false => exact ⟨_, e, rfl, rfl⟩
theorem sqB_inv {X : Cx} {pins : List (Addr × Obj)} {σ : L2.St} {H : Hp} {s : Shared} {t : Bool} {a : Addr} {xs : List V} (I : Inv X pins σ H s) (h : sqB t X.K H a xs) : ∃ its : List Value, Vals xs its ∧ isB t s.heap a its.toArray := by
  cases t with
  | true => obtain ⟨its, r, p, _⟩ := I.tuple h; exact ⟨its, r, p⟩
  | false => obtain ⟨its, r, p, _⟩ := I.list h; exact ⟨its, r, p.isList⟩
theorem sqB_inj {X : Cx} {pins : List (Addr × Obj)} {σ : L2.St} {H : Hp} {s : Shared} {t : Bool} {a : Addr} {xs ys : List V} (I : Inv X pins σ H s) (h : sqB t X.K H a xs) (h' : sqB t X.K H a ys) : xs = ys := by
  cases t with
  | true => exact I.tuple_inj h h'
  | false => exact I.list_inj h h'
/-- the things at a and b, in step, each turn a new pair -/
def ItzQ (K : PySem.W.Frag) (t u : Bool) (a b : Addr) : It :=
  ⟨fun i H => ∃ (xs ys : List V) (x y : V), sqB t K H a xs ∧ sqB u K H b ys ∧ xs[i]? = some x ∧ ys[i]? = some y,
    fun i H v H' => ∃ T x y, v = .ref T ∧ H T = none ∧ H' = upd H T (.tup [x, y]) ∧ (∀ xs, sqB t K H a xs → xs[i]? = some x) ∧ ∀ ys, sqB u K H b ys → ys[i]? = some y,
    fun i H => ∃ xs ys : List V, sqB t K H a xs ∧ sqB u K H b ys ∧ i ≤ xs.length ∧ i ≤ ys.length ∧ (xs.length = i ∨ ys.length = i)⟩
theorem turn_zipQ {P : Program} {w : World} {K : PySem.W.Frag} {elts : List Expr} {kk : Nat} {tpos : Pos} {t u : Bool} {a b z TI TO i1 i2 : Addr} (D : ZipSep2 z TI TO i1 i2 [i1, a] [i2, b]) :
    Turn P w K (.Tuple elts kk tpos) (ItzQ K t u a b) [z, TI, TO, i1, i2] z (fun i h => IsZip h z TI TO .none ∧ IsPair h TI (.ref i1) (.ref i2) ∧ (∃ x y, IsPair h TO x y) ∧ itB t h i1 a i ∧ itB u h i2 b i) where
  mem := by simp
  obj := fun i h st c hc => by
    obtain ⟨hz, hI, ⟨x, y, hO⟩, h1, h2⟩ := st
    obtain ⟨o1, v1, e1, d1⟩ := h1.obj
    obtain ⟨o2, v2, e2, d2⟩ := h2.obj
    have five : c = z ∨ c = TI ∨ c = TO ∨ c = i1 ∨ c = i2 := by simpa using hc
    rcases five with rfl | rfl | rfl | rfl | rfl
    · exact ⟨_, hz, fun v q => nomatch q⟩
    · exact ⟨_, hI, fun v q => nomatch q⟩
    · exact ⟨_, hO, fun v q => nomatch q⟩
    · exact ⟨o1, e1, fun v q => by rw [d1] at q; cases q⟩
    · exact ⟨o2, e2, fun v q => by rw [d2] at q; cases q⟩
  keep := fun i h h' st k => by
    obtain ⟨hz, hI, ⟨x, y, hO⟩, h1, h2⟩ := st
    exact ⟨k _ (by simp) _ hz, k _ (by simp) _ hI, ⟨x, y, k _ (by simp) _ hO⟩, h1.at fun o => k _ (by simp) o, h2.at fun o => k _ (by simp) o⟩
  item := by
    intro X eP ew eK hc i pins s σ H E I hf st hg
    subst eP ew eK
    obtain ⟨hz, hI, ⟨x0, y0, hO⟩, h1, h2⟩ := st
    obtain ⟨xs, ys, x, y, qa, qb, hx, hy⟩ := hg
    obtain ⟨its, rv, p⟩ := sqB_inv I qa
    obtain ⟨its2, rv2, p2⟩ := sqB_inv I qb
    obtain ⟨v, hv, ru⟩ := rv.get hx
    obtain ⟨v2, hv2, ru2⟩ := rv2.get hy
    have l1 : i < its.toArray.size := by rw [List.size_toArray]; exact (List.getElem?_eq_some_iff.mp hv).1
    have l2 : i < its2.toArray.size := by rw [List.size_toArray]; exact (List.getElem?_eq_some_iff.mp hv2).1
    have zl := Heap.lt_size hz
    obtain ⟨o1, _, e1, _⟩ := h1.obj
    obtain ⟨o2, _, e2, _⟩ := h2.obj
    have na : a ≠ i1 := p.ne h1
    have nb : b ≠ i2 := p2.ne h2
    refine wpAny_pyNext_zipD2_item D (drawsB (P := X.prog) (w := X.w) (A := X.A.in1) (show X.A.in1.handled = none from I.ok.hd hc) t i1 a na its.toArray) (drawsB (P := X.prog) (w := X.w) (A := X.A.in1) (show X.A.in1.handled = none from I.ok.hd hc) u i2 b nb its2.toArray) hz hI hO ⟨h1, p⟩ ⟨h2, p2⟩ l1 l2 fun w1 w2 g tk m1 m2 z' tO d1 d2 hT hsz hk => ?_
    have ew1 : w1 = v := by
      have q : its.toArray[i]? = some v := by simpa using hv
      exact Option.some.inj (m1.symm.trans q)
    have ew2 : w2 = v2 := by
      have q : its2.toArray[i]? = some v2 := by simpa using hv2
      exact Option.some.inj (m2.symm.trans q)
    subst ew1 ew2
    refine ⟨_, rfl, wpAny_letOwnedTupleGo_zip (s := { s with heap := g, toks := tk }) z' fun g2 z2 sb => ?_⟩
    have hT2 : g2.get? s.heap.objs.size = some { cls := .type "tuple", data := .seq #[w1, w2] } := (sb.2 _ (Nat.ne_of_gt zl)).trans hT
    have hob : ObjOk X.prog X.w (upd H s.heap.objs.size (.tup [x, y])) g2 s.heap.objs.size (.tup [x, y]) :=
      ⟨by show 2 ≤ sizeLine; decide, [w1, w2], .cons ru (.cons ru2 .nil), _, hT2, rfl, _, rfl⟩
    have kk : ∀ c o, c ∉ [z, TI, TO, i1, i2] → s.heap.get? c = some o → g2.get? c = some o := fun c o hb e => by
      simp only [List.mem_cons, List.not_mem_nil, or_false, not_or] at hb
      exact (sb.2 c hb.1).trans (hk c o hb.1 hb.2.2.1 hb.2.2.2.1 hb.2.2.2.2 e)
    refine ⟨.ref s.heap.objs.size, _, I.turnedNew (t' := tk) kk hf (Nat.le_refl _) hob, rfl, ⟨_, x, y, rfl, I.hok.fresh (Nat.le_refl _), rfl, fun l hl => by rw [sqB_inj I hl qa]; exact hx, fun l hl => by rw [sqB_inj I hl qb]; exact hy⟩, ⟨z2, ?_, ⟨w1, w2, ?_⟩, ?_, ?_⟩, fun c hcm => ?_⟩
    · exact Eq.trans (sb.2 _ D.TIz) (hk _ _ D.TIz D.TITO D.TIi1 D.TIi2 hI)
    · exact (sb.2 _ D.TOz).trans tO
    · exact d1.1.at fun o q => (sb.2 _ (Ne.symm D.zi1)).trans q
    · exact d2.1.at fun o q => (sb.2 _ (Ne.symm D.zi2)).trans q
    · have lt : c < s.heap.objs.size := by
        have five : c = z ∨ c = TI ∨ c = TO ∨ c = i1 ∨ c = i2 := by simpa using hcm
        rcases five with rfl | rfl | rfl | rfl | rfl
        · exact zl
        · exact Heap.lt_size hI
        · exact Heap.lt_size hO
        · exact Heap.lt_size e1
        · exact Heap.lt_size e2
      rw [upd_ne (Nat.ne_of_lt lt)]
      exact (hf c hcm).1
  done := by
    intro X eP ew eK hc i pins s σ H E I hf st hg
    subst eP ew eK
    obtain ⟨hz, hI, ⟨x0, y0, hO⟩, h1, h2⟩ := st
    obtain ⟨xs, ys, qa, qb, lx, ly, hend⟩ := hg
    obtain ⟨its, rv, p⟩ := sqB_inv I qa
    obtain ⟨its2, rv2, p2⟩ := sqB_inv I qb
    have l1 := rv.length
    have l2 := rv2.length
    have na : a ≠ i1 := p.ne h1
    have nb : b ≠ i2 := p2.ne h2
    exact wpAny_pyNext_zipD2_end D (drawsB (P := X.prog) (w := X.w) (A := X.A.in1) (show X.A.in1.handled = none from I.ok.hd hc) t i1 a na its.toArray) (drawsB (P := X.prog) (w := X.w) (A := X.A.in1) (show X.A.in1.handled = none from I.ok.hd hc) u i2 b nb its2.toArray) hz hI hO ⟨h1, p⟩ ⟨h2, p2⟩ (by simp; omega) (by simp; omega) (by simp; omega) fun g tk hk =>
      ⟨rfl, I.turnedL (t' := tk) (ch := [z, TI, TO, i1, i2]) (fun c o hb q => by
        simp only [List.mem_cons, List.not_mem_nil, or_false, not_or] at hb
        exact hk c o hb.1 hb.2.2.1 hb.2.2.2.1 hb.2.2.2.2 q) hf⟩
  self := fun A i s Q E sg => wpAny_pyIter_zip sg.1
theorem sep2 (I l1 l2 : Nat) (h1 : l1 < I) (h2 : l2 < I) : ZipSep2 (I + 4) (I + 2) (I + 3) I (I + 1) [I, l1] [I + 1, l2] := by
  have n0 : ∀ {x y : Nat}, x ≠ y → ¬ ((x : Addr) = y) := fun h => h
  constructor
  all_goals first
    | exact List.mem_cons_self
    | (intro q; rcases List.mem_cons.mp q with q | q
       · revert q; refine n0 ?_; omega
       · rw [List.mem_singleton] at q; revert q; refine n0 ?_; omega)
    | (refine n0 ?_; omega)
def iZipQ (K : PySem.W.Frag) (t u : Bool) (ta : TA) : TI := fun σ H R => ta σ H fun vs H1 => ∃ a b xs ys, vs = [.ref a, .ref b] ∧ sqB t K H1 a xs ∧ sqB u K H1 b ys ∧ R (ItzQ K t u a b) H1
theorem pi_zipQ {X : Cx} (K : PySem.W.Frag) (hK : X.K = K) (t u : Bool) {e e2 : Expr} {ta : TA} {p pos tpos : Pos} {elts : List Expr} {kk : Nat} (hg : Gl X "zip") (hm : X.mg "zip" = none) (ha : PA X [e, e2] ta)
    (hs : starEach [e, e2] X.env = (false, eval e X.env) :: starEach [e2] X.env := by rfl) (hpl : (backTo pos (starEach [e2] X.env)).any (·.1) = false := by rfl) : PI X (.Tuple elts kk tpos) (.Call (.Name "zip" p) [e, e2] [] pos) (iZipQ K t u ta) := by
  subst hK
  refine ⟨fun pins s σ H R I hh => ?_⟩
  refine Call_ (ld_blt I hg hm PyProof.Rows.boot_zip (PyProof.Rows.callWith_type1 (thn (ha.run pos pins s σ H _ I hh) fun _ s1 ⟨_, H1, I1, r1, q1⟩ => ?_) hs hpl))
  obtain ⟨a, b, xs, ys, rfl, qa, qb, q⟩ := q1
  obtain ⟨v1, v2, rfl, r, r'⟩ := vals2 r1
  cases r
  cases r'
  obtain ⟨its, rv, p1⟩ := sqB_inv I1 qa
  obtain ⟨its2, rv2, p2⟩ := sqB_inv I1 qb
  refine zip_begins2 (beginsB t a its.toArray) (beginsB u b its2.toArray) p1 p2 fun g hz hI hO h1 h2 hsz hk => wpAny_pyIter_zip hz ?_
  have I2 : Inv X pins σ H1 { s1 with heap := g } := I1.kept (t' := s1.toks) hk
  refine ⟨s1.heap.objs.size + 4, [s1.heap.objs.size + 4, s1.heap.objs.size + 2, s1.heap.objs.size + 3, s1.heap.objs.size, s1.heap.objs.size + 1], _, _, H1, rfl, I2, turn_zipQ (sep2 s1.heap.objs.size a b p1.lt p2.lt), ⟨hz, hI, ⟨_, _, hO⟩, itB0 h1, itB0 h2⟩, fun c hcm => ?_, q⟩
  have le : s1.heap.objs.size ≤ c := by
    simp only [List.mem_cons, List.not_mem_nil, or_false] at hcm
    rcases hcm with rfl | rfl | rfl | rfl | rfl
    · exact Nat.le_add_right _ _
    · exact Nat.le_add_right _ _
    · exact Nat.le_add_right _ _
    · exact Nat.le_refl _
    · exact Nat.le_add_right _ _
  exact I1.fpOk le (I1.hok.fresh le)
theorem walk_zipQ {K : PySem.W.Frag} {t u : Bool} {a b : Addr} {xs ys : List V} (hl : xs.length = ys.length) : Walk (ItzQ K t u a b) xs.length (fun H => sqB t K H a xs ∧ sqB u K H b ys) (YPair (fun i => xs[i]?) (fun i => ys[i]?)) :=
  ⟨fun i H hi ⟨p, q⟩ => ⟨xs, ys, xs[i], ys[i]'(hl ▸ hi), p, q, List.getElem?_eq_getElem hi, List.getElem?_eq_getElem (hl ▸ hi)⟩, fun H ⟨p, q⟩ => ⟨xs, ys, p, q, Nat.le_refl _, by omega, .inl rfl⟩,
    fun i H x H' hi ⟨p, q⟩ ⟨T, x', y', e, hT, eH, f1, f2⟩ => ⟨T, x', y', e, hT, eH, f1 xs p, f2 ys q⟩⟩
/-! enumerate(text) -/
def ItES (x : Str) : It :=
  ⟨fun i _ => i < x.cps.size, fun i H v H' => ∃ T c, v = .ref T ∧ H T = none ∧ x.cps[i]? = some c ∧ H' = upd H T (.tup [.int (i : Nat), .str ⟨#[c]⟩]), fun i _ => i = x.cps.size⟩
theorem turn_enumS {P : Program} {w : World} {K : PySem.W.Frag} {elts : List Expr} {kk : Nat} {tpos : Pos} (x : Str) (tk0 : Tok) (e it : Addr) (hne : e ≠ it) :
    Turn P w K (.Tuple elts kk tpos) (ItES x) [e, it] e (fun i h => (∃ old, IsEnum h e it ((i : Nat) : Int) old) ∧ h.IsStrIter it (strIterType x) x tk0 i) where
  mem := by simp
  obj := fun i h st b hb => by
    obtain ⟨⟨old, he⟩, o, ho, hc, hd⟩ := st
    have two : b = e ∨ b = it := by simpa using hb
    rcases two with rfl | rfl
    · exact ⟨_, he, fun v q => nomatch q⟩
    · exact ⟨o, ho, fun v q => by rw [hd] at q; cases q⟩
  keep := fun i h h' st k => by
    obtain ⟨⟨old, he⟩, o, ho, hc, hd⟩ := st
    exact ⟨⟨old, k e (by simp) _ he⟩, o, k it (by simp) _ ho, hc, hd⟩
  item := by
    intro X eP ew eK hc i pins s σ H E I hf st hg
    subst eP ew eK
    obtain ⟨⟨old, he⟩, hit⟩ := st
    have el := Heap.lt_size he
    have il : it < s.heap.objs.size := by obtain ⟨_, q, _⟩ := hit; exact Heap.lt_size q
    refine wpAny_pyNext_enum_itemD (Draws.text (prog := X.prog) (w := X.w) (A := X.A.in1) (show X.A.in1.handled = none from I.ok.hd hc) it x tk0) he hit hg hne (by simp [hne]) fun v g tk m ho hit2 hT hsz hk => ?_
    obtain ⟨c, tk2, hx, rfl⟩ := m
    refine ⟨_, rfl, wpAny_letOwnedTupleGo_enum (s := { s with heap := g, toks := tk + 1 }) ho fun g2 he2 sb => ?_⟩
    have hT2 : g2.get? s.heap.objs.size = some { cls := .type "tuple", data := .seq #[.int i tk, .str ⟨#[c]⟩ tk2] } := (sb.2 _ (Nat.ne_of_gt el)).trans hT
    have hob : ObjOk X.prog X.w (upd H s.heap.objs.size (.tup [.int (i : Nat), .str ⟨#[c]⟩])) g2 s.heap.objs.size (.tup [.int (i : Nat), .str ⟨#[c]⟩]) :=
      ⟨by show 2 ≤ sizeLine; decide, [.int i tk, .str ⟨#[c]⟩ tk2], .cons ⟨_, rfl⟩ (.cons ⟨_, rfl⟩ .nil), _, hT2, rfl, _, rfl⟩
    have kk : ∀ b o, b ∉ [e, it] → s.heap.get? b = some o → g2.get? b = some o := fun b o hb q => by
      simp only [List.mem_cons, List.not_mem_nil, or_false, not_or] at hb
      exact (sb.2 b hb.1).trans (hk b o hb.1 hb.2 q)
    refine ⟨.ref s.heap.objs.size, _, I.turnedNew (t' := tk + 1) kk hf (Nat.le_refl _) hob, rfl, ⟨_, c, rfl, I.hok.fresh (Nat.le_refl _), hx, rfl⟩, ⟨⟨.str ⟨#[c]⟩ tk2, ?_⟩, ?_⟩, fun b hb => ?_⟩
    · have q : ((i + 1 : Nat) : Int) = (i : Int) + 1 := by omega
      rw [q]; exact he2
    · obtain ⟨o, q, r⟩ := hit2
      exact ⟨o, (sb.2 it (Ne.symm hne)).trans q, r⟩
    · have lt : b < s.heap.objs.size := by
        have two : b = e ∨ b = it := by simpa using hb
        rcases two with rfl | rfl
        · exact el
        · exact il
      rw [upd_ne (Nat.ne_of_lt lt)]
      exact (hf b hb).1
  done := by
    intro X eP ew eK hc i pins s σ H E I hf st hg
    subst eP ew eK
    obtain ⟨⟨old, he⟩, hit⟩ := st
    obtain rfl : i = x.cps.size := hg
    obtain ⟨c0, c1, c2, c3, c4, c5⟩ := hf it (by simp)
    exact wpAny_pyNext_enum_endD (Draws.text (prog := X.prog) (w := X.w) (A := X.A.in1) (show X.A.in1.handled = none from I.ok.hd hc) it x tk0) he hit fun g eb => ⟨rfl, I.turned (t' := s.toks) (fun b o hb q => eb b o hb q) c0 c1 c3 c4 c5⟩
  self := fun A i s Q E sg => let ⟨⟨_, he⟩, _⟩ := sg; wpAny_pyIter_enum he
def iEnumS (ta : TA) : TI := fun σ H R => ta σ H fun vs H1 => ∃ x, vs = [.str x] ∧ R (ItES x) H1
theorem pi_enumS {X : Cx} {e : Expr} {ta : TA} {p pos tpos : Pos} {elts : List Expr} {kk : Nat} (hg : Gl X "enumerate") (hm : X.mg "enumerate" = none) (ha : PA X [e] ta) (hs : starEach [e] X.env = [(false, eval e X.env)] := by rfl) :
    PI X (.Tuple elts kk tpos) (.Call (.Name "enumerate" p) [e] [] pos) (iEnumS ta) := by
  refine ⟨fun pins s σ H R I hh => ?_⟩
  refine Call_ (ld_blt I hg hm boot_enumerate (PyProof.Rows.callWith_type1 (thn (ha.run pos pins s σ H _ I hh) fun _ s1 ⟨_, H1, I1, r1, q1⟩ => ?_) hs rfl))
  obtain ⟨x, rfl, q⟩ := q1
  obtain ⟨v, rfl, tk0, rfl⟩ := vals1 r1
  refine call_enumerate_str fun g he hit hsz hk => wpAny_pyIter_enum he ?_
  have I2 : Inv X pins σ H1 { s1 with heap := g } := I1.kept (t' := s1.toks) hk
  refine ⟨s1.heap.objs.size + 1, [s1.heap.objs.size + 1, s1.heap.objs.size], _, _, H1, rfl, I2, turn_enumS x tk0 (s1.heap.objs.size + 1) s1.heap.objs.size (Nat.succ_ne_self _), ⟨⟨.none, he⟩, hit⟩, fun b hb => ?_, q⟩
  have le : s1.heap.objs.size ≤ b := by
    simp only [List.mem_cons, List.not_mem_nil, or_false] at hb
    rcases hb with rfl | rfl
    · exact Nat.le_add_right _ _
    · exact Nat.le_refl _
  exact I1.fpOk le (I1.hok.fresh le)
theorem walk_enumS {x : Str} : Walk (ItES x) x.cps.size (fun _ => True) (fun i H v H' => ∃ T c, v = .ref T ∧ H T = none ∧ x.cps[i]? = some c ∧ H' = upd H T (.tup [.int (i : Nat), .str ⟨#[c]⟩])) :=
  ⟨fun _ _ h _ => h, fun _ _ => rfl, fun _ _ _ _ _ _ y => y⟩
theorem pg_tupK {X : Cx} (K : PySem.W.Frag) (hK : X.K = K) {n : Nat} {es : List Expr} {k : Nat} {t : TGs} {pos : Pos} (hc : X.calm = true) (h : PGs X es t) (hn : (assignEach es X.env).length = n := by rfl)
    (hst : (assignEach es X.env).findIdx? (·.1) = none := by rfl) : PG X (.Tuple es k pos) (gTup K n t) := by subst hK; exact pg_tup hc h hn hst
theorem pe_lenSetIK {X : Cx} (K : PySem.W.Frag) (hK : X.K = K) {a : Expr} {ta : TE} {p p2 q pos : Pos} (hg : Gl X "len") (hm : X.mg "len" = none) (hg2 : Gl X "set") (hm2 : X.mg "set" = none) (ha : PE X a ta) (hc : X.calm = true := by rfl)
    (na : starEach [a] X.env = (false, eval a X.env) :: starEach [] X.env := by rfl) : PE X (.Call (.Name "len" p) [.Call (.Name "set" p2) [a] [] q] [] pos) (RZ.tLenSetI K ta) := by subst hK; exact RZ.pe_lenSetI hg hm hg2 hm2 ha hc na
section
variable {K : PySem.W.Frag} {σ : L2.St} {H : Hp} {Q : VK}
theorem rd_lenSet {ta : TE} (h : ta σ H fun x H1 => ∃ (l : Addr) (ns : List Int), x = .ref l ∧ SqL K H1 l (ns.map V.int) ∧ ns.Nodup ∧ ns.length ≤ 4000 ∧ Q (.int (ns.length : Nat)) H1) : RZ.tLenSetI K ta σ H Q := h
theorem rd_iZQ {t u : Bool} {tr : TA} {R : It → Hp → Prop} (h : tr σ H fun vs H1 => ∃ a b xs ys, vs = [.ref a, .ref b] ∧ sqB t K H1 a xs ∧ sqB u K H1 b ys ∧ R (ItzQ K t u a b) H1) : iZipQ K t u tr σ H R := h
theorem rd_iES {tr : TA} {R : It → Hp → Prop} (h : tr σ H fun vs H1 => ∃ x, vs = [.str x] ∧ R (ItES x) H1) : iEnumS tr σ H R := h
end
end JF

/-! ### runs: their text, read and shown -/
namespace JF
open PySem PySem.Spec PyProof.Rows L2
/-! #### texts as lists of signs -/
def tx (l : List Nat) : Str := ⟨l.toArray⟩
theorem tl_tx (l : List Nat) : TL.tl (tx l) = l := rfl
theorem str_tx {l : List Nat} {z : Str} (h : TL.tl z = l) : z = tx l := TL.ext_tl h
theorem tx_inj {l m : List Nat} (h : tx l = tx m) : l = m := by rw [← tl_tx l, ← tl_tx m, h]
theorem tx_eq {l m : List Nat} : decide (tx l = tx m) = decide (l = m) := by
  by_cases h : l = m
  · rw [h, decide_eq_true rfl, decide_eq_true rfl]
  · rw [decide_eq_false h, decide_eq_false fun e => h (tx_inj e)]
theorem tx_len (l : List Nat) : (tx l).length = l.length := by rw [TL.len_tl, tl_tx]
theorem tx_app (l m : List Nat) : tx l ++ tx m = tx (l ++ m) := str_tx (by rw [TL.tl_append, tl_tx, tl_tx])
theorem tx_num (n : Nat) : Str.ofString (toString (n : Int)) = tx (TL.numL n) := str_tx (TL.tl_num n)
theorem tx_nil : Str.ofString "" = tx [] := str_tx (by decide +kernel)
theorem tx_nought : Str.ofString "0" = tx [48] := str_tx (by decide +kernel)
theorem tx_one : Str.ofString "1" = tx [49] := str_tx (by decide +kernel)
theorem tx_A : Str.ofString "A" = tx [65] := str_tx (by decide +kernel)
theorem len_ok {l : List Nat} (h : l.length ≤ 16000000) : (tx l).length ≤ sizeLine := by
  have := sizeBig
  rw [tx_len]; omega
theorem joinL_nil : ∀ ws : List (List Nat), TL.joinL [] ws = ws.flatten
  | [] => rfl
  | [x] => by show x = _; simp
  | x :: y :: ws => by
    show x ++ ([] ++ TL.joinL [] (y :: ws)) = _
    rw [joinL_nil (y :: ws)]; rfl
theorem join_flat (ws : List (List Nat)) : Txt.join (Str.ofString "") (ws.map tx) = tx ws.flatten := str_tx (by
  rw [TL.join_eq, TL.tl_join, tx_nil, tl_tx, List.map_map]
  show TL.joinL [] (ws.map fun w => w) = _
  rw [List.map_id', joinL_nil])
theorem sum_lens : ∀ ws : List (List Nat), ((ws.map tx).map (·.length)).sum = ws.flatten.length
  | [] => rfl
  | w :: ws => by
    have ih := sum_lens ws
    rw [List.map_cons, List.map_cons, List.sum_cons, ih, List.flatten_cons, List.length_append]
    show (tx w).length + _ = _
    rw [tx_len]
/-! #### runs -/
abbrev Rn := Nat × Nat
def figsT (n : Nat) : List Nat := if n = 1 then [] else TL.numL n
def wordT (r : Rn) : List Nat := figsT r.1 ++ [r.2]
def textT (rs : List Rn) : List Nat := (rs.map wordT).flatten
def signs9 : List Nat := [46, 65, 66, 67, 68, 69, 70, 71, 47]
def RnW (r : Rn) : Prop := 1 ≤ r.1 ∧ r.2 ∈ signs9
theorem numL_head : ∀ (n : Nat), 1 ≤ n → ∃ c l, TL.numL n = c :: l ∧ c ≠ 48 := fun n => by
  induction n using Nat.strongRecOn with
  | ind n ih =>
    intro h
    by_cases z : n < 10
    · exact ⟨48 + n, [], TL.numL_lt z, by omega⟩
    · obtain ⟨c, l, e, hc⟩ := ih (n / 10) (by omega) (by omega)
      exact ⟨c, l ++ [48 + n % 10], by rw [TL.numL_step (by omega), e]; rfl, hc⟩
theorem numL_one : TL.numL 1 = [49] := TL.numL_lt (by decide)
theorem figs_digits (n : Nat) : ∀ c ∈ figsT n, 48 ≤ c ∧ c ≤ 57 := fun c hc => by
  unfold figsT at hc
  split at hc
  · simp at hc
  · exact TL.numL_digits n c hc
theorem figs_len {n : Nat} (h : n < 10 ^ 13) : (figsT n).length ≤ 13 := by
  unfold figsT
  split
  · simp
  · exact TL.numL_len (by decide) h
theorem word_len {r : Rn} {k : Nat} (hk : 0 < k) (h : r.1 < 10 ^ k) : (wordT r).length ≤ k + 1 := by
  unfold wordT figsT
  rw [List.length_append, List.length_singleton]
  split
  · simp
  · have := TL.numL_len hk h
    omega
theorem sign_no {c : Nat} (h : c ∈ signs9) : ¬ (48 ≤ c ∧ c ≤ 57) := by
  simp only [signs9, List.mem_cons, List.not_mem_nil, or_false] at h
  omega
theorem text_app (a b : List Rn) : textT (a ++ b) = textT a ++ textT b := by unfold textT; rw [List.map_append, List.flatten_append]
theorem text_one (r : Rn) : textT [r] = wordT r := by unfold textT; simp
theorem text_cons (r : Rn) (rs : List Rn) : textT (r :: rs) = wordT r ++ textT rs := by unfold textT; simp
/-- neighbouring runs of one sign put together; the last one first -/
def togS : List Rn → Rn → List Rn
  | [], r => [r]
  | (a, s) :: l, r => if s = r.2 then (a + r.1, s) :: l else r :: (a, s) :: l
def togR (rs : List Rn) : List Rn := rs.foldl togS []
def tog (rs : List Rn) : List Rn := (togR rs).reverse
/-! #### lists of runs in the heap -/
def RL (H : Hp) (ts : List Addr) (rs : List Rn) : Prop := ts.length = rs.length ∧ ∀ (i : Nat) t r, ts[i]? = some t → rs[i]? = some r → H t = some (.tup [.int (r.1 : Int), .str (tx [r.2])])
theorem RL.keep {H H' : Hp} {ts : List Addr} {rs : List Rn} (h : RL H ts rs) (k : Tup H H') : RL H' ts rs := ⟨h.1, fun i t r a b => k _ _ (h.2 i t r a b)⟩
theorem RL.nil {H : Hp} : RL H [] [] := ⟨rfl, fun i t r a => by simp at a⟩
theorem RL.app {H : Hp} {ts : List Addr} {rs : List Rn} {t : Addr} {r : Rn} (h : RL H ts rs) (ht : H t = some (.tup [.int (r.1 : Int), .str (tx [r.2])])) : RL H (ts ++ [t]) (rs ++ [r]) := by
  refine ⟨by rw [List.length_append, List.length_append, h.1]; rfl, fun i u q a b => ?_⟩
  rcases snoc_get h.1 a b with ⟨a, b⟩ | ⟨_, rfl, rfl⟩
  · exact h.2 i u q a b
  · exact ht
def RnL (H : Hp) (p : Addr) (rs : List Rn) : Prop := ∃ ts : List Addr, H p = some (.lst (ts.map V.ref)) ∧ RL H ts rs
theorem RnL.same {H H' : Hp} {p : Addr} {rs : List Rn} (h : RnL H p rs) (s : Same H H') : RnL H' p rs := by
  obtain ⟨ts, h1, h2⟩ := h
  exact ⟨ts, s _ _ h1, h2.keep (Tup.of s)⟩
theorem same_put {H H' : Hp} {p : Addr} {o : HO} (s : Same H H') (hp : H p = none) : Same H (upd H' p o) := fun b u e => by
  rw [upd_ne (ne_of_none e hp)]; exact s _ _ e
theorem tup_put {H : Hp} {p : Addr} {xs : List V} {o : HO} (h : H p = some (.lst xs)) : Tup H (upd H p o) := Tup.put h o
theorem text_len {rs : List Rn} {B : Nat} (h : ∀ r ∈ rs, (wordT r).length ≤ B) : (textT rs).length ≤ rs.length * B := by
  induction rs with
  | nil => exact Nat.zero_le _
  | cons r rs ih =>
    have h1 := ih fun x hx => h x (List.mem_cons_of_mem _ hx)
    have h2 := h r List.mem_cons_self
    rw [text_cons, List.length_append, List.length_cons, Nat.succ_mul]
    omega
theorem cut_mid (A u B : List Nat) : cutS (tx (A ++ (u ++ B))) (some ((A.length : Nat) : Int)) (some ((A.length + u.length : Nat) : Int)) = tx u := by
  refine str_tx ?_
  show ((A ++ (u ++ B)).drop (HT.sIx (tx (A ++ (u ++ B))).length 0 (some ((A.length : Nat) : Int)))).take (HT.sIx (tx (A ++ (u ++ B))).length (tx (A ++ (u ++ B))).length (some ((A.length + u.length : Nat) : Int)) - HT.sIx (tx (A ++ (u ++ B))).length 0 (some ((A.length : Nat) : Int))) = u
  rw [HT.sIx_nat, HT.sIx_nat, tx_len]
  have e1 : min A.length (A ++ (u ++ B)).length = A.length := by rw [List.length_append]; omega
  have e2 : min (A.length + u.length) (A ++ (u ++ B)).length = A.length + u.length := by rw [List.length_append, List.length_append]; omega
  rw [e1, e2, List.drop_left, Nat.add_sub_cancel_left, List.take_left]
theorem mid_get (A B : List Nat) (c : Nat) : (A ++ c :: B)[A.length]? = some c := by rw [List.getElem?_append_right (Nat.le_refl _), Nat.sub_self]; rfl
theorem in_figs {c : Nat} : decide (c ∈ (Str.ofString "0123456789").cps.toList) = decide (48 ≤ c ∧ c ≤ 57) := by
  have e : (Str.ofString "0123456789").cps.toList = [48, 49, 50, 51, 52, 53, 54, 55, 56, 57] := by decide +kernel
  rw [e]
  refine decide_eq_decide.mpr ?_
  simp only [List.mem_cons, List.not_mem_nil, or_false]
  omega
theorem in_signs {c : Nat} : decide (c ∈ (Str.ofString ".ABCDEFG/").cps.toList) = decide (c ∈ signs9) := by
  have e : (Str.ofString ".ABCDEFG/").cps.toList = signs9 := by decide +kernel
  rw [e]
section
variable {P : Program} {w : World} {K : PySem.W.Frag} {mg : Str → Option Value} {base : Heap}
def sp_amount : Sp := fun vs H Q _ => ∃ n : Nat, vs = [.str (tx (figsT n))] ∧ 1 ≤ n ∧ n < 10 ^ 13 ∧ Q (.int (n : Int)) H
theorem mp_amount : MonP sp_amount := fun vs H Q Q' E h ⟨n, x1, x2, x3, q⟩ => ⟨n, x1, x2, x3, h _ _ q⟩
def sp_read : Sp := fun vs H Q _ => ∃ rs : List Rn, vs = [.str (tx (textT rs))] ∧ (∀ r ∈ rs, RnW r ∧ r.1 < 10 ^ 13) ∧ rs.length ≤ 1000 ∧
  ∀ (p : Addr) (ts : List Addr) (H' : Hp), H p = none → Same H H' → H' p = some (.lst (ts.map V.ref)) → RL H' ts rs → Q (.ref p) H'
theorem mp_read : MonP sp_read := fun vs H Q Q' E h ⟨rs, x1, x2, x3, k⟩ => ⟨rs, x1, x2, x3, fun p ts H' a b c d => h _ _ (k p ts H' a b c d)⟩
def sp_srun : Sp := fun vs H Q _ => ∃ r : Rn, vs = [.int (r.1 : Int), .str (tx [r.2])] ∧ r.1 < 10 ^ 30 ∧ Q (.str (tx (wordT r))) H
theorem mp_srun : MonP sp_srun := fun vs H Q Q' E h ⟨r, x1, x2, q⟩ => ⟨r, x1, x2, h _ _ q⟩
theorem log30 {n : Nat} (h : n < 10 ^ 30) : ((n : Int).natAbs).log2 < 1920 := by
  rw [Int.natAbs_natCast]
  by_cases z : n = 0
  · subst z; decide
  · exact (Nat.log2_lt z).mpr (Nat.lt_trans h (by decide +kernel))
theorem tog_step (rs : List Rn) (i : Nat) (r : Rn) (h : rs[i]? = some r) : togR (rs.take (i + 1)) = togS (togR (rs.take i)) r := by
  unfold togR
  rw [List.take_succ, h, List.foldl_append]; rfl
def TogOk (B : Nat) (R : List Rn) : Prop := ∀ r ∈ R, RnW r ∧ r.1 ≤ B
theorem togS_eq {a s : Nat} {l : List Rn} {r : Rn} (h : s = r.2) : togS ((a, s) :: l) r = (a + r.1, s) :: l := if_pos h
theorem togS_ne {a s : Nat} {l : List Rn} {r : Rn} (h : ¬ s = r.2) : togS ((a, s) :: l) r = r :: (a, s) :: l := if_neg h
theorem TogOk.step {B : Nat} {R : List Rn} {r : Rn} (h : TogOk B R) (hr : RnW r) (hb : r.1 ≤ 10 ^ 13) : TogOk (B + 10 ^ 13) (togS R r) := by
  cases R with
  | nil =>
    intro q hq
    have e : q = r := List.mem_singleton.mp hq
    subst e
    exact ⟨hr, by omega⟩
  | cons x l =>
    obtain ⟨a, s⟩ := x
    have hx := h (a, s) List.mem_cons_self
    obtain ⟨⟨x1, x2⟩, x3⟩ := hx
    simp only at x1 x2 x3
    have hl : ∀ q ∈ l, RnW q ∧ q.1 ≤ B + 10 ^ 13 := fun q hq => ⟨(h q (List.mem_cons_of_mem _ hq)).1, by have := (h q (List.mem_cons_of_mem _ hq)).2; omega⟩
    by_cases z : s = r.2
    · rw [togS_eq z]
      intro q hq
      rcases List.mem_cons.mp hq with e | hq
      · rw [e]
        exact ⟨⟨by show 1 ≤ a + r.1; omega, x2⟩, by show a + r.1 ≤ _; omega⟩
      · exact hl q hq
    · rw [togS_ne z]
      intro q hq
      rcases List.mem_cons.mp hq with e | hq
      · rw [e]; exact ⟨hr, by omega⟩
      · rcases List.mem_cons.mp hq with e | hq
        · rw [e]; exact ⟨⟨x1, x2⟩, by show a ≤ _; omega⟩
        · exact hl q hq
theorem togS_len (R : List Rn) (r : Rn) : (togS R r).length ≤ R.length + 1 := by
  cases R with
  | nil => exact Nat.le_refl _
  | cons x l =>
    obtain ⟨a, s⟩ := x
    by_cases z : s = r.2
    · rw [togS_eq z]; simp
    · rw [togS_ne z]; simp
def amtR (R : List Rn) : Nat := (R.head?.map (·.1)).getD 0
def sgnR (R : List Rn) : List Nat := (R.head?.map fun r => [r.2]).getD []
theorem rd_aug {D : Ends} {σ : L2.St} {H : Hp} {i : Nat} {te : TE} {ti : TIp} {v : V} (h1 : σ[i]? = some (some v)) (h : te σ H fun y H1 => ti v y H1 fun z H2 => D.nx (σ.set i (some z)) H2) : tAug i te ti D σ H := ⟨v, h1, h⟩
theorem rd_m1 {σ : L2.St} {H : Hp} {Q : VK} {r : V → List V → Hp → VK → Prop} {ta tb : TE} (h : ta σ H fun x H1 => (∃ a, x = .str a) ∧ tb σ H1 fun y H2 => r x [y] H2 Q) : tM1 r ta tb σ H Q := h
theorem rd_st {z : Str} {R : Prop} (h : R) : (∃ a, V.str z = .str a) ∧ R := ⟨⟨z, rfl⟩, h⟩
def sp_shown : Sp := fun vs H Q _ => ∃ (p : Addr) (rs : List Rn), vs = [.ref p] ∧ RnL H p rs ∧ (∀ r ∈ rs, RnW r ∧ r.1 < 10 ^ 13) ∧ rs.length ≤ 1000 ∧ ∀ H', Same H H' → Q (.str (tx (textT (tog rs)))) H'
theorem mp_shown : MonP sp_shown := fun vs H Q Q' E h ⟨p, rs, x1, x2, x3, x4, k⟩ => ⟨p, rs, x1, x2, x3, x4, fun H' a => h _ _ (k H' a)⟩
end
end JF

/-! ### the asker's own list of squares: ids and rows -/
namespace JF
open PySem PySem.Spec PyProof.Rows L2
/-- what the rows tell: of each square its level, what it is made of, how many live -/
structure OwD (H : Hp) (mk : List (List Int)) (rs : List Addr) (sq : List Sq) : Prop where
  lm : mk.length = sq.length
  lr : rs.length = sq.length
  row : ∀ (i : Nat) r m S, rs[i]? = some r → mk[i]? = some m → sq[i]? = some S → ∃ t, H r = some (.tup [.int (S.level : Int), .ref t, .int S.lives]) ∧ H t = some (.tup (m.map V.int))
  md : ∀ (i : Nat) m S, mk[i]? = some m → sq[i]? = some S → Made sq S m
  wf : ∀ S ∈ sq, S.wf
  nd : sq.Nodup
theorem OwD.keep {H H' : Hp} {mk : List (List Int)} {rs : List Addr} {sq : List Sq} (h : OwD H mk rs sq) (k : Tup H H') : OwD H' mk rs sq :=
  ⟨h.lm, h.lr, fun i r m S a b c => let ⟨t, h1, h2⟩ := h.row i r m S a b c; ⟨t, k _ _ h1, k _ _ h2⟩, h.md, h.wf, h.nd⟩
theorem OwD.nil {H : Hp} : OwD H [] [] [] := ⟨rfl, rfl, fun i r m S a => by simp at a, fun i m S a => by simp at a, fun S h => by simp at h, List.nodup_nil⟩
theorem OwD.add {H : Hp} {mk : List (List Int)} {rs : List Addr} {sq : List Sq} (h : OwD H mk rs sq) {S : Sq} {m : List Int} {r t : Addr} (hm : Made sq S m) (hw : S.wf) (hS : S ∉ sq) (h1 : H r = some (.tup [.int (S.level : Int), .ref t, .int S.lives])) (h2 : H t = some (.tup (m.map V.int))) : OwD H (mk ++ [m]) (rs ++ [r]) (sq ++ [S]) := by
  refine ⟨by simp [h.lm], by simp [h.lr], fun i r' m' S' a b c => ?_, fun i m' S' b c => ?_, fun S' hS' => ?_, ?_⟩
  · rcases snoc_get (by rw [h.lm]) b c with ⟨b, c⟩ | ⟨hi, rfl, rfl⟩
    · rcases snoc_get (by rw [h.lr, h.lm]) a (l' := mk) (y := m) (v := m') (by rw [List.getElem?_append_left (List.getElem?_eq_some_iff.mp b).1]; exact b) with ⟨a, _⟩ | ⟨hi, _, _⟩
      · exact h.row i r' m' S' a b c
      · have := (List.getElem?_eq_some_iff.mp b).1
        rw [hi, h.lr, h.lm] at this; omega
    · have e : i = rs.length := by rw [hi, h.lm, h.lr]
      rw [e, List.getElem?_append_right (Nat.le_refl _), Nat.sub_self] at a
      cases a
      exact ⟨t, h1, h2⟩
  · rcases snoc_get (by rw [h.lm]) b c with ⟨b, c⟩ | ⟨_, rfl, rfl⟩
    · exact (h.md i m' S' b c).app _
    · exact hm.app _
  · rcases List.mem_append.mp hS' with z | z
    · exact h.wf S' z
    · rw [List.mem_singleton] at z; subst z; exact hw
  · rw [List.nodup_append]
    refine ⟨h.nd, by simp, fun x hx y hy e => ?_⟩
    rw [List.mem_singleton] at hy
    subst hy e
    exact hS hx
/-- the row of a square -/
theorem OwD.get {H : Hp} {mk : List (List Int)} {rs : List Addr} {sq : List Sq} (h : OwD H mk rs sq) {n : Nat} {S : Sq} (e : sq[n]? = some S) : ∃ r m t, rs[n]? = some r ∧ mk[n]? = some m ∧ H r = some (.tup [.int (S.level : Int), .ref t, .int S.lives]) ∧ H t = some (.tup (m.map V.int)) ∧ Made sq S m := by
  have hn := (List.getElem?_eq_some_iff.mp e).1
  have h1 := at_get (l := rs) (by rw [h.lr]; exact hn)
  have h2 := at_get (l := mk) (by rw [h.lm]; exact hn)
  obtain ⟨t, a, b⟩ := h.row n _ _ S h1 h2 e
  exact ⟨_, _, t, h1, h2, a, b, h.md n _ S h2 e⟩
theorem rd_dnotin {σ : L2.St} {H : Hp} {Q : VK} {td ty : TE} (h : ty σ H fun y H1 => td σ H1 fun x H2 => ∃ a o, x = .ref a ∧ DGet H2 a y o ∧ Q (.bl (!o.isSome)) H2) : tDNotIn ty td σ H Q := h
theorem mc_sum {K : PySem.W.Frag} : MonC (rSum K) := fun x H Q Q' h ⟨a, ns, e1, e2, q⟩ => ⟨a, ns, e1, e2, h _ _ q⟩
theorem Fr.tup {S : List Addr} {H H' : Hp} (f : Fr S H H') (h : ∀ b ∈ S, ∀ ys, H b ≠ some (.tup ys)) : Tup H H' := fun b ys e => f b _ e fun z => h b z ys e
section
variable {P : Program} {w : World} {K : PySem.W.Frag} {mg : Str → Option Value} {base : Heap}
def sp_own : Sp := fun vs H Q _ => ∃ (di ro p : Addr) (mk : List (List Int)) (rs : List Addr) (sq : List Sq) (S : Sq) (m : List Int), vs = [.ref di, .ref ro, .int (S.level : Int), .ref p] ∧ H di = some (.dT (kvsOf mk 0)) ∧ H ro = some (.lst (rs.map V.ref)) ∧ OwD H mk rs sq ∧
  H p = some (.tup (m.map V.int)) ∧ Made sq S m ∧ S.wf ∧ sq.length < 1000000 ∧ ∀ H' mk' rs' sq' (n : Nat), H' di = some (.dT (kvsOf mk' 0)) → H' ro = some (.lst (rs'.map V.ref)) → OwD H' mk' rs' sq' → sq <+: sq' → sq'.length ≤ sq.length + 1 → sq'[n]? = some S → Fr [di, ro] H H' → Q (.int (n : Int)) H'
theorem mp_own : MonP sp_own := fun vs H Q Q' E h ⟨di, ro, p, mk, rs, sq, S, m, x1, x2, x3, x4, x5, x6, x7, x8, k⟩ => ⟨di, ro, p, mk, rs, sq, S, m, x1, x2, x3, x4, x5, x6, x7, x8, fun H' a b c n d e f g i j l => h _ _ (k H' a b c n d e f g i j l)⟩
set_option maxHeartbeats 16000000 in
theorem ok_own (T : Env fa fn K mg) : Good P w K mg base CX0 1 ("_law_own", none) ["_law_ids", "_law_rows", "_law_level", "_law_parts"] sp_own := by
  refine good_mk T 21 (d := d_w_own) (N := ["_law_ids", "_law_rows", "_law_level", "_law_parts", "_law_lives", "_law_one"]) (ps := ["_law_ids", "_law_rows", "_law_level", "_law_parts"]) rfl rfl sc_w_own (fun _ _ _ _ _ _ us hl => match us, hl with | [_, _, _, _], _ => rfl) (fun vs H Q E h => ?_) (fun f cdv A outer s H vs Q E hr h => ?_)
  · obtain ⟨di, ro, p, mk, rs, sq, S, m, rfl, _⟩ := h; rfl
  · obtain ⟨di, ro, p, mk, rs, sq, S, m, rfl, hdi, hro, D, hp, hm, hw, hlen, k⟩ := h
    have hu := hu_of hr
    have hsz := sizeBig
    have hp' : H p = some (.tup ((m.map (Sum.inl : Int → Key)).map kV)) := by rw [inl_kV]; exact hp
    obtain ⟨L1, L2⟩ := look_of D.nd D.lm D.md hm
    refine ⟨_, (pss_cons (ps_if (pt_cmp (pc_dnotin hu (pv 3) (pv 0))) (pss_cons (ps_set (i := 4) sc_w_own.nd rfl (Or.inl rfl) pe_int)
      (pss_cons (ps_if (PW.pt (pw_and (pt_cmpR op_eq (pv 2) pe_int (nomark _)) (pw_and1 (pt_cmpR op_gt (pe_ix (ix_tupK K rfl) (pv 3) pe_int (fun _ _ => rfl)) pe_int (nomark _))))) (pss_one (ps_set (i := 4) sc_w_own.nd rfl (Or.inl rfl) pe_int)) pss_nil)
      (pss_cons (ps_if (pt_cmpR op_gt (pv 2) pe_int (nomark _)) (pss_one (ps_set (i := 4) sc_w_own.nd rfl (Or.inl rfl) (pe_callB (cr_sumK K rfl rfl) (by rfl) (T.free 19) (by decide +kernel) (pa_cons (pe_lc (own := [("_law_one", 5)]) (tt := tYes) rfl sc_w_own.nd (pi_tupK K rfl (pv 3)) (blkOk_by (own := [("_law_one", 5)]) (N := ["_law_ids", "_law_rows", "_law_level", "_law_parts", "_law_lives", "_law_one"]) (sc := defScope st_w_own) (by decide +kernel)) (fun _ _ _ _ _ => by exact (pg_name (i := 5) sc_w_own.nd rfl (Or.inl rfl))) (fun _ _ _ _ _ => by exact pts_nil) (fun _ _ _ _ _ => by exact (pe_ix (ix_tupK K rfl) (pe_ix (ix_listK K rfl) (pv 1) (pv 5) (fun _ _ => rfl)) pe_int (fun _ _ => rfl)))) pa_nil)))) pss_nil)
      (pss_cons (ps_dput hu (pv 0) (pv 3) (pe_callB (call_lenK K rfl) (by rfl) (T.free 8) (by decide +kernel) (pa_cons (pv 1) pa_nil)) rfl)
      (pss_one (ps_expr (pe_bm PySem.F.plainAttrs_list PySem.F.slot_list_append PySem.F.type_list_append mt_append (pv 1) (pa_cons (pe_tup (pa_cons (pv 2) (pa_cons (pv 3) (pa_cons (pv 4) pa_nil)))) pa_nil)))))))) pss_nil)
      (pss_one (ps_ret (pe_dget hu (pv 0) (pv 3) (fun _ _ => rfl))))), ?_⟩
    walk_at "rd"
    refine rd_dnotin ?_
    walk_at "rd"
    refine ⟨di, _, rfl, DGet.t (k := m.map Sum.inl) hdi hp', ?_⟩
    rw [valV_kvsOf]
    cases e : lookI mk m 0 with
    | some n =>
      walk_at "rd"
      refine iteF ?_
      walk_at "rd"
      refine ⟨di, .int (n : Int), rfl, ?_, ?_⟩
      · have z := DGet.t (k := m.map Sum.inl) hdi hp'
        rw [valV_kvsOf, e] at z
        exact z
      · exact k _ mk rs sq n hdi hro D (List.prefix_refl _) (by omega) (L1 n e) (Fr.refl _ _)
    | none =>
      have hS := L2 e
      walk_at "rd"
      refine iteT ?_
      walk_at "rhi"
      refine rd_cut (fun σ H' => H' = H ∧ σ = [some (.ref di), some (.ref ro), some (.int (S.level : Int)), some (.ref p), some (.int (if S.level = 0 then S.lives else 0)), none]) (by walk_at "mono") ?_ ?_
      · walk_at "rd"
        cases S with
        | leaf s0 =>
          have em : m = [s0] := hm
          subst em
          have hp1 : H p = some (.tup [V.int s0]) := hp
          obtain ⟨w0, w7⟩ := hw
          rw [decide_eq_true (show (((Sq.leaf s0).level : Nat) : Int) = 0 from rfl)]
          walk_at "rd"
          refine ite_d (fun z => ?_) (fun z => ?_)
          · walk_at "rd"
            refine ⟨rfl, ?_⟩
            have el : (if (Sq.leaf s0).level = 0 then (Sq.leaf s0).lives else 0) = 1 := by
              rw [if_pos (show (Sq.leaf s0).level = 0 from rfl)]; unfold Sq.lives; rw [if_neg (by omega)]
            rw [el]; rfl
          · walk_at "rd"
            refine ⟨rfl, ?_⟩
            have el : (if (Sq.leaf s0).level = 0 then (Sq.leaf s0).lives else 0) = 0 := by
              rw [if_pos (show (Sq.leaf s0).level = 0 from rfl)]; unfold Sq.lives; rw [if_pos (by omega)]
            rw [el]; rfl
        | node A B C' D' =>
          rw [decide_eq_false (show ¬ (((Sq.node A B C' D').level : Nat) : Int) = 0 by show ¬ (((A.level + 1 : Nat)) : Int) = 0; omega)]
          walk_at "rd"
          refine ⟨rfl, ?_⟩
          have el : (if (Sq.node A B C' D').level = 0 then (Sq.node A B C' D').lives else 0) = 0 := if_neg (Nat.succ_ne_zero _)
          rw [el]; rfl
      rintro σ H1 ⟨rfl, rfl⟩
      walk_at "rhi"
      refine rd_cut (fun σ H' => Same H1 H' ∧ σ = [some (.ref di), some (.ref ro), some (.int (S.level : Int)), some (.ref p), some (.int S.lives), none]) (by
        have := @mc_sum K
        walk_at "mono") ?_ ?_
      · walk_at "rd"
        cases S with
        | leaf s0 =>
          refine iteF ?_
          walk_at "rd"
          exact ⟨Same.refl _, rfl⟩
        | node A B C' D' =>
          rw [decide_eq_true (show (((Sq.node A B C' D').level : Nat) : Int) > 0 by show (((A.level + 1 : Nat)) : Int) > 0; omega)]
          obtain ⟨na, nb, nc, nd, rfl, ea, eb, ec, ed⟩ := hm
          walk_at "rd"
          refine ⟨p, rfl, ⟨_, SqT.of hp⟩, fun Da hD => ?_⟩
          have quad : ∀ (i : Nat) x, ([(na : Int), (nb : Int), (nc : Int), (nd : Int)].map V.int)[i]? = some x → ∃ (n : Nat) (U : Sq), x = .int (n : Int) ∧ sq[n]? = some U ∧ [A.lives, B.lives, C'.lives, D'.lives][i]? = some U.lives := fun i x hx => by
            match i, hx with
            | 0, hx => cases hx; exact ⟨na, A, rfl, ea, rfl⟩
            | 1, hx => cases hx; exact ⟨nb, B, rfl, eb, rfl⟩
            | 2, hx => cases hx; exact ⟨nc, C', rfl, ec, rfl⟩
            | 3, hx => cases hx; exact ⟨nd, D', rfl, ed, rfl⟩
          refine lc_it (walk_tup (K := K) (a := p) (xs := [(na : Int), (nb : Int), (nc : Int), (nd : Int)].map V.int)) (fun i H' => Same H1 H' ∧ H' Da = some (.lst (([A.lives, B.lives, C'.lives, D'.lives].take i).map V.int))) ⟨same_upd hD, upd_same⟩ (fun i H' _ h => SqT.of (h.1 _ _ hp)) ?_ ?_
          · rintro i x H2 H3 hi ⟨s2, LD⟩ ⟨rfl, hx⟩
            obtain ⟨n, U, rfl, hU, hl⟩ := quad i x hx
            obtain ⟨r, m', t, hr1, hm1, h1, h2, _⟩ := D.get hU
            have h1' := s2 _ _ h1
            walk_at "rd"
            refine ⟨rfl, ?_⟩
            walk_at "rd"
            refine rd_ixL (SqL.of (s2 _ _ hro)) (atI_nat (map_get V.ref hr1)) ?_
            walk_at "rd"
            refine ⟨_, LD, by have : ([(na : Int), (nb : Int), (nc : Int), (nd : Int)].map V.int).length = 4 := rfl
                              rw [List.length_map, List.length_take]; omega, same_put s2 hD, ?_⟩
            rw [upd_same, take_snoc hl, List.map_append]; rfl
          · rintro H3 ⟨s3, LD⟩
            walk_at "rd"
            refine ⟨Da, [A.lives, B.lives, C'.lives, D'.lives], rfl, SqL.of LD, ?_⟩
            walk_at "rd"
            refine ⟨s3, ?_⟩
            have el : (Sq.node A B C' D').lives = [A.lives, B.lives, C'.lives, D'.lives].sum := by
              show A.lives + B.lives + C'.lives + D'.lives = A.lives + (B.lives + (C'.lives + (D'.lives + 0)))
              omega
            rw [el]; rfl
      rintro σ H2 ⟨s2, rfl⟩
      have hdi2 := s2 _ _ hdi
      have hro2 := s2 _ _ hro
      have hp2 := s2 _ _ hp
      have hp2' : H2 p = some (.tup ((m.map (Sum.inl : Int → Key)).map kV)) := s2 _ _ hp'
      have D2 := D.keep (Tup.of s2)
      have hne : ro ≠ di := ne_of hro2 hdi2 (fun x => nomatch x)
      walk_at "rd"
      refine rd_len (SqL.of hro2) ?_
      walk_at "rd"
      refine ⟨di, _, rfl, DPut.t (k := m.map Sum.inl) hdi2 hp2' (by rw [kvsOf_len, D.lm]; omega), ?_⟩
      have hnone : valV (kvsOf mk 0) (m.map Sum.inl) = none := by rw [valV_kvsOf, e]; rfl
      rw [putK_new _ hnone]
      have e1 : kvsOf mk 0 ++ [(m.map Sum.inl, V.int (((rs.map V.ref).length : Nat) : Int))] = kvsOf (mk ++ [m]) 0 := by
        rw [kvsOf_app, Nat.zero_add, D.lm, List.length_map, D.lr]
      rw [e1]
      have t3 : Tup H2 (upd H2 di (.dT (kvsOf (mk ++ [m]) 0))) := fun b ys eb => by rw [upd_ne (by rintro rfl; rw [hdi2] at eb; cases eb)]; exact eb
      have hro3 : (upd H2 di (.dT (kvsOf (mk ++ [m]) 0))) ro = some (.lst (rs.map V.ref)) := by rw [upd_ne hne]; exact hro2
      have hdi3 : (upd H2 di (.dT (kvsOf (mk ++ [m]) 0))) di = some (.dT (kvsOf (mk ++ [m]) 0)) := upd_same
      have f3 : Fr [di, ro] H1 (upd H2 di (.dT (kvsOf (mk ++ [m]) 0))) := fun b o eb hb => by rw [upd_ne (fun z => hb (by simp [z]))]; exact s2 _ _ eb
      have D3 := D2.keep t3
      have hp3 := t3 _ _ hp2
      generalize upd H2 di (.dT (kvsOf (mk ++ [m]) 0)) = H3 at t3 hro3 hdi3 f3 D3 hp3 ⊢
      walk_at "rd"
      refine rd_tyL hro3 ?_
      walk_at "rd"
      refine rd_new (hn := by show 3 ≤ sizeLine; decide) fun t ht => ?_
      have s4 := same_upd (o := HO.tup [V.int (S.level : Int), V.ref p, V.int S.lives]) ht
      have hro4 := s4 _ _ hro3
      have hdi4 := s4 _ _ hdi3
      have hp4 := s4 _ _ hp3
      have hT : (upd H3 t (HO.tup [V.int (S.level : Int), V.ref p, V.int S.lives])) t = some (.tup [V.int (S.level : Int), V.ref p, V.int S.lives]) := upd_same
      have D4 := (D3.keep (Tup.of s4)).add hm hw hS hT hp4
      have f4 : Fr [di, ro] H1 _ := f3.trans (fr_of s4)
      generalize upd H3 t (HO.tup [V.int (S.level : Int), V.ref p, V.int S.lives]) = H4 at hro4 hdi4 hp4 D4 f4 ⊢
      walk_at "rd"
      refine rd_append hro4 (by rw [List.length_map, D.lr]; omega) ?_
      have t5 := tup_put (o := .lst (rs.map V.ref ++ [V.ref t])) hro4
      have hdi5 : (upd H4 ro (.lst (rs.map V.ref ++ [V.ref t]))) di = _ := (upd_ne hne.symm).trans hdi4
      have D5 := D4.keep t5
      have hp5 := t5 _ _ hp4
      have hp5' : (upd H4 ro (.lst (rs.map V.ref ++ [V.ref t]))) p = some (.tup ((m.map (Sum.inl : Int → Key)).map kV)) := by rw [inl_kV]; exact hp5
      have f5 : Fr [di, ro] H1 (upd H4 ro (.lst (rs.map V.ref ++ [V.ref t]))) := f4.trans fun b o eb hb => by rw [upd_ne (fun z => hb (by simp [z]))]; exact eb
      have hro5 : (upd H4 ro (.lst (rs.map V.ref ++ [V.ref t]))) ro = some (.lst ((rs ++ [t]).map V.ref)) := by rw [upd_same, List.map_append]; rfl
      generalize upd H4 ro (.lst (rs.map V.ref ++ [V.ref t])) = H5 at hdi5 D5 hp5' f5 hro5 ⊢
      walk_at "rd"
      have hv : valV (kvsOf (mk ++ [m]) 0) (m.map Sum.inl) = some (.int ((sq.length : Nat) : Int)) := by
        obtain ⟨M1, M2⟩ := look_of D5.nd D5.lm D5.md (S := S) (m := m) (hm.app _)
        rw [valV_kvsOf]
        cases e2 : lookI (mk ++ [m]) m 0 with
        | none => exact absurd (List.mem_append_right _ List.mem_cons_self) (M2 e2)
        | some n =>
          have en : n = sq.length := nodup_at D5.nd (M1 n e2) (by rw [List.getElem?_append_right (Nat.le_refl _), Nat.sub_self]; rfl)
          rw [en]; rfl
      refine ⟨di, .int ((sq.length : Nat) : Int), rfl, ?_, ?_⟩
      · rw [← hv]; exact DGet.t (k := m.map Sum.inl) hdi5 hp5'
      · exact k _ _ _ _ sq.length hdi5 hro5 D5 (List.prefix_append _ _) (by simp) (by rw [List.getElem?_append_right (Nat.le_refl _), Nat.sub_self]; rfl) f5
def sp_evenO : Sp := fun vs H Q _ => ∃ (di ro : Addr) (mk : List (List Int)) (rs : List Addr) (sq : List Sq) (l : Nat) (st : Int), vs = [.ref di, .ref ro, .int (l : Int), .int st] ∧ H di = some (.dT (kvsOf mk 0)) ∧ H ro = some (.lst (rs.map V.ref)) ∧ OwD H mk rs sq ∧ l ≤ 48 ∧ 0 ≤ st ∧ st ≤ 7 ∧ sq.length < 900000 ∧
  ∀ H' mk' rs' sq' (n : Nat), H' di = some (.dT (kvsOf mk' 0)) → H' ro = some (.lst (rs'.map V.ref)) → OwD H' mk' rs' sq' → sq <+: sq' → sq'.length ≤ sq.length + (l + 1) → sq'[n]? = some (Sq.even l st) → Fr [di, ro] H H' → Q (.int (n : Int)) H'
theorem mp_evenO : MonP sp_evenO := fun vs H Q Q' E h ⟨di, ro, mk, rs, sq, l, st, x1, x2, x3, x4, x5, x6, x7, x8, k⟩ => ⟨di, ro, mk, rs, sq, l, st, x1, x2, x3, x4, x5, x6, x7, x8, fun H' a b c n d e f g i j m => h _ _ (k H' a b c n d e f g i j m)⟩
theorem ok_evenO (T : Env fa fn K mg) : Good P w K mg base CX0 2 ("_law_even", none) ["_law_ids", "_law_rows", "_law_level", "_law_state"] sp_evenO := by
  have G_w_own := ok_own (P := P) (w := w) (base := base) T
  refine good_mk T 22 (d := d_w_even) (N := ["_law_ids", "_law_rows", "_law_level", "_law_state", "_law_own_here", "_law_k"]) (ps := ["_law_ids", "_law_rows", "_law_level", "_law_state"]) rfl rfl sc_w_even (fun _ _ _ _ _ _ us hl => match us, hl with | [_, _, _, _], _ => rfl) (fun vs H Q E h => ?_) (fun f cdv A outer s H vs Q E hr h => ?_)
  · obtain ⟨di, ro, mk, rs, sq, l, st, rfl, _⟩ := h; rfl
  · obtain ⟨di, ro, mk, rs, sq, l, st, rfl, hdi, hro, D, hl, h0, h7, hlen, k⟩ := h
    refine ⟨_, (pss_cons (ps_set (i := 4) sc_w_even.nd rfl (Or.inl rfl) (pe_cgK K rfl G_w_own (hr.mono (by decide)) (T.glo 20) (pa_cons (pv 0) (pa_cons (pv 1) (pa_cons pe_int (pa_cons (pe_tup (pa_cons (pv 3) pa_nil)) pa_nil))))))
      (pss_cons (ps_for PassesOwn.never rfl (pi_range1 (by rfl) (T.free 21) (pa_cons (pv 2) pa_nil)) (pg_name (i := 5) sc_w_even.nd rfl (Or.inl rfl)) (pss_one (ps_set (i := 4) sc_w_even.nd rfl (Or.inl rfl) (pe_cgK K rfl G_w_own (hr.mono (by decide)) (T.glo 20) (pa_cons (pv 0) (pa_cons (pv 1) (pa_cons (pe_op op_add (pv 5) pe_int) (pa_cons (pe_tup (pa_cons (pv 4) (pa_cons (pv 4) (pa_cons (pv 4) (pa_cons (pv 4) pa_nil))))) pa_nil))))))))
      (pss_one (ps_ret (pv 4))))), ?_⟩
    walk_at "rd"
    refine rd_new (hn := by show 1 ≤ sizeLine; decide) fun p hp => ?_
    have s1 := same_upd (o := HO.tup [V.int st]) hp
    refine ⟨di, ro, p, mk, rs, sq, .leaf st, [st], rfl, s1 _ _ hdi, s1 _ _ hro, D.keep (Tup.of s1), upd_same, rfl, ⟨h0, h7⟩, by omega, fun H2 mk2 rs2 sq2 n2 hdi2 hro2 D2 p2 l2 e2 f2 => ?_⟩
    have f2' : Fr [di, ro] H H2 := (fr_of s1).trans f2
    walk_at "rd"
    refine ⟨_, rfl, by omega, by omega, ?_⟩
    rw [Int.toNat_natCast]
    refine for_it (walk_r0 (n := l)) (fun i σ H' => ∃ (mk' : List (List Int)) (rs' : List Addr) (sq' : List Sq) (n : Nat) (x5 : Option V), σ = [some (.ref di), some (.ref ro), some (.int (l : Int)), some (.int st), some (.int (n : Int)), x5] ∧ H' di = some (.dT (kvsOf mk' 0)) ∧ H' ro = some (.lst (rs'.map V.ref)) ∧ OwD H' mk' rs' sq' ∧
      sq <+: sq' ∧ sq'.length ≤ sq.length + (i + 1) ∧ sq'[n]? = some (Sq.even i st) ∧ Fr [di, ro] H H') ⟨mk2, rs2, sq2, n2, none, rfl, hdi2, hro2, D2, p2, l2, e2, f2'⟩ (fun _ _ _ _ _ => trivial) ?_ ?_
    · rintro i x σ Ha Hb hi ⟨mk', rs', sq', n, x5, rfl, hdi', hro', D', p', l', e', f'⟩ ⟨rfl, rfl⟩
      walk_at "rd"
      refine rd_new (hn := by show 4 ≤ sizeLine; decide) fun t ht => ?_
      have s3 := same_upd (o := HO.tup [V.int (n : Int), V.int (n : Int), V.int (n : Int), V.int (n : Int)]) ht
      have el : ((i : Nat) : Int) + 1 = (((Sq.even (i + 1) st).level : Nat) : Int) := by rw [Sq.level_even]; omega
      walk_at "rd"
      rw [el]
      refine ⟨di, ro, t, mk', rs', sq', Sq.even (i + 1) st, [(n : Int), (n : Int), (n : Int), (n : Int)], rfl, s3 _ _ hdi', s3 _ _ hro', D'.keep (Tup.of s3), upd_same, ⟨n, n, n, n, rfl, e', e', e', e'⟩, Sq.wf_even h0 h7 _, by omega, fun H4 mk4 rs4 sq4 n4 hdi4 hro4 D4 p4 l4 e4 f4 => ?_⟩
      walk_at "rd"
      exact ⟨mk4, rs4, sq4, n4, _, rfl, hdi4, hro4, D4, p'.trans p4, by omega, e4, f'.trans ((fr_of s3).trans f4)⟩
    · rintro σ H' ⟨mk', rs', sq', n, x5, rfl, hdi', hro', D', p', l', e', f'⟩
      walk_at "rd"
      exact k _ _ _ _ n hdi' hro' D' p' l' e' f'
end
end JF

/-! ### helpers of the laws: _law_same -/
namespace JF
open PySem PySem.Spec PyProof.Rows L2
section
variable {P : Program} {w : World} {K : PySem.W.Frag} {mg : Str → Option Value} {base : Heap}
theorem ok_same (T : Env fa fn K mg) : Good P w K mg base CX0 1 ("_law_same", none) ["_law_found", "_law_due"] sp_same := by
  refine good_mk T 19 (d := d_w_same) (N := ["_law_found", "_law_due"]) (ps := ["_law_found", "_law_due"]) rfl rfl sc_w_same (fun _ _ _ _ _ _ us hl => match us, hl with | [_, _], _ => rfl) (fun vs H Q E h => ?_) (fun f cdv A outer s H vs Q E hr h => ?_)
  · obtain ⟨i, d, rfl, _⟩ := h; rfl
  · obtain ⟨i, d, rfl, q⟩ := h
    refine ⟨_, (pss_one (ps_ret (pe_and (pe_callB (call_isiK K rfl) (by rfl) (T.free 1) (by decide +kernel) (pa_cons (pv 0) (pa_cons (pe_bltn (v := V.ty "int") rfl (T.free 2) (by decide +kernel) rfl) pa_nil))) (pe_and (pe_not (pe_callB (call_isiK K rfl) (by rfl) (T.free 1) (by decide +kernel) (pa_cons (pv 0) (pa_cons (pe_bltn (v := V.ty "bool") rfl (T.free 0) (by decide +kernel) rfl) pa_nil)))) (pe_one (pe_cmpR op_eq (pv 0) (pv 1) (nomark _))))))), ?_⟩
    walk_at "rd"
    refine rd_isiI ?_
    walk_at "rd"
    refine rd_isiB ?_
    walk_at "rd"
    exact q
end
end JF

/-! ### law k15: alike parts are one -/
namespace JF
open PySem PySem.Spec PyProof.Rows L2
theorem num_ok {q : List Sq} {n : Nat} {S : Sq} (h : q[n]? = some S) (l : q.length ≤ 16000000) : (0 : Int) ≤ (n : Int) ∧ (n : Int) < 1000000000 := by
  have := (List.getElem?_eq_some_iff.mp h).1
  omega
/-! #### what is known: numbers by squares, squares by numbers -/
def knT (kn : List (Nat × Nat)) : List (Key × V) := kn.map fun e => (Sum.inl (e.1 : Int), V.int (e.2 : Int))
theorem knT_look {n : Nat} : ∀ {kn : List (Nat × Nat)} {v : V}, valV (knT kn) (Sum.inl (n : Int)) = some v → ∃ m, (n, m) ∈ kn ∧ v = .int (m : Int)
  | [], v, h => by cases h
  | e :: kn, v, h => by
    by_cases z : (Sum.inl (e.1 : Int) : Key) = Sum.inl (n : Int)
    · have h' : V.int (e.2 : Int) = v := by
        have y : valV (knT (e :: kn)) (Sum.inl (n : Int)) = some (V.int (e.2 : Int)) := by simp only [knT, valV, List.map_cons, List.find?_cons, z, decide_true]; rfl
        rw [y] at h
        exact Option.some.inj h
      have z1 : e.1 = n := by simp only [Sum.inl.injEq] at z; omega
      obtain ⟨a, b⟩ := e
      have z2 : a = n := z1
      subst z2
      exact ⟨b, List.mem_cons_self, h'.symm⟩
    · have y : valV (knT (e :: kn)) (Sum.inl (n : Int)) = valV (knT kn) (Sum.inl (n : Int)) := by simp only [knT, valV, List.map_cons, List.find?_cons, z, decide_false]
      rw [y] at h
      obtain ⟨m, h1, h2⟩ := knT_look h
      exact ⟨m, List.mem_cons_of_mem _ h1, h2⟩
theorem knT_there {n m : Nat} : ∀ {kn : List (Nat × Nat)}, (n, m) ∈ kn → ∃ v, valV (knT kn) (Sum.inl (n : Int)) = some v
  | e :: kn, h => by
    by_cases z : (Sum.inl (e.1 : Int) : Key) = Sum.inl (n : Int)
    · exact ⟨V.int (e.2 : Int), by simp only [knT, valV, List.map_cons, List.find?_cons, z, decide_true]; rfl⟩
    · have y : valV (knT (e :: kn)) (Sum.inl (n : Int)) = valV (knT kn) (Sum.inl (n : Int)) := by simp only [knT, valV, List.map_cons, List.find?_cons, z, decide_false]
      rw [y]
      rcases List.mem_cons.mp h with h | h
      · subst h; exact absurd rfl z
      · exact knT_there h
theorem knT_add (kn : List (Nat × Nat)) (n m : Nat) : knT (kn ++ [(n, m)]) = knT kn ++ [(Sum.inl (n : Int), V.int (m : Int))] := by unfold knT; rw [List.map_append]; rfl
def KnOk (sq q : List Sq) (kn : List (Nat × Nat)) : Prop := ∀ e ∈ kn, ∃ S, sq[e.1]? = some S ∧ q[e.2]? = some S
theorem KnOk.pre {sq q sq' q' : List Sq} {kn : List (Nat × Nat)} (h : KnOk sq q kn) (p : sq <+: sq') (p' : q <+: q') : KnOk sq' q' kn := fun e m => let ⟨S, a, b⟩ := h e m; ⟨S, pre_get p a, pre_get p' b⟩
theorem KnOk.add {sq q : List Sq} {kn : List (Nat × Nat)} (h : KnOk sq q kn) {n m : Nat} {S : Sq} (a : sq[n]? = some S) (b : q[m]? = some S) : KnOk sq q (kn ++ [(n, m)]) := fun e he => by
  rcases List.mem_append.mp he with he | he
  · exact h e he
  · rw [List.mem_singleton] at he; subst he; exact ⟨S, a, b⟩
section
variable {P : Program} {w : World} {K : PySem.W.Frag} {mg : Str → Option Value} {base : Heap}
def sp_number : Sp := fun vs H Q _ => ∃ i : Int, vs = [.int i] ∧ 0 ≤ i ∧ i < 1000000000 ∧ Q (.bl true) H
theorem mp_number : MonP sp_number := fun vs H Q Q' E h ⟨i, x1, x2, x3, q⟩ => ⟨i, x1, x2, x3, h _ _ q⟩
theorem ok_number (T : Env fa fn K mg) : Good P w K mg base CX0 1 ("_law_number", none) ["_law_found"] sp_number := by
  refine good_mk T 18 (d := d_w_number) (N := ["_law_found"]) (ps := ["_law_found"]) rfl rfl sc_w_number (fun _ _ _ _ _ _ us hl => match us, hl with | [_], _ => rfl) (fun vs H Q E h => ?_) (fun f cdv A outer s H vs Q E hr h => ?_)
  · obtain ⟨i, rfl, _⟩ := h; rfl
  · obtain ⟨i, rfl, h0, h1, q⟩ := h
    refine ⟨_, (pss_one (ps_ret (pe_and (pe_callB (call_isiK K rfl) (by rfl) (T.free 1) (by decide +kernel) (pa_cons (pv 0) (pa_cons (pe_bltn (v := V.ty "int") rfl (T.free 2) (by decide +kernel) rfl) pa_nil))) (pe_and (pe_not (pe_callB (call_isiK K rfl) (by rfl) (T.free 1) (by decide +kernel) (pa_cons (pv 0) (pa_cons (pe_bltn (v := V.ty "bool") rfl (T.free 0) (by decide +kernel) rfl) pa_nil)))) (pe_one (pe_chain op_le op_lt pe_int (pv 0) (pe_op op_pow pe_int pe_int))))))), ?_⟩
    walk_at "rd"
    refine rd_isiI ?_
    walk_at "rd"
    refine rd_isiB ?_
    walk_at "rd"
    rw [if_pos (decide_eq_true h0)]
    walk_at "rd"
    refine rd_I (by refine ⟨by omega, by omega, by decide⟩) ?_
    have e : (10 : Int) ^ (9 : Int).toNat = 1000000000 := by decide
    rw [e]
    walk_at "rd"
    rw [decide_eq_true h1]
    exact q
theorem mul64 {a b : Int} (h0 : 0 ≤ a) (h1 : a < 2 ^ 64) (h2 : 0 ≤ b) (h3 : b < 2 ^ 64) : CMulW a b := by
  have e1 : (2 : Int) ^ 64 ≤ 2 ^ 2000 := by decide +kernel
  exact mulW_of (by omega) (by omega) (by omega) (by omega)
def sp_stir : Sp := fun vs H Q _ => ∃ c k : Int, vs = [.int c, .int k] ∧ 0 ≤ k ∧ k ≤ 5000 ∧ ∀ m : Int, 0 ≤ m → Q (.int m) H
theorem mp_stir : MonP sp_stir := fun vs H Q Q' E h ⟨c, k, x1, x2, x3, q⟩ => ⟨c, k, x1, x2, x3, fun m a => h _ _ (q m a)⟩
theorem ok_stir (T : Env fa fn K mg) : Good P w K mg base CX0 1 ("_law_stir", none) ["_law_cell", "_law_k"] sp_stir := by
  refine good_mk T 20 (d := d_w_stir) (N := ["_law_cell", "_law_k", "_law_value"]) (ps := ["_law_cell", "_law_k"]) rfl rfl sc_w_stir (fun _ _ _ _ _ _ us hl => match us, hl with | [_, _], _ => rfl) (fun vs H Q E h => ?_) (fun f cdv A outer s H vs Q E hr h => ?_)
  · obtain ⟨c, k, rfl, _⟩ := h; rfl
  · obtain ⟨c, k, rfl, h0, h1, q⟩ := h
    refine ⟨_, (pss_cons (ps_set (i := 2) sc_w_stir.nd rfl (Or.inl rfl) (pe_op op_mod (pe_op op_add (pe_op op_add (pe_op op_mod (pv 0) pe_int) (pe_op op_mulW pe_int (pv 1))) pe_int) pe_int))
      (pss_cons (ps_set (i := 2) sc_w_stir.nd rfl (Or.inl rfl) (pe_op op_mod (pe_op op_mulW (pv 2) (pv 2)) pe_int))
      (pss_one (ps_ret (pe_op op_fdivW (pe_op op_mod (pe_op op_add (pe_op op_mulW (pv 2) pe_int) (pv 1)) pe_int) pe_int))))), ?_⟩
    walk_at "rd"
    refine rd_I (mul64 (by decide) (by decide) (by omega) (by omega)) ?_
    walk_at "rd"
    generalize hv : (c % 2147483629 + 7919 * k + 11) % 2147483629 = v
    have v0 : 0 ≤ v := by omega
    have v1 : v < 2 ^ 64 := by omega
    refine rd_I (mul64 v0 v1 v0 v1) ?_
    walk_at "rd"
    generalize hu : v * v % 2147483587 = u
    have u0 : 0 ≤ u := by omega
    have u1 : u < 2 ^ 64 := by omega
    refine rd_I (mul64 u0 u1 (by decide) (by decide)) ?_
    walk_at "rd"
    exact q _ (by omega)
def sp_agreed : Sp := fun vs H Q _ => ∃ (dk db : Addr) (n m : Nat) (kn bs : List (Nat × Nat)) (sq q : List Sq) (S : Sq), vs = [.ref dk, .ref db, .int (n : Int), .int (m : Int)] ∧ H dk = some (.dK (knT kn)) ∧ H db = some (.dK (knT bs)) ∧ dk ≠ db ∧ KnOk sq q kn ∧ KnOk q sq bs ∧ sq[n]? = some S ∧ q[m]? = some S ∧
  sq.Nodup ∧ q.Nodup ∧ kn.length < 1000000 ∧ bs.length < 1000000 ∧ q.length ≤ 16000000 ∧ ∀ H' kn' bs', H' dk = some (.dK (knT kn')) → H' db = some (.dK (knT bs')) → KnOk sq q kn' → KnOk q sq bs' → (∃ m', (n, m') ∈ kn') → (∀ e ∈ kn, e ∈ kn') → kn'.length ≤ kn.length + 1 → bs'.length ≤ bs.length + 1 → Fr [dk, db] H H' → Q (.bl true) H'
theorem mp_agreed : MonP sp_agreed := fun vs H Q Q' E h ⟨dk, db, n, m, kn, bs, sq, q, S, x1, x2, x3, x4, x5, x6, x7, x8, x9, y1, y2, y3, y4, k⟩ => ⟨dk, db, n, m, kn, bs, sq, q, S, x1, x2, x3, x4, x5, x6, x7, x8, x9, y1, y2, y3, y4, fun H' a b c d e f g i j l o => h _ _ (k H' a b c d e f g i j l o)⟩
theorem ok_agreed (T : Env fa fn K mg) : Good P w K mg base CX0 2 ("_law_agreed", none) ["_law_known", "_law_back", "_law_own_here", "_law_found"] sp_agreed := by
  have G_w_number := ok_number (P := P) (w := w) (base := base) T
  refine good_mk T 25 (d := d_w_agreed) (N := ["_law_known", "_law_back", "_law_own_here", "_law_found"]) (ps := ["_law_known", "_law_back", "_law_own_here", "_law_found"]) rfl rfl sc_w_agreed (fun _ _ _ _ _ _ us hl => match us, hl with | [_, _, _, _], _ => rfl) (fun vs H Q E h => ?_) (fun f cdv A outer s H vs Q E hr h => ?_)
  · obtain ⟨dk, db, n, m, kn, bs, sq, q, S, rfl, _⟩ := h; rfl
  · obtain ⟨dk, db, n, m, kn, bs, sq, q, S, rfl, hk, hb, hne, hK, hB, hn, hm, nsq, nq, lk, lb, lq, k⟩ := h
    have hu := hu_of hr
    have hsz := sizeBig
    obtain ⟨m0, m1⟩ := num_ok hm lq
    refine ⟨_, (pss_cons (ps_if (pt_not (pt_val (pe_cgK K rfl G_w_number (hr.mono (by decide)) (T.glo 29) (pa_cons (pv 3) pa_nil)))) (pss_one (ps_ret pe_bl)) pss_nil)
      (pss_one (ps_ret (pe_and (pe_cmpR op_eq (pe_dsetd (pv 0) (pv 2) (pv 3) ⟨rfl, rfl, rfl, rfl⟩) (pv 3) (nomark _)) (pe_one (pe_cmpR op_eq (pe_dsetd (pv 1) (pv 3) (pv 2) ⟨rfl, rfl, rfl, rfl⟩) (pv 2) (nomark _))))))), ?_⟩
    walk_at "rd"
    refine ⟨_, rfl, m0, m1, ?_⟩
    walk_at "rd"
    refine rd_isD hk ?_
    walk_at "rd"
    have fin1 : ∀ (H1 : Hp) (kn1 : List (Nat × Nat)), H1 dk = some (.dK (knT kn1)) → H1 db = some (.dK (knT bs)) → KnOk sq q kn1 → (∃ m', (n, m') ∈ kn1) → (∀ e ∈ kn, e ∈ kn1) → kn1.length ≤ kn.length + 1 → Fr [dk, db] H H1 → ∀ v, valV (knT bs) (Sum.inl (m : Int)) = some v → v = .int (n : Int) ∧ Q (.bl true) H1 := by
      intro H1 kn1 hk1 hb1 hK1 hin hsub hl1 hf v hv
      obtain ⟨n', hn', rfl⟩ := knT_look hv
      obtain ⟨S', a, b⟩ := hB _ hn'
      have e1 : S' = S := Option.some.inj (a.symm.trans hm)
      subst e1
      have e2 : n = n' := nodup_at nsq hn b
      subst e2
      exact ⟨rfl, k _ kn1 bs hk1 hb1 hK1 hB hin hsub hl1 (by omega) hf⟩
    have fin2 : ∀ (H1 : Hp) (kn1 : List (Nat × Nat)), H1 dk = some (.dK (knT kn1)) → H1 db = some (.dK (knT bs)) → KnOk sq q kn1 → (∃ m', (n, m') ∈ kn1) → (∀ e ∈ kn, e ∈ kn1) → kn1.length ≤ kn.length + 1 → Fr [dk, db] H H1 → Q (.bl true) (upd H1 db (.dK (knT (bs ++ [(m, n)])))) := by
      intro H1 kn1 hk1 hb1 hK1 hin hsub hl1 hf
      exact k _ kn1 (bs ++ [(m, n)]) (by rw [upd_ne hne]; exact hk1) upd_same hK1 (hB.add hm hn) hin hsub hl1 (by simp) (hf.trans fun b o e hb => by rw [upd_ne (fun z => hb (by simp [z]))]; exact e)
    refine ⟨knT kn, Sum.inl (n : Int), hk, rfl, by rw [knT, List.length_map]; omega, fun v hv => ?_, fun hv => ?_⟩
    · obtain ⟨m', hm', rfl⟩ := knT_look hv
      obtain ⟨S', a, b⟩ := hK _ hm'
      have e1 : S' = S := Option.some.inj (a.symm.trans hn)
      subst e1
      have e2 : m = m' := nodup_at nq hm b
      subst e2
      walk_at "rd"
      rw [decide_eq_true rfl]
      walk_at "rd"
      refine rd_isD hb ?_
      walk_at "rd"
      refine ⟨knT bs, Sum.inl (m : Int), hb, rfl, by rw [knT, List.length_map]; omega, fun v hv2 => ?_, fun hv2 => ?_⟩
      · obtain ⟨rfl, z⟩ := fin1 H kn hk hb hK ⟨_, hm'⟩ (fun e h => h) (by omega) (Fr.refl _ _) v hv2
        walk_at "rd"
        rw [decide_eq_true rfl]
        exact z
      · rw [putK_new _ hv2, ← knT_add]
        walk_at "rd"
        rw [decide_eq_true rfl]
        exact fin2 H kn hk hb hK ⟨_, hm'⟩ (fun e h => h) (by omega) (Fr.refl _ _)
    · rw [putK_new _ hv, ← knT_add]
      walk_at "rd"
      rw [decide_eq_true rfl]
      walk_at "rd"
      have hb1 : (upd H dk (.dK (knT (kn ++ [(n, m)])))) db = some (.dK (knT bs)) := (upd_ne hne.symm).trans hb
      refine rd_isD hb1 ?_
      walk_at "rd"
      refine ⟨knT bs, Sum.inl (m : Int), hb1, rfl, by rw [knT, List.length_map]; omega, fun v hv2 => ?_, fun hv2 => ?_⟩
      · obtain ⟨rfl, z⟩ := fin1 _ (kn ++ [(n, m)]) upd_same hb1 (hK.add hn hm) ⟨m, by simp⟩ (fun e h => List.mem_append_left _ h) (by simp) (fun b o e hb => by rw [upd_ne (fun z => hb (by simp [z]))]; exact e) v hv2
        walk_at "rd"
        rw [decide_eq_true rfl]
        exact z
      · rw [putK_new _ hv2, ← knT_add]
        walk_at "rd"
        rw [decide_eq_true rfl]
        exact fin2 _ (kn ++ [(n, m)]) upd_same hb1 (hK.add hn hm) ⟨m, by simp⟩ (fun e h => List.mem_append_left _ h) (by simp) (fun b o e hb => by rw [upd_ne (fun z => hb (by simp [z]))]; exact e)
/-! #### deeds -/
inductive Dd where
  | leaf (s : Int)
  | solid (l : Nat) (s : Int)
  | part (b j : Nat)
  | join (a b c d : Nat)
def DdT (H : Hp) (t : Addr) (n : Nat) : Dd → Prop
  | .leaf s => ∃ u, H t = some (.tup [.str (Str.ofString "leaf"), .ref u, .int (n : Int)]) ∧ H u = some (.tup [.int s])
  | .solid l s => ∃ u, H t = some (.tup [.str (Str.ofString "solid"), .ref u, .int (n : Int)]) ∧ H u = some (.tup [.int (l : Int), .int s])
  | .part b j => ∃ u, H t = some (.tup [.str (Str.ofString "part"), .ref u, .int (n : Int)]) ∧ H u = some (.tup [.int (b : Int), .int (j : Int)])
  | .join a b c d => ∃ u, H t = some (.tup [.str (Str.ofString "joined"), .ref u, .int (n : Int)]) ∧ H u = some (.tup [.int (a : Int), .int (b : Int), .int (c : Int), .int (d : Int)])
theorem DdT.keep {H H' : Hp} {t : Addr} {n : Nat} {d : Dd} (h : DdT H t n d) (k : Tup H H') : DdT H' t n d := by
  cases d <;> (obtain ⟨u, h1, h2⟩ := h; exact ⟨u, k _ _ h1, k _ _ h2⟩)
def DdOk (sq : List Sq) (n : Nat) : Dd → Prop
  | .leaf s => 0 ≤ s ∧ s ≤ 7 ∧ sq[n]? = some (.leaf s)
  | .solid l s => l ≤ 48 ∧ 0 ≤ s ∧ s ≤ 7 ∧ sq[n]? = some (.even l s)
  | .part b j => ∃ A B C D U, sq[b]? = some (.node A B C D) ∧ [A, B, C, D][j]? = some U ∧ sq[n]? = some U
  | .join a b c d => ∃ A B C D, sq[a]? = some A ∧ sq[b]? = some B ∧ sq[c]? = some C ∧ sq[d]? = some D ∧ B.level = A.level ∧ C.level = A.level ∧ D.level = A.level ∧ A.level ≤ 47 ∧ sq[n]? = some (.node A B C D)
theorem DdOk.pre {sq sq' : List Sq} {n : Nat} {d : Dd} (h : DdOk sq n d) (p : sq <+: sq') : DdOk sq' n d := by
  cases d with
  | leaf s => exact ⟨h.1, h.2.1, pre_get p h.2.2⟩
  | solid l s => exact ⟨h.1, h.2.1, h.2.2.1, pre_get p h.2.2.2⟩
  | part b j => obtain ⟨A, B, C, D, U, h1, h2, h3⟩ := h; exact ⟨A, B, C, D, U, pre_get p h1, h2, pre_get p h3⟩
  | join a b c d => obtain ⟨A, B, C, D, h1, h2, h3, h4, e1, e2, e3, e4, h5⟩ := h; exact ⟨A, B, C, D, pre_get p h1, pre_get p h2, pre_get p h3, pre_get p h4, e1, e2, e3, e4, pre_get p h5⟩
def DdUse : Dd → List Nat
  | .leaf _ => []
  | .solid _ _ => []
  | .part b _ => [b]
  | .join a b c d => [a, b, c, d]
def PoolOk (sq : List Sq) (pool : List Nat) : Prop := ∀ n ∈ pool, ∃ S, sq[n]? = some S ∧ S.level ≤ 48
theorem PoolOk.pre {sq sq' : List Sq} {pool : List Nat} (h : PoolOk sq pool) (p : sq <+: sq') : PoolOk sq' pool := fun n hn => let ⟨S, a, b⟩ := h n hn; ⟨S, pre_get p a, b⟩
theorem quarter_level {A B C D U : Sq} {j : Nat} (hw : (Sq.node A B C D).wf) (h : [A, B, C, D][j]? = some U) : U.level = A.level := by
  obtain ⟨_, _, _, _, e1, e2, e3⟩ := hw
  match j, h with
  | 0, h => cases h; rfl
  | 1, h => cases h; exact e1
  | 2, h => cases h; exact e2
  | 3, h => cases h; exact e3
theorem DdOk.level {sq : List Sq} {n : Nat} {d : Dd} (h : DdOk sq n d) (hw : ∀ S ∈ sq, S.wf) {pool : List Nat} (hp : PoolOk sq pool) (hu : ∀ x ∈ DdUse d, x ∈ pool) : ∃ S, sq[n]? = some S ∧ S.level ≤ 48 := by
  cases d with
  | leaf s => exact ⟨_, h.2.2, Nat.zero_le _⟩
  | solid l s => exact ⟨_, h.2.2.2, by rw [Sq.level_even]; exact h.1⟩
  | part b j =>
    obtain ⟨A, B, C, D, U, h1, h2, h3⟩ := h
    obtain ⟨S, e, hl⟩ := hp b (hu b List.mem_cons_self)
    rw [h1] at e; cases e
    have e2 := quarter_level (hw _ (List.mem_of_getElem? h1)) h2
    exact ⟨U, h3, by rw [e2]; have : A.level + 1 ≤ 48 := hl; omega⟩
  | join a b c d =>
    obtain ⟨A, B, C, D, h1, h2, h3, h4, e1, e2, e3, e4, h5⟩ := h
    exact ⟨_, h5, by show A.level + 1 ≤ 48; omega⟩
def sp_deed : Sp := fun vs H Q _ => ∃ (c : Int) (di ro pl : Addr) (mk : List (List Int)) (rs : List Addr) (sq : List Sq) (pool : List Nat), vs = [.int c, .ref di, .ref ro, .ref pl] ∧ H di = some (.dT (kvsOf mk 0)) ∧ H ro = some (.lst (rs.map V.ref)) ∧ OwD H mk rs sq ∧
  H pl = some (.lst (pool.map fun n : Nat => V.int (n : Int))) ∧ pool ≠ [] ∧ pool.length < 1000000 ∧ PoolOk sq pool ∧ pl ≠ ro ∧ sq.length < 800000 ∧
  ∀ H' mk' rs' sq' t (n : Nat) (d : Dd), H' di = some (.dT (kvsOf mk' 0)) → H' ro = some (.lst (rs'.map V.ref)) → OwD H' mk' rs' sq' → sq <+: sq' → sq'.length ≤ sq.length + 60 → Fr [di, ro] H H' → DdT H' t n d → DdOk sq' n d → (∀ x ∈ DdUse d, x ∈ pool) → Q (.ref t) H'
theorem mp_deed : MonP sp_deed := fun vs H Q Q' E h ⟨c, di, ro, pl, mk, rs, sq, pool, x1, x2, x3, x4, x5, x6, x7, x8, x9, y1, k⟩ => ⟨c, di, ro, pl, mk, rs, sq, pool, x1, x2, x3, x4, x5, x6, x7, x8, x9, y1, fun H' a b c t n d e f g i j l m o p => h _ _ (k H' a b c t n d e f g i j l m o p)⟩
set_option maxHeartbeats 16000000 in
theorem ok_deed (T : Env fa fn K mg) : Good P w K mg base CX0 3 ("_law_deed", none) ["_law_cell", "_law_ids", "_law_rows", "_law_pool"] sp_deed := by
  have G_w_own := ok_own (P := P) (w := w) (base := base) T
  have G_w_even := ok_evenO (P := P) (w := w) (base := base) T
  have G_w_stir := ok_stir (P := P) (w := w) (base := base) T
  refine good_mk T 23 (d := d_w_deed) (N := ["_law_cell", "_law_ids", "_law_rows", "_law_pool", "_law_way", "_law_pick", "_law_base", "_law_level", "_law_same_here", "_law_four", "_law_k", "_law_parts", "_law_one"]) (ps := ["_law_cell", "_law_ids", "_law_rows", "_law_pool"]) rfl rfl sc_w_deed (fun _ _ _ _ _ _ us hl => match us, hl with | [_, _, _, _], _ => rfl) (fun vs H Q E h => ?_) (fun f cdv A0 outer s H vs Q E hr h => ?_)
  · obtain ⟨c, di, ro, pl, mk, rs, sq, pool, rfl, _⟩ := h; rfl
  · obtain ⟨c, di, ro, pl, mk, rs, sq, pool, rfl, hdi, hro, D, hpl, hne, hpn, hP, hpr, hlen, k⟩ := h
    have hu := hu_of hr
    have hsz := sizeBig
    have nat : ∀ i : Int, 0 ≤ i → ∃ n : Nat, i = n := fun i h => ⟨i.toNat, by omega⟩
    have mp1 := mp_stir
    have mp2 := mp_own
    have mp3 := mp_evenO
    refine ⟨_, (pss_cons (ps_set (i := 4) sc_w_deed.nd rfl (Or.inl rfl) (pe_op op_mod (pv 0) pe_int))
      (pss_cons (ps_set (i := 5) sc_w_deed.nd rfl (Or.inl rfl) (pe_op op_fdivW (pv 0) pe_int))
      (pss_cons (ps_if (pt_cmpR op_eq (pv 4) pe_int (nomark _)) (pss_one (ps_ret (pe_tup (pa_cons pe_str (pa_cons (pe_tup (pa_cons (pe_op op_mod (pv 5) pe_int) pa_nil)) (pa_cons (pe_cgK K rfl G_w_even (hr.mono (by decide)) (T.glo 22) (pa_cons (pv 1) (pa_cons (pv 2) (pa_cons pe_int (pa_cons (pe_op op_mod (pv 5) pe_int) pa_nil))))) pa_nil)))))) pss_nil)
      (pss_cons (ps_if (pt_cmpR op_eq (pv 4) pe_int (nomark _)) (pss_one (ps_ret (pe_tup (pa_cons pe_str (pa_cons (pe_tup (pa_cons (pe_op op_mod (pe_op op_fdivW (pv 5) pe_int) pe_int) (pa_cons (pe_op op_mod (pv 5) pe_int) pa_nil))) (pa_cons (pe_cgK K rfl G_w_even (hr.mono (by decide)) (T.glo 22) (pa_cons (pv 1) (pa_cons (pv 2) (pa_cons (pe_op op_mod (pe_op op_fdivW (pv 5) pe_int) pe_int) (pa_cons (pe_op op_mod (pv 5) pe_int) pa_nil))))) pa_nil)))))) pss_nil)
      (pss_cons (ps_set (i := 6) sc_w_deed.nd rfl (Or.inl rfl) (pe_ix (ix_listK K rfl) (pv 3) (pe_op op_mod (pe_cgK K rfl G_w_stir (hr.mono (by decide)) (T.glo 23) (pa_cons (pv 0) (pa_cons pe_int pa_nil))) (pe_callB (call_lenK K rfl) (by rfl) (T.free 8) (by decide +kernel) (pa_cons (pv 3) pa_nil))) (fun _ _ => rfl)))
      (pss_cons (ps_set (i := 7) sc_w_deed.nd rfl (Or.inr rfl) (pe_ix (ix_tupK K rfl) (pe_ix (ix_listK K rfl) (pv 2) (pv 6) (fun _ _ => rfl)) pe_int (fun _ _ => rfl)))
      (pss_cons (ps_if (PW.pt (pw_or (PW.pt (pw_and (pt_cmpR op_eq (pv 4) pe_int (nomark _)) (pw_and1 (pt_cmpR op_gt (pv 7) pe_int (nomark _))))) (pw_or1 (pt_cmpR op_eq (pv 7) pe_int (nomark _))))) (pss_one (ps_ret (pe_tup (pa_cons pe_str (pa_cons (pe_tup (pa_cons (pv 6) (pa_cons (pe_op op_mod (pv 5) pe_int) pa_nil))) (pa_cons (pe_ix (ix_tupK K rfl) (pe_ix (ix_tupK K rfl) (pe_ix (ix_listK K rfl) (pv 2) (pv 6) (fun _ _ => rfl)) pe_int (fun _ _ => rfl)) (pe_op op_mod (pv 5) pe_int) (fun _ _ => rfl)) pa_nil)))))) pss_nil)
      (pss_cons (ps_setLc (i := 8) (own := [("_law_one", 12)]) rfl sc_w_deed.nd rfl rfl (sw_true rfl rfl rfl (by decide +kernel)) (pi_listK K rfl (pv 3)) (blkOk_by (own := [("_law_one", 12)]) (N := ["_law_cell", "_law_ids", "_law_rows", "_law_pool", "_law_way", "_law_pick", "_law_base", "_law_level", "_law_same_here", "_law_four", "_law_k", "_law_parts", "_law_one"]) (sc := defScope st_w_deed) (by decide +kernel)) (fun _ _ _ _ _ => by exact (pg_name (i := 12) sc_w_deed.nd rfl (Or.inl rfl))) (fun _ _ _ _ _ => by exact (pts_one (pt_cmpR op_eq (pe_ix (ix_tupK K rfl) (pe_ix (ix_listK K rfl) (pv 2) (pv 12) (fun _ _ => rfl)) pe_int (fun _ _ => rfl)) (pv 7) (nomark _)))) (fun _ _ _ _ _ => by exact (pv 12)))
      (pss_cons (ps_set (i := 9) sc_w_deed.nd rfl (Or.inl rfl) (pe_lst (pa_cons (pv 6) pa_nil)))
      (pss_cons (ps_for PassesOwn.never rfl (pi_range1 (by rfl) (T.free 21) (pa_cons pe_int pa_nil)) (pg_name (i := 10) sc_w_deed.nd rfl (Or.inl rfl)) (pss_one (ps_expr (pe_bm PySem.F.plainAttrs_list PySem.F.slot_list_append PySem.F.type_list_append mt_append (pv 9) (pa_cons (pe_ix (ix_listK K rfl) (pv 8) (pe_op op_mod (pe_cgK K rfl G_w_stir (hr.mono (by decide)) (T.glo 23) (pa_cons (pv 0) (pa_cons (pe_op op_add (pv 10) pe_int) pa_nil))) (pe_callB (call_lenK K rfl) (by rfl) (T.free 8) (by decide +kernel) (pa_cons (pv 8) pa_nil))) (fun _ _ => rfl)) pa_nil)))))
      (pss_cons (ps_set (i := 11) sc_w_deed.nd rfl (Or.inl rfl) (pe_tup (pa_cons (pe_ix (ix_listK K rfl) (pv 9) (pe_op op_mod (pv 5) pe_int) (fun _ _ => rfl)) (pa_cons (pe_ix (ix_listK K rfl) (pv 9) (pe_op op_mod (pe_op op_fdivW (pv 5) pe_int) pe_int) (fun _ _ => rfl)) (pa_cons (pe_ix (ix_listK K rfl) (pv 9) (pe_op op_mod (pe_op op_fdivW (pv 5) pe_int) pe_int) (fun _ _ => rfl)) (pa_cons (pe_ix (ix_listK K rfl) (pv 9) (pe_op op_mod (pe_op op_fdivW (pv 5) pe_int) pe_int) (fun _ _ => rfl)) pa_nil))))))
      (pss_one (ps_ret (pe_tup (pa_cons pe_str (pa_cons (pv 11) (pa_cons (pe_cgK K rfl G_w_own (hr.mono (by decide)) (T.glo 20) (pa_cons (pv 1) (pa_cons (pv 2) (pa_cons (pe_op op_add (pv 7) pe_int) (pa_cons (pv 11) pa_nil))))) pa_nil))))))))))))))))), ?_⟩
    walk_at "rd"
    generalize hway : c % 8 = way
    generalize hpick : c / 8 = pick
    refine ite_d (fun w0 => ?_) (fun w0 => ?_)
    · walk_at "rd"
      refine rd_new (hn := by show 1 ≤ sizeLine; decide) fun u hu' => ?_
      have su := same_upd (o := HO.tup [V.int (pick % 8)]) hu'
      have hU : (upd H u (HO.tup [V.int (pick % 8)])) u = some (.tup [V.int (pick % 8)]) := upd_same
      walk_at "rd"
      refine ⟨di, ro, mk, rs, sq, 0, pick % 8, rfl, su _ _ hdi, su _ _ hro, D.keep (Tup.of su), by omega, by omega, by omega, by omega, fun H2 mk2 rs2 sq2 n2 a1 a2 a3 a4 a5 a6 a7 => ?_⟩
      have hU2 := a7.tup (fun b hb ys e => by
        simp only [List.mem_cons, List.not_mem_nil, or_false] at hb
        rcases hb with rfl | rfl
        · rw [su _ _ hdi] at e; cases e
        · rw [su _ _ hro] at e; cases e) _ _ hU
      walk_at "rd"
      refine rd_new (hn := by show 3 ≤ sizeLine; decide) fun t ht => ?_
      have st := same_upd (o := HO.tup [V.str (Str.ofString "leaf"), V.ref u, V.int (n2 : Int)]) ht
      exact k _ mk2 rs2 sq2 t n2 (.leaf (pick % 8)) (st _ _ a1) (st _ _ a2) (a3.keep (Tup.of st)) a4 (by omega) (((fr_of su).trans a7).trans (fr_of st)) ⟨u, upd_same, st _ _ hU2⟩ ⟨by omega, by omega, a6⟩ fun x hx => by cases hx
    walk_at "rd"
    refine ite_d (fun w1 => ?_) (fun w1 => ?_)
    · walk_at "rd"
      obtain ⟨l, hl⟩ := nat (pick / 8 % 49) (by omega)
      rw [hl]
      refine rd_new (hn := by show 2 ≤ sizeLine; decide) fun u hu' => ?_
      have su := same_upd (o := HO.tup [V.int (l : Int), V.int (pick % 8)]) hu'
      have hU : (upd H u (HO.tup [V.int (l : Int), V.int (pick % 8)])) u = some (.tup [V.int (l : Int), V.int (pick % 8)]) := upd_same
      walk_at "rd"
      rw [hl]
      refine ⟨di, ro, mk, rs, sq, l, pick % 8, rfl, su _ _ hdi, su _ _ hro, D.keep (Tup.of su), by omega, by omega, by omega, by omega, fun H2 mk2 rs2 sq2 n2 a1 a2 a3 a4 a5 a6 a7 => ?_⟩
      have hU2 := a7.tup (fun b hb ys e => by
        simp only [List.mem_cons, List.not_mem_nil, or_false] at hb
        rcases hb with rfl | rfl
        · rw [su _ _ hdi] at e; cases e
        · rw [su _ _ hro] at e; cases e) _ _ hU
      walk_at "rd"
      refine rd_new (hn := by show 3 ≤ sizeLine; decide) fun t ht => ?_
      have st := same_upd (o := HO.tup [V.str (Str.ofString "solid"), V.ref u, V.int (n2 : Int)]) ht
      exact k _ mk2 rs2 sq2 t n2 (.solid l (pick % 8)) (st _ _ a1) (st _ _ a2) (a3.keep (Tup.of st)) a4 (by omega) (((fr_of su).trans a7).trans (fr_of st)) ⟨u, upd_same, st _ _ hU2⟩ ⟨by omega, by omega, by omega, a6⟩ fun x hx => by cases hx
    walk_at "rd"
    have hpos : 0 < pool.length := List.length_pos_iff.mpr hne
    refine ⟨c, 0, rfl, by decide, by decide, fun m0 hm0 => ?_⟩
    walk_at "rd"
    refine rd_len (SqL.of hpl) ?_
    walk_at "rd"
    rw [List.length_map]
    refine rd_mod (by omega) ?_
    obtain ⟨d0, hd0⟩ := nat (m0 % (pool.length : Int)) (Int.emod_nonneg _ (by omega))
    have hd0l : d0 < pool.length := by have := Int.emod_lt_of_pos m0 (show (0 : Int) < (pool.length : Int) by omega); omega
    rw [hd0]
    obtain ⟨bs, hbs0⟩ : ∃ b, pool[d0]? = some b := ⟨_, at_get hd0l⟩
    have hbp : bs ∈ pool := List.mem_of_getElem? hbs0
    refine rd_ixL (SqL.of hpl) (atI_nat (map_get (fun n : Nat => V.int (n : Int)) hbs0)) ?_
    obtain ⟨S, hbs, hS48⟩ := hP bs hbp
    obtain ⟨r, m, tp, hr1, hm1, hrow, ht1, hmade⟩ := D.get hbs
    walk_at "rd"
    refine rd_ixL (SqL.of hro) (atI_nat (map_get V.ref hr1)) ?_
    walk_at "rhi"
    refine rd_cut (fun σ H' => H' = H ∧ S.level ≤ 47 ∧ σ = [some (.int c), some (.ref di), some (.ref ro), some (.ref pl), some (.int way), some (.int pick), some (.int (bs : Int)), some (.int (S.level : Int)), none, none, none, none, none]) (by walk_at "mono") ?_ ?_
    · walk_at "rd"
      by_cases p : 0 < S.level ∧ (way = 2 ∨ S.level = 48)
      · obtain ⟨p0, p1⟩ := p
        cases S with
        | leaf s0 => exact absurd p0 (Nat.lt_irrefl _)
        | node A B C' D' =>
          obtain ⟨na, nb, nc, nd, rfl, ea, eb, ec, ed⟩ := hmade
          obtain ⟨d4, hd4⟩ := nat (pick % 4) (by omega)
          have hd4l : d4 < 4 := by omega
          obtain ⟨np, U, hat, hq4, hnp⟩ : ∃ (np : Nat) (U : Sq), atI ([(na : Int), (nb : Int), (nc : Int), (nd : Int)].map V.int) ((d4 : Nat) : Int) = some (V.int (np : Int)) ∧ [A, B, C', D'][d4]? = some U ∧ sq[np]? = some U := by
            match d4, hd4l with
            | 0, _ => exact ⟨na, A, atI_nat (j := 0) rfl, rfl, ea⟩
            | 1, _ => exact ⟨nb, B, atI_nat (j := 1) rfl, rfl, eb⟩
            | 2, _ => exact ⟨nc, C', atI_nat (j := 2) rfl, rfl, ec⟩
            | 3, _ => exact ⟨nd, D', atI_nat (j := 3) rfl, rfl, ed⟩
          by_cases w2 : way = 2
          · rw [decide_eq_true w2]
            walk_at "rd"
            rw [decide_eq_true (show (((Sq.node A B C' D').level : Nat) : Int) > 0 by omega)]
            walk_at "rd"
            rw [hd4]
            refine rd_new (hn := by show 2 ≤ sizeLine; decide) fun u hu' => ?_
            have su := same_upd (o := HO.tup [V.int (bs : Int), V.int (d4 : Int)]) hu'
            have hU : (upd H u (HO.tup [V.int (bs : Int), V.int (d4 : Int)])) u = some (.tup [V.int (bs : Int), V.int (d4 : Int)]) := upd_same
            have hro2 := su _ _ hro
            have ht2 := su _ _ ht1
            have hr2 := su _ _ hrow
            walk_at "rd"
            refine rd_ixL (SqL.of hro2) (atI_nat (map_get V.ref hr1)) ?_
            walk_at "rd"
            rw [hd4]
            refine rd_ixT (SqT.of ht2) hat ?_
            walk_at "rd"
            refine rd_new (hn := by show 3 ≤ sizeLine; decide) fun t ht => ?_
            have st := same_upd (o := HO.tup [V.str (Str.ofString "part"), V.ref u, V.int (np : Int)]) ht
            have sut := su.trans st
            exact k _ mk rs sq t np (.part bs d4) (sut _ _ hdi) (sut _ _ hro) (D.keep (Tup.of sut)) (List.prefix_refl _) (by omega) (fr_of sut) ⟨u, upd_same, st _ _ hU⟩ ⟨A, B, C', D', U, hbs, hq4, hnp⟩ fun x hx => by rw [List.mem_singleton.mp hx]; exact hbp
          · rw [decide_eq_false w2]
            have h48 : (Sq.node A B C' D').level = 48 := p1.resolve_left w2
            walk_at "rd"
            rw [decide_eq_true (show (((Sq.node A B C' D').level : Nat) : Int) = 48 by omega)]
            walk_at "rd"
            rw [hd4]
            refine rd_new (hn := by show 2 ≤ sizeLine; decide) fun u hu' => ?_
            have su := same_upd (o := HO.tup [V.int (bs : Int), V.int (d4 : Int)]) hu'
            have hU : (upd H u (HO.tup [V.int (bs : Int), V.int (d4 : Int)])) u = some (.tup [V.int (bs : Int), V.int (d4 : Int)]) := upd_same
            have hro2 := su _ _ hro
            have ht2 := su _ _ ht1
            have hr2 := su _ _ hrow
            walk_at "rd"
            refine rd_ixL (SqL.of hro2) (atI_nat (map_get V.ref hr1)) ?_
            walk_at "rd"
            rw [hd4]
            refine rd_ixT (SqT.of ht2) hat ?_
            walk_at "rd"
            refine rd_new (hn := by show 3 ≤ sizeLine; decide) fun t ht => ?_
            have st := same_upd (o := HO.tup [V.str (Str.ofString "part"), V.ref u, V.int (np : Int)]) ht
            have sut := su.trans st
            exact k _ mk rs sq t np (.part bs d4) (sut _ _ hdi) (sut _ _ hro) (D.keep (Tup.of sut)) (List.prefix_refl _) (by omega) (fr_of sut) ⟨u, upd_same, st _ _ hU⟩ ⟨A, B, C', D', U, hbs, hq4, hnp⟩ fun x hx => by rw [List.mem_singleton.mp hx]; exact hbp
      · have n48 : ¬ ((S.level : Nat) : Int) = 48 := fun e => p ⟨by omega, .inr (by omega)⟩
        by_cases w2 : way = 2
        · rw [decide_eq_true w2]
          walk_at "rd"
          rw [decide_eq_false (show ¬ ((S.level : Nat) : Int) > 0 from fun e => p ⟨by omega, .inl w2⟩)]
          walk_at "rd"
          rw [decide_eq_false n48]
          walk_at "rd"
          exact ⟨rfl, by omega, rfl⟩
        · rw [decide_eq_false w2]
          walk_at "rd"
          rw [decide_eq_false n48]
          walk_at "rd"
          exact ⟨rfl, by omega, rfl⟩
    rintro σ H1 ⟨rfl, hS47, rfl⟩
    walk_at "rd"
    refine ⟨pl, rfl, ⟨_, SqL.of hpl⟩, fun Dn hD => ?_⟩
    refine lc_list (K := K) (xs := pool.map fun n : Nat => V.int (n : Int)) (fun i H' => Same H1 H' ∧ ∃ ys : List Nat, H' Dn = some (.lst (ys.map fun n : Nat => V.int (n : Int))) ∧ (∀ y ∈ ys, y ∈ pool ∧ ∃ U, sq[y]? = some U ∧ U.level = S.level) ∧ ys.length ≤ i ∧ (∀ j, j < i → pool[j]? = some bs → ys ≠ []))
      ⟨same_upd hD, [], upd_same, fun y h => by simp at h, Nat.le_refl _, fun j h => absurd h (Nat.not_lt_zero _)⟩ (fun i H' _ e => SqL.of (e.1 _ _ hpl)) ?_ ?_
    · rintro i x H' hx ⟨s1, ys, LD, hy, hyl, hyn⟩
      obtain ⟨n, hn, rfl⟩ : ∃ n, pool[i]? = some n ∧ x = .int (n : Int) := by
        rw [List.getElem?_map] at hx
        cases e : pool[i]? with
        | none => rw [e] at hx; cases hx
        | some c => rw [e] at hx; exact ⟨c, rfl, (Option.some.inj hx).symm⟩
      have hi := (List.getElem?_eq_some_iff.mp hn).1
      obtain ⟨U, hU, _⟩ := hP n (List.mem_of_getElem? hn)
      obtain ⟨r2, m2, t2, hr2, _, hrow2, _, _⟩ := D.get hU
      have hrow2' := s1 _ _ hrow2
      walk_at "rd"
      refine ⟨rfl, ?_⟩
      walk_at "rd"
      refine rd_ixL (SqL.of (s1 _ _ hro)) (atI_nat (map_get V.ref hr2)) ?_
      walk_at "rd"
      refine ite_d (fun z => ?_) (fun z => ?_)
      · walk_at "rd"
        refine ⟨_, LD, by rw [List.length_map]; omega, same_put s1 hD, ys ++ [n], by rw [upd_same, List.map_append]; rfl, fun y hy' => ?_, by rw [List.length_append, List.length_singleton]; omega, fun j _ _ => by simp⟩
        rcases List.mem_append.mp hy' with hy' | hy'
        · exact hy y hy'
        · rw [List.mem_singleton] at hy'; subst hy'; exact ⟨List.mem_of_getElem? hn, U, hU, by omega⟩
      · refine ⟨s1, ys, LD, hy, by omega, fun j hj hb => ?_⟩
        by_cases e : j = i
        · exfalso
          subst e
          rw [hn] at hb
          cases hb
          rw [hbs] at hU
          cases hU
          exact z rfl
        · exact hyn j (by omega) hb
    rintro H2 ⟨s2, ys, LD, hy, hyl, hyn⟩
    rw [List.length_map] at hyl hyn
    have yne : ys ≠ [] := hyn d0 hd0l hbs0
    have ypos : 0 < ys.length := List.length_pos_iff.mpr yne
    walk_at "rd"
    refine rd_new (hn := by show 1 ≤ sizeLine; decide) fun pf hpf => ?_
    have sf := same_upd (o := HO.lst [V.int (bs : Int)]) hpf
    have s12 := s2
    walk_at "rh"
    refine rd_cut (fun σ H' => ∃ (fs : List Nat) (x10 : Option V), σ = [some (.int c), some (.ref di), some (.ref ro), some (.ref pl), some (.int way), some (.int pick), some (.int (bs : Int)), some (.int (S.level : Int)), some (.ref Dn), some (.ref pf), x10, none, none] ∧ Same H2 H' ∧ H' pf = some (.lst (fs.map fun n : Nat => V.int (n : Int))) ∧ fs.length = 4 ∧ ∀ y ∈ fs, y ∈ pool ∧ ∃ U, sq[y]? = some U ∧ U.level = S.level) (by walk_at "mono") ?_ ?_
    · walk_at "rd"
      refine ⟨3, rfl, by decide, by decide, ?_⟩
      refine for_it (walk_r0 (n := 3)) (fun i σ H' => ∃ (fs : List Nat) (x10 : Option V), σ = [some (.int c), some (.ref di), some (.ref ro), some (.ref pl), some (.int way), some (.int pick), some (.int (bs : Int)), some (.int (S.level : Int)), some (.ref Dn), some (.ref pf), x10, none, none] ∧ Same H2 H' ∧ H' pf = some (.lst (fs.map fun n : Nat => V.int (n : Int))) ∧ fs.length = i + 1 ∧ ∀ y ∈ fs, y ∈ pool ∧ ∃ U, sq[y]? = some U ∧ U.level = S.level)
        ⟨[bs], none, rfl, sf, upd_same, rfl, fun y h => by rw [List.mem_singleton.mp h]; exact ⟨hbp, S, hbs, rfl⟩⟩ (fun _ _ _ _ _ => trivial) ?_ ?_
      · rintro i x σ Ha Hb hi ⟨fs, x10, rfl, s3, hf, hfl, hfs⟩ ⟨rfl, rfl⟩
        have LD3 := s3 _ _ LD
        walk_at "rd"
        refine rd_tyL hf ?_
        walk_at "rd"
        refine ⟨c, _, rfl, by omega, by omega, fun m1 hm1 => ?_⟩
        walk_at "rd"
        refine rd_len (SqL.of LD3) ?_
        walk_at "rd"
        rw [List.length_map]
        refine rd_mod (by omega) ?_
        obtain ⟨d1, hd1⟩ := nat (m1 % (ys.length : Int)) (Int.emod_nonneg _ (by omega))
        have hd1l : d1 < ys.length := by have := Int.emod_lt_of_pos m1 (show (0 : Int) < (ys.length : Int) by omega); omega
        rw [hd1]
        refine rd_ixL (SqL.of LD3) (atI_nat (map_get (fun n : Nat => V.int (n : Int)) (at_get hd1l))) ?_
        walk_at "rd"
        refine rd_append hf (by rw [List.length_map]; exact small1000 (by omega)) ?_
        walk_at "rd"
        refine ⟨fs ++ [ys[d1]], _, rfl, same_put s3 hpf, by rw [upd_same, List.map_append]; rfl, by simp [hfl], fun y hy' => ?_⟩
        rcases List.mem_append.mp hy' with hy' | hy'
        · exact hfs y hy'
        · rw [List.mem_singleton] at hy'; subst hy'; exact hy _ (List.getElem_mem hd1l)
      · rintro σ H' ⟨fs, x10, rfl, s3, hf, hfl, hfs⟩
        exact ⟨fs, x10, rfl, s3, hf, hfl, hfs⟩
    rintro σ H3 ⟨fs, x10, rfl, s3, hf, hfl, hfs⟩
    have s13 := s2.trans s3
    have pick4 : ∀ z : Int, 0 ≤ z → z < 4 → ∃ (n : Nat) (U : Sq), atI (fs.map fun n : Nat => V.int (n : Int)) z = some (.int (n : Int)) ∧ n ∈ pool ∧ sq[n]? = some U ∧ U.level = S.level := fun z h0 h4 => by
      obtain ⟨d, rfl⟩ := nat z h0
      have hd : d < fs.length := by omega
      obtain ⟨h1, U, h2, h3⟩ := hfs _ (List.getElem_mem hd)
      exact ⟨fs[d], U, atI_nat (map_get (fun n : Nat => V.int (n : Int)) (at_get hd)), h1, h2, h3⟩
    obtain ⟨na, A, ia, pa, ea, la⟩ := pick4 (pick % 4) (by omega) (by omega)
    obtain ⟨nb, B, ib, pb, eb, lb⟩ := pick4 (pick / 4 % 4) (by omega) (by omega)
    obtain ⟨nc, C', ic, pc, ec, lc⟩ := pick4 (pick / 16 % 4) (by omega) (by omega)
    obtain ⟨nd, D', id_, pd, ed, ld⟩ := pick4 (pick / 64 % 4) (by omega) (by omega)
    walk_at "rd"
    refine rd_ixL (SqL.of hf) ia ?_
    walk_at "rd"
    refine rd_ixL (SqL.of hf) ib ?_
    walk_at "rd"
    refine rd_ixL (SqL.of hf) ic ?_
    walk_at "rd"
    refine rd_ixL (SqL.of hf) id_ ?_
    walk_at "rd"
    refine rd_new (hn := by show 4 ≤ sizeLine; decide) fun u hu' => ?_
    have su := same_upd (o := HO.tup [V.int (na : Int), V.int (nb : Int), V.int (nc : Int), V.int (nd : Int)]) hu'
    have hU : (upd H3 u (HO.tup [V.int (na : Int), V.int (nb : Int), V.int (nc : Int), V.int (nd : Int)])) u = some (.tup [V.int (na : Int), V.int (nb : Int), V.int (nc : Int), V.int (nd : Int)]) := upd_same
    have sA := s13.trans su
    generalize upd H3 u (HO.tup [V.int (na : Int), V.int (nb : Int), V.int (nc : Int), V.int (nd : Int)]) = H4 at su hU sA ⊢
    walk_at "rd"
    have el : (S.level : Int) + 1 = (((Sq.node A B C' D').level : Nat) : Int) := by show _ = ((A.level + 1 : Nat) : Int); omega
    rw [el]
    have wfa := D.wf A (List.mem_of_getElem? ea)
    have wfb := D.wf B (List.mem_of_getElem? eb)
    have wfc := D.wf C' (List.mem_of_getElem? ec)
    have wfd := D.wf D' (List.mem_of_getElem? ed)
    refine ⟨di, ro, u, mk, rs, sq, .node A B C' D', [(na : Int), (nb : Int), (nc : Int), (nd : Int)], rfl, sA _ _ hdi, sA _ _ hro, D.keep (Tup.of sA), hU, ⟨na, nb, nc, nd, rfl, ea, eb, ec, ed⟩, ⟨wfa, wfb, wfc, wfd, by omega, by omega, by omega⟩, by omega, fun H5 mk5 rs5 sq5 n5 a1 a2 a3 a4 a5 a6 a7 => ?_⟩
    have hU5 := a7.tup (fun b hb ys e => by
      simp only [List.mem_cons, List.not_mem_nil, or_false] at hb
      rcases hb with rfl | rfl
      · rw [sA _ _ hdi] at e; cases e
      · rw [sA _ _ hro] at e; cases e) _ _ hU
    walk_at "rd"
    refine rd_new (hn := by show 3 ≤ sizeLine; decide) fun t ht => ?_
    have st := same_upd (o := HO.tup [V.str (Str.ofString "joined"), V.ref u, V.int (n5 : Int)]) ht
    refine k _ mk5 rs5 sq5 t n5 (.join na nb nc nd) (st _ _ a1) (st _ _ a2) (a3.keep (Tup.of st)) a4 (by omega) (((fr_of sA).trans a7).trans (fr_of st)) ⟨u, upd_same, st _ _ hU5⟩ ⟨A, B, C', D', pre_get a4 ea, pre_get a4 eb, pre_get a4 ec, pre_get a4 ed, by omega, by omega, by omega, by omega, a6⟩ fun x hx => ?_
    simp only [DdUse, List.mem_cons, List.not_mem_nil, or_false] at hx
    rcases hx with rfl | rfl | rfl | rfl <;> assumption
/-! #### a deed done in a grove -/
theorem GAt.frS {C : Addr} {H H' : Hp} {a : GA} {rows : List (Int × Addr)} {q : List Sq} {S : List Addr} (G : GAt C H a rows q) (f : Fr S H H') (h : ∀ b ∈ S, b ∉ a.muts rows ∧ ∀ o, H b = some o → ¬ HO.still o) : GAt C H' a rows q :=
  G.keep fun b o e k => f b o e fun z => k.elim ((h b z).2 o e) (h b z).1
theorem kn_get {sq q : List Sq} {kn : List (Nat × Nat)} (h : KnOk sq q kn) {n : Nat} {S : Sq} (e : sq[n]? = some S) (hin : ∃ m, (n, m) ∈ kn) : ∃ m : Nat, valV (knT kn) (Sum.inl (n : Int)) = some (.int (m : Int)) ∧ q[m]? = some S := by
  obtain ⟨m, hm⟩ := hin
  obtain ⟨v, hv⟩ := knT_there hm
  obtain ⟨m', hm', rfl⟩ := knT_look hv
  obtain ⟨S', a, b⟩ := h _ hm'
  rw [e] at a
  cases a
  exact ⟨m', hv, b⟩
def sp_done (C : Addr) : Sp := fun vs H Q _ => ∃ (a : GA) (rows : List (Int × Addr)) (q : List Sq) (t : Addr) (n : Nat) (d : Dd) (dk : Addr) (kn : List (Nat × Nat)) (sq : List Sq), vs = [.ref a.g, .ref t, .ref dk] ∧ GAt C H a rows q ∧ DdT H t n d ∧ DdOk sq n d ∧ H dk = some (.dK (knT kn)) ∧ KnOk sq q kn ∧ (∀ x ∈ DdUse d, ∃ m, (x, m) ∈ kn) ∧ q.length + 1000 < 16000000 ∧
  ∀ H' rows' q' (m : Nat) S, GStep C H a rows q H' rows' q' → q'.length ≤ q.length + 60 → q'[m]? = some S → sq[n]? = some S → Q (.int (m : Int)) H'
theorem mp_done {C : Addr} : MonP (sp_done C) := fun vs H Q Q' E h ⟨a, rows, q, t, n, d, dk, kn, sq, x1, x2, x3, x4, x5, x6, x7, x8, k⟩ => ⟨a, rows, q, t, n, d, dk, kn, sq, x1, x2, x3, x4, x5, x6, x7, x8, fun H' a b c d e f g i => h _ _ (k H' a b c d e f g i)⟩
set_option maxHeartbeats 16000000 in
theorem ok_done (T : Env fa fn K mg) : Good P w K mg base CX0 6 ("_law_done", none) ["_law_grove", "_law_deed_here", "_law_known"] (sp_done (CG K)) := by
  have G_Grove_leaf := ok_leaf (P := P) (w := w) (base := base) T
  have G_Grove_solid := ok_solid (P := P) (w := w) (base := base) T
  have G_Grove_quarters := ok_quarters (P := P) (w := w) (base := base) T
  have G_Grove_joined := ok_joined (P := P) (w := w) (base := base) T
  refine good_mk T 24 (d := d_w_done) (N := ["_law_grove", "_law_deed_here", "_law_known", "_law_four", "_law_one"]) (ps := ["_law_grove", "_law_deed_here", "_law_known"]) rfl rfl sc_w_done (fun _ _ _ _ _ _ us hl => match us, hl with | [_, _, _], _ => rfl) (fun vs H Q E h => ?_) (fun f cdv A0 outer s H vs Q E hr h => ?_)
  · obtain ⟨a, rows, q, t, n, d, dk, kn, sq, rfl, _⟩ := h; rfl
  · obtain ⟨a, rows, q, t, n, d, dk, kn, sq, rfl, G, hT, hok, hk, hK, hin, hlen, k⟩ := h
    have hu := hu_of hr
    refine ⟨_, (pss_cons (ps_if (pt_cmpR op_eq (pe_ix (ix_tupK K rfl) (pv 1) pe_int (fun _ _ => rfl)) pe_str (nomark _)) (pss_one (ps_ret (pe_mgK K rfl (pv 0) (T.cls 9) (T.meth 24) G_Grove_leaf (hr.mono (by decide)) (pa_cons (pe_ix (ix_tupK K rfl) (pe_ix (ix_tupK K rfl) (pv 1) pe_int (fun _ _ => rfl)) pe_int (fun _ _ => rfl)) pa_nil)))) pss_nil)
      (pss_cons (ps_if (pt_cmpR op_eq (pe_ix (ix_tupK K rfl) (pv 1) pe_int (fun _ _ => rfl)) pe_str (nomark _)) (pss_one (ps_ret (pe_mgK K rfl (pv 0) (T.cls 9) (T.meth 25) G_Grove_solid (hr.mono (by decide)) (pa_cons (pe_ix (ix_tupK K rfl) (pe_ix (ix_tupK K rfl) (pv 1) pe_int (fun _ _ => rfl)) pe_int (fun _ _ => rfl)) (pa_cons (pe_ix (ix_tupK K rfl) (pe_ix (ix_tupK K rfl) (pv 1) pe_int (fun _ _ => rfl)) pe_int (fun _ _ => rfl)) pa_nil))))) pss_nil)
      (pss_cons (ps_if (pt_cmpR op_eq (pe_ix (ix_tupK K rfl) (pv 1) pe_int (fun _ _ => rfl)) pe_str (nomark _)) (pss_cons (ps_set (i := 3) sc_w_done.nd rfl (Or.inl rfl) (pe_mgK K rfl (pv 0) (T.cls 9) (T.meth 26) G_Grove_quarters (hr.mono (by decide)) (pa_cons (pe_dget hu (pv 2) (pe_ix (ix_tupK K rfl) (pe_ix (ix_tupK K rfl) (pv 1) pe_int (fun _ _ => rfl)) pe_int (fun _ _ => rfl)) (fun _ _ => rfl)) pa_nil)))
      (pss_cons (ps_if (PW.pt (pw_or (pt_not (pt_val (pe_callB (call_isiK K rfl) (by rfl) (T.free 1) (by decide +kernel) (pa_cons (pv 3) (pa_cons (pe_bltn (v := V.ty "tuple") rfl (T.free 27) (by decide +kernel) rfl) pa_nil))))) (pw_or1 (pt_cmpR op_ne (pe_callB (call_lenK K rfl) (by rfl) (T.free 8) (by decide +kernel) (pa_cons (pv 3) pa_nil)) pe_int (nomark _))))) (pss_one (ps_ret pe_non)) pss_nil)
      (pss_one (ps_ret (pe_ix (ix_tupK K rfl) (pv 3) (pe_ix (ix_tupK K rfl) (pe_ix (ix_tupK K rfl) (pv 1) pe_int (fun _ _ => rfl)) pe_int (fun _ _ => rfl)) (fun _ _ => rfl)))))) pss_nil)
      (pss_cons (ps_setLc (i := 3) (own := [("_law_one", 4)]) (tt := tYes) rfl sc_w_done.nd rfl rfl (sw_true rfl rfl rfl (by decide +kernel)) (pi_tupK K rfl (pe_ix (ix_tupK K rfl) (pv 1) pe_int (fun _ _ => rfl))) (blkOk_by (own := [("_law_one", 4)]) (N := ["_law_grove", "_law_deed_here", "_law_known", "_law_four", "_law_one"]) (sc := defScope st_w_done) (by decide +kernel)) (fun _ _ _ _ _ => by exact (pg_name (i := 4) sc_w_done.nd rfl (Or.inl rfl))) (fun _ _ _ _ _ => by exact pts_nil) (fun _ _ _ _ _ => by exact (pe_dget hu (pv 2) (pv 4) (fun _ _ => rfl))))
      (pss_one (ps_ret (pe_mgK K rfl (pv 0) (T.cls 9) (T.meth 28) G_Grove_joined (hr.mono (by decide)) (pa_cons (pe_ix (ix_listK K rfl) (pv 3) pe_int (fun _ _ => rfl)) (pa_cons (pe_ix (ix_listK K rfl) (pv 3) pe_int (fun _ _ => rfl)) (pa_cons (pe_ix (ix_listK K rfl) (pv 3) pe_int (fun _ _ => rfl)) (pa_cons (pe_ix (ix_listK K rfl) (pv 3) pe_int (fun _ _ => rfl)) pa_nil))))))))))), ?_⟩
    have ne1 : ¬ Str.ofString "solid" = Str.ofString "leaf" := by decide +kernel
    have ne2 : ¬ Str.ofString "part" = Str.ofString "leaf" := by decide +kernel
    have ne3 : ¬ Str.ofString "part" = Str.ofString "solid" := by decide +kernel
    have ne4 : ¬ Str.ofString "joined" = Str.ofString "leaf" := by decide +kernel
    have ne5 : ¬ Str.ofString "joined" = Str.ofString "solid" := by decide +kernel
    have ne6 : ¬ Str.ofString "joined" = Str.ofString "part" := by decide +kernel
    cases d with
    | leaf st =>
      obtain ⟨u, ht, hu'⟩ := hT
      obtain ⟨s0, s7, hn⟩ := hok
      walk_at "rd"
      rw [decide_eq_true rfl]
      walk_at "rd"
      refine rd_methR G.ob (by rfl) ?_
      walk_at "rd"
      exact ⟨a, rows, q, st, rfl, G, s0, s7, by omega, fun H2 q2 m G2 p2 l2 hm f2 => k _ _ _ m _ ((GStep.refl G).m5 G2 p2 f2) (by omega) hm hn⟩
    | solid l st =>
      obtain ⟨u, ht, hu'⟩ := hT
      obtain ⟨hl, s0, s7, hn⟩ := hok
      walk_at "rd"
      rw [decide_eq_false ne1]
      walk_at "rd"
      rw [decide_eq_true rfl]
      walk_at "rd"
      refine rd_methR G.ob (by rfl) ?_
      walk_at "rd"
      exact ⟨a, rows, q, l, st, rfl, G, hl, s0, s7, by omega, fun H2 r2 q2 m S2 l2 hm => k _ _ _ m _ S2 (by omega) hm hn⟩
    | part b j =>
      obtain ⟨u, ht, hu'⟩ := hT
      obtain ⟨A, B, C', D', U, hb, hj, hn⟩ := hok
      obtain ⟨mb, hv, hmb⟩ := kn_get hK hb (hin b List.mem_cons_self)
      walk_at "rd"
      rw [decide_eq_false ne2]
      walk_at "rd"
      rw [decide_eq_false ne3]
      walk_at "rd"
      rw [decide_eq_true rfl]
      walk_at "rd"
      refine rd_methR G.ob (by rfl) ?_
      walk_at "rd"
      refine ⟨dk, .int (mb : Int), rfl, by rw [← hv]; exact DGet.k (k := Sum.inl (b : Int)) hk, ?_⟩
      walk_at "rd"
      refine ⟨a, rows, q, mb, A, B, C', D', rfl, G, hmb, by omega, fun tq x y z w' hq hx hy hz hw => ?_⟩
      walk_at "rd"
      refine rd_isiT hq ?_
      walk_at "rd"
      refine rd_lenT (SqT.of hq) ?_
      walk_at "rd"
      refine iteF ?_
      walk_at "rd"
      obtain ⟨m, hat, hm⟩ : ∃ m : Nat, atI [V.int (x : Int), .int (y : Int), .int (z : Int), .int (w' : Int)] ((j : Nat) : Int) = some (.int (m : Int)) ∧ q[m]? = some U := by
        match j, hj with
        | 0, hj => cases hj; exact ⟨x, atI_nat (j := 0) rfl, hx⟩
        | 1, hj => cases hj; exact ⟨y, atI_nat (j := 1) rfl, hy⟩
        | 2, hj => cases hj; exact ⟨z, atI_nat (j := 2) rfl, hz⟩
        | 3, hj => cases hj; exact ⟨w', atI_nat (j := 3) rfl, hw⟩
      refine rd_ixT (SqT.of hq) hat ?_
      exact k _ _ _ m _ (GStep.refl G) (by omega) hm hn
    | join na nb nc nd =>
      obtain ⟨u, ht, hu'⟩ := hT
      obtain ⟨A, B, C', D', ea, eb, ec, ed, l1, l2, l3, l4, hn⟩ := hok
      obtain ⟨ma, va, qa⟩ := kn_get hK ea (hin na (by simp [DdUse]))
      obtain ⟨mb, vb, qb⟩ := kn_get hK eb (hin nb (by simp [DdUse]))
      obtain ⟨mc, vc, qc⟩ := kn_get hK ec (hin nc (by simp [DdUse]))
      obtain ⟨md, vd, qd⟩ := kn_get hK ed (hin nd (by simp [DdUse]))
      walk_at "rd"
      rw [decide_eq_false ne4]
      walk_at "rd"
      rw [decide_eq_false ne5]
      walk_at "rd"
      rw [decide_eq_false ne6]
      walk_at "rd"
      refine ⟨u, rfl, ⟨_, SqT.of hu'⟩, fun D4 hD => ?_⟩
      have quad : ∀ (i : Nat) x, ([V.int (na : Int), .int (nb : Int), .int (nc : Int), .int (nd : Int)])[i]? = some x → ∃ (n m : Nat), x = .int (n : Int) ∧ valV (knT kn) (Sum.inl (n : Int)) = some (.int (m : Int)) ∧ [(ma : Int), (mb : Int), (mc : Int), (md : Int)][i]? = some (m : Int) := fun i x hx => by
        match i, hx with
        | 0, hx => cases hx; exact ⟨na, ma, rfl, va, rfl⟩
        | 1, hx => cases hx; exact ⟨nb, mb, rfl, vb, rfl⟩
        | 2, hx => cases hx; exact ⟨nc, mc, rfl, vc, rfl⟩
        | 3, hx => cases hx; exact ⟨nd, md, rfl, vd, rfl⟩
      refine lc_it (walk_tup (K := K) (a := u) (xs := [V.int (na : Int), .int (nb : Int), .int (nc : Int), .int (nd : Int)])) (fun i H' => Same H H' ∧ H' D4 = some (.lst (([(ma : Int), (mb : Int), (mc : Int), (md : Int)].take i).map V.int))) ⟨same_upd hD, upd_same⟩ (fun i H' _ h => SqT.of (h.1 _ _ hu')) ?_ ?_
      · rintro i x H2 H3 hi ⟨s2, LD⟩ ⟨rfl, hx⟩
        obtain ⟨n', m', rfl, hv, hl⟩ := quad i x hx
        walk_at "rd"
        refine ⟨rfl, ?_⟩
        walk_at "rd"
        refine ⟨dk, .int (m' : Int), rfl, by rw [← hv]; exact DGet.k (k := Sum.inl (n' : Int)) (s2 _ _ hk), ?_⟩
        refine ⟨_, LD, by have : ([V.int (na : Int), .int (nb : Int), .int (nc : Int), .int (nd : Int)]).length = 4 := rfl
                          rw [List.length_map, List.length_take]; exact small1000 (by omega), same_put s2 hD, ?_⟩
        rw [upd_same, take_snoc hl, List.map_append]; rfl
      · rintro H3 ⟨s3, LD⟩
        have LD' : H3 D4 = some (.lst [V.int (ma : Int), .int (mb : Int), .int (mc : Int), .int (md : Int)]) := LD
        have G3 := G.same s3
        walk_at "rd"
        refine rd_methR G3.ob (by rfl) ?_
        walk_at "rd"
        refine rd_ixL (SqL.of LD') (v := .int (ma : Int)) rfl ?_
        walk_at "rd"
        refine rd_ixL (SqL.of LD') (v := .int (mb : Int)) rfl ?_
        walk_at "rd"
        refine rd_ixL (SqL.of LD') (v := .int (mc : Int)) rfl ?_
        walk_at "rd"
        refine rd_ixL (SqL.of LD') (v := .int (md : Int)) rfl ?_
        walk_at "rd"
        refine ⟨a, rows, q, A, B, C', D', ma, mb, mc, md, rfl, G3, qa, qb, qc, qd, l1, l2, l3, l4, by omega, fun H4 q4 m S4 len4 hm _ => ?_⟩
        exact k _ _ _ m _ (((GStep.refl G).same s3).trans S4) (by omega) hm hn
def sp_looked (C : Addr) : Sp := fun vs H Q _ => ∃ (a : GA) (rows : List (Int × Addr)) (q : List Sq) (dk db ro : Addr) (kn bs : List (Nat × Nat)) (mk : List (List Int)) (rs : List Addr) (sq : List Sq), vs = [.ref a.g, .ref dk, .ref db, .ref ro] ∧ GAt C H a rows q ∧ H dk = some (.dK (knT kn)) ∧ H db = some (.dK (knT bs)) ∧ dk ≠ db ∧
  H ro = some (.lst (rs.map V.ref)) ∧ OwD H mk rs sq ∧ KnOk sq q kn ∧ KnOk q sq bs ∧ kn.length < 10000 ∧ bs.length < 10000 ∧ q.length + 1000 < 16000000 ∧ dk ∉ a.muts rows ∧ db ∉ a.muts rows ∧ ∀ H', Fr [dk, db] H H' → Q (.bl true) H'
theorem mp_looked {C : Addr} : MonP (sp_looked C) := fun vs H Q Q' E h ⟨a, rows, q, dk, db, ro, kn, bs, mk, rs, sq, x1, x2, x3, x4, x5, x6, x7, x8, x9, y1, y2, y3, y4, y5, k⟩ => ⟨a, rows, q, dk, db, ro, kn, bs, mk, rs, sq, x1, x2, x3, x4, x5, x6, x7, x8, x9, y1, y2, y3, y4, y5, fun H' f => h _ _ (k H' f)⟩
set_option maxHeartbeats 16000000 in
theorem ok_looked (T : Env fa fn K mg) : Good P w K mg base CX0 4 ("_law_looked", none) ["_law_grove", "_law_known", "_law_back", "_law_rows"] (sp_looked (CG K)) := by
  have G_w_same := ok_same (P := P) (w := w) (base := base) T
  have G_w_agreed := ok_agreed (P := P) (w := w) (base := base) T
  have G_Grove_level_of := ok_level_of (P := P) (w := w) (base := base) T
  have G_Grove_living := ok_living (P := P) (w := w) (base := base) T
  have G_Grove_state_of := ok_state_of (P := P) (w := w) (base := base) T
  have G_Grove_quarters := ok_quarters (P := P) (w := w) (base := base) T
  refine good_mk T 26 (d := d_w_looked) (N := ["_law_grove", "_law_known", "_law_back", "_law_rows", "_law_own_here", "_law_level", "_law_number_here", "_law_four", "_law_part", "_law_found"]) (ps := ["_law_grove", "_law_known", "_law_back", "_law_rows"]) rfl rfl sc_w_looked (fun _ _ _ _ _ _ us hl => match us, hl with | [_, _, _, _], _ => rfl) (fun vs H Q E h => ?_) (fun f cdv A0 outer s H vs Q E hr h => ?_)
  · obtain ⟨a, rows, q, dk, db, ro, kn, bs, mk, rs, sq, rfl, _⟩ := h; rfl
  · obtain ⟨a, rows, q, dk, db, ro, kn, bs, mk, rs, sq, rfl, G, hk, hb, hne, hro, D, hK, hB, lk, lb, lq, ok, ob, k⟩ := h
    have hu := hu_of hr
    refine ⟨_, (pss_cons (ps_for PassesOwn.never rfl (pi_listK K rfl (pe_callTy (call_list_dK rfl) (by rfl) (T.free 30) (by decide +kernel) (pa_cons (pv 1) pa_nil))) (pg_name (i := 4) sc_w_looked.nd rfl (Or.inl rfl)) (pss_cons (ps_set (i := 5) sc_w_looked.nd rfl (Or.inl rfl) (pe_ix (ix_tupK K rfl) (pe_ix (ix_listK K rfl) (pv 3) (pv 4) (fun _ _ => rfl)) pe_int (fun _ _ => rfl)))
      (pss_cons (ps_set (i := 6) sc_w_looked.nd rfl (Or.inl rfl) (pe_dget hu (pv 1) (pv 4) (fun _ _ => rfl)))
      (pss_cons (ps_if (PW.pt (pw_or (pt_not (pt_val (pe_cgK K rfl G_w_same (hr.mono (by decide)) (T.glo 31) (pa_cons (pe_mgK K rfl (pv 0) (T.cls 9) (T.meth 33) G_Grove_level_of (hr.mono (by decide)) (pa_cons (pv 6) pa_nil)) (pa_cons (pv 5) pa_nil))))) (pw_or1 (pt_not (pt_val (pe_cgK K rfl G_w_same (hr.mono (by decide)) (T.glo 31) (pa_cons (pe_mgK K rfl (pv 0) (T.cls 9) (T.meth 32) G_Grove_living (hr.mono (by decide)) (pa_cons (pv 6) pa_nil)) (pa_cons (pe_ix (ix_tupK K rfl) (pe_ix (ix_listK K rfl) (pv 3) (pv 4) (fun _ _ => rfl)) pe_int (fun _ _ => rfl)) pa_nil)))))))) (pss_one (ps_ret pe_bl)) pss_nil)
      (pss_cons (ps_if (PW.pt (pw_and (pt_cmpR op_eq (pv 5) pe_int (nomark _)) (pw_and1 (pt_not (pt_val (pe_cgK K rfl G_w_same (hr.mono (by decide)) (T.glo 31) (pa_cons (pe_mgK K rfl (pv 0) (T.cls 9) (T.meth 34) G_Grove_state_of (hr.mono (by decide)) (pa_cons (pv 6) pa_nil)) (pa_cons (pe_ix (ix_tupK K rfl) (pe_ix (ix_tupK K rfl) (pe_ix (ix_listK K rfl) (pv 3) (pv 4) (fun _ _ => rfl)) pe_int (fun _ _ => rfl)) pe_int (fun _ _ => rfl)) pa_nil)))))))) (pss_one (ps_ret pe_bl)) pss_nil)
      (pss_one (ps_if (pt_cmpR op_gt (pv 5) pe_int (nomark _)) (pss_cons (ps_set (i := 7) sc_w_looked.nd rfl (Or.inl rfl) (pe_mgK K rfl (pv 0) (T.cls 9) (T.meth 26) G_Grove_quarters (hr.mono (by decide)) (pa_cons (pv 6) pa_nil)))
      (pss_cons (ps_if (PW.pt (pw_or (pt_not (pt_val (pe_callB (call_isiK K rfl) (by rfl) (T.free 1) (by decide +kernel) (pa_cons (pv 7) (pa_cons (pe_bltn (v := V.ty "tuple") rfl (T.free 27) (by decide +kernel) rfl) pa_nil))))) (pw_or1 (pt_cmpR op_ne (pe_callB (call_lenK K rfl) (by rfl) (T.free 8) (by decide +kernel) (pa_cons (pv 7) pa_nil)) pe_int (nomark _))))) (pss_one (ps_ret pe_bl)) pss_nil)
      (pss_one (ps_for PassesOwn.never rfl (pi_zipAK K rfl (by rfl) (T.free 35) (pa_cons (pe_ix (ix_tupK K rfl) (pe_ix (ix_listK K rfl) (pv 3) (pv 4) (fun _ _ => rfl)) pe_int (fun _ _ => rfl)) (pa_cons (pv 7) pa_nil))) (pg_tup rfl (pgs_cons (pg_name (i := 8) sc_w_looked.nd rfl (Or.inl rfl)) (pgs_cons (pg_name (i := 9) sc_w_looked.nd rfl (Or.inl rfl)) pgs_nil))) (pss_one (ps_if (pt_not (pt_val (pe_cgK K rfl G_w_agreed (hr.mono (by decide)) (T.glo 36) (pa_cons (pv 1) (pa_cons (pv 2) (pa_cons (pv 8) (pa_cons (pv 9) pa_nil))))))) (pss_one (ps_ret pe_bl)) pss_nil)))))) pss_nil)))))))
      (pss_one (ps_ret pe_bl))), ?_⟩
    walk_at "rd"
    refine ⟨dk, _, rfl, hk, fun p hp => ?_⟩
    have s0 := same_upd (o := HO.lst ((knT kn).map fun kv => kV kv.1)) hp
    have Lp : (upd H p (HO.lst ((knT kn).map fun kv => kV kv.1))) p = _ := upd_same
    have f0 : Fr [dk, db] H (upd H p (HO.lst ((knT kn).map fun kv => kV kv.1))) := fr_of s0
    have npk : p ≠ dk := fun e => by rw [e, hk] at hp; cases hp
    have npb : p ≠ db := fun e => by rw [e, hb] at hp; cases hp
    have nrk : ro ≠ dk := ne_of hro hk (fun x => nomatch x)
    have nrb : ro ≠ db := ne_of hro hb (fun x => nomatch x)
    have hk0 := s0 _ _ hk
    have hb0 := s0 _ _ hb
    have hro0 := s0 _ _ hro
    have D0 := D.keep (Tup.of s0)
    have G0 := G.same s0
    have k0 : ∀ H', Fr [dk, db] (upd H p (HO.lst ((knT kn).map fun kv => kV kv.1))) H' → Q (.bl true) H' := fun H' f => k H' (f0.trans f)
    generalize upd H p (HO.lst ((knT kn).map fun kv => kV kv.1)) = H0 at Lp hk0 hb0 hro0 D0 G0 k0 ⊢
    have out2 : ∀ b ∈ [dk, db], b ∉ a.muts rows ∧ ∀ o, H0 b = some o → ¬ HO.still o := fun b hb' => by
      simp only [List.mem_cons, List.not_mem_nil, or_false] at hb'
      rcases hb' with rfl | rfl
      · exact ⟨ok, fun o e z => by rw [hk0] at e; cases e; exact z⟩
      · exact ⟨ob, fun o e z => by rw [hb0] at e; cases e; exact z⟩
    have noT : ∀ b ∈ [dk, db], ∀ ys, H0 b ≠ some (.tup ys) := fun b hb' ys e => (out2 b hb').2 _ e trivial
    have keepG : ∀ {H'}, Fr [dk, db] H0 H' → GAt (CG K) H' a rows q := fun f => G0.frS f out2
    have keepD : ∀ {H'}, Fr [dk, db] H0 H' → OwD H' mk rs sq := fun f => D0.keep (f.tup noT)
    have keepR : ∀ {H'}, Fr [dk, db] H0 H' → H' ro = some (.lst (rs.map V.ref)) := fun f => f _ _ hro0 (by simp [nrk, nrb])
    have keepP : ∀ {H'}, Fr [dk, db] H0 H' → H' p = some (.lst ((knT kn).map fun kv => kV kv.1)) := fun f => f _ _ Lp (by simp [npk, npb])
    refine ⟨p, rfl, ⟨_, SqL.of Lp⟩, ?_⟩
    have lkn : ((knT kn).map fun kv => kV kv.1).length = kn.length := by rw [List.length_map, knT, List.length_map]
    let J (c : Nat) (H' : Hp) (kn' bs' : List (Nat × Nat)) : Prop := H' dk = some (.dK (knT kn')) ∧ H' db = some (.dK (knT bs')) ∧ KnOk sq q kn' ∧ KnOk q sq bs' ∧ (∀ e ∈ kn, e ∈ kn') ∧ kn'.length ≤ kn.length + c ∧ bs'.length ≤ bs.length + c ∧ Fr [dk, db] H0 H'
    refine for_it (walk_list (xs := (knT kn).map fun kv => kV kv.1)) (fun i σ H' => ∃ (kn' bs' : List (Nat × Nat)) (x4 x5 x6 x7 x8 x9 : Option V), σ = [some (.ref a.g), some (.ref dk), some (.ref db), some (.ref ro), x4, x5, x6, x7, x8, x9] ∧ J (4 * i) H' kn' bs')
      ⟨kn, bs, none, none, none, none, none, none, rfl, hk0, hb0, hK, hB, fun e h => h, by omega, by omega, Fr.refl _ _⟩ ?_ ?_ ?_
    · rintro i σ H' _ ⟨kn', bs', _, _, _, _, _, _, _, j⟩
      exact SqL.of (keepP j.2.2.2.2.2.2.2)
    · rintro i x σ Ha Hb hi ⟨kn', bs', x4, x5, x6, x7, x8, x9, rfl, j⟩ ⟨rfl, hx⟩
      rw [lkn] at hi
      obtain ⟨⟨own, m0⟩, hm0⟩ : ∃ e, kn[i]? = some e := ⟨_, at_get hi⟩
      have ex : x = .int (own : Int) := by
        rw [List.getElem?_map, knT, List.getElem?_map, hm0] at hx
        exact (Option.some.inj hx).symm
      subst ex
      obtain ⟨jk, jb, jK, jB, jsub, jlk, jlb, jf⟩ := j
      obtain ⟨S, hS, _⟩ := hK _ (List.mem_of_getElem? hm0)
      obtain ⟨m', hv, hm'⟩ := kn_get jK hS ⟨m0, jsub _ (List.mem_of_getElem? hm0)⟩
      have GJ := keepG jf
      have DJ := keepD jf
      have RJ := keepR jf
      obtain ⟨r, mm, tp, hr1, hm1, hrow, ht1, hmade⟩ := DJ.get hS
      have ixr : atI (rs.map V.ref) ((own : Nat) : Int) = some (V.ref r) := atI_nat (map_get V.ref hr1)
      walk_at "rd"
      refine rd_ixL (SqL.of RJ) ixr ?_
      walk_at "rd"
      refine ⟨dk, .int (m' : Int), rfl, by rw [← hv]; exact DGet.k (k := Sum.inl (own : Int)) jk, ?_⟩
      walk_at "rd"
      refine rd_methR GJ.ob (by rfl) ?_
      walk_at "rd"
      refine ⟨a, rows, q, m', S, rfl, GJ, hm', by omega, ?_⟩
      walk_at "rd"
      refine sp_sameT ?_
      walk_at "rd"
      refine rd_methR GJ.ob (by rfl) ?_
      walk_at "rd"
      refine ⟨a, rows, q, m', S, rfl, GJ, hm', by omega, ?_⟩
      walk_at "rd"
      refine rd_ixL (SqL.of RJ) ixr ?_
      walk_at "rd"
      refine sp_sameT ?_
      walk_at "rd"
      cases S with
      | leaf st =>
        have em : mm = [st] := hmade
        subst em
        have ht1' : Hb tp = some (.tup [V.int st]) := ht1
        rw [decide_eq_true (show (((Sq.leaf st).level : Nat) : Int) = 0 from rfl)]
        walk_at "rd"
        refine rd_methR GJ.ob (by rfl) ?_
        walk_at "rd"
        refine ⟨a, rows, q, m', st, rfl, GJ, hm', by omega, ?_⟩
        walk_at "rd"
        refine rd_ixL (SqL.of RJ) ixr ?_
        walk_at "rd"
        refine sp_sameT ?_
        walk_at "rd"
        rw [decide_eq_false (show ¬ (((Sq.leaf st).level : Nat) : Int) > 0 from (by decide : ¬ ((0 : Nat) : Int) > 0))]
        walk_at "rd"
        exact ⟨kn', bs', _, _, _, _, _, _, rfl, jk, jb, jK, jB, jsub, by omega, by omega, jf⟩
      | node A B C' D' =>
        obtain ⟨na, nb, nc, nd, rfl, ea, eb, ec, ed⟩ := hmade
        have ht1' : Hb tp = some (.tup [V.int (na : Int), .int (nb : Int), .int (nc : Int), .int (nd : Int)]) := ht1
        have hlv : (((Sq.node A B C' D').level : Nat) : Int) = ((A.level + 1 : Nat) : Int) := rfl
        rw [decide_eq_false (show ¬ (((Sq.node A B C' D').level : Nat) : Int) = 0 by rw [hlv]; omega)]
        walk_at "rd"
        rw [decide_eq_true (show (((Sq.node A B C' D').level : Nat) : Int) > 0 by rw [hlv]; omega)]
        walk_at "rd"
        refine rd_methR GJ.ob (by rfl) ?_
        walk_at "rd"
        refine ⟨a, rows, q, m', A, B, C', D', rfl, GJ, hm', by omega, fun tq x y z u hq hx' hy' hz' hu' => ?_⟩
        walk_at "rd"
        refine rd_isiT hq ?_
        walk_at "rd"
        refine rd_lenT (SqT.of hq) ?_
        walk_at "rd"
        refine iteF ?_
        walk_at "rd"
        refine rd_iZA ?_
        walk_at "rd"
        refine rd_ixL (SqL.of RJ) ixr ?_
        walk_at "rd"
        refine ⟨tp, tq, _, _, rfl, .inr ⟨SqT.of ht1', SqT.of hq, ?_⟩⟩
        have tupF : ∀ {H'}, Fr [dk, db] Hb H' → Tup Hb H' := fun f => f.tup fun b hb' ys e => by
          simp only [List.mem_cons, List.not_mem_nil, or_false] at hb'
          rcases hb' with rfl | rfl
          · rw [jk] at e; cases e
          · rw [jb] at e; cases e
        refine RZ.for_zipT (xs := [V.int (na : Int), .int (nb : Int), .int (nc : Int), .int (nd : Int)]) (ys := [V.int (x : Int), .int (y : Int), .int (z : Int), .int (u : Int)]) rfl (fun c σ H' => ∃ (kn'' bs'' : List (Nat × Nat)) (x8 x9 : Option V), σ = [some (.ref a.g), some (.ref dk), some (.ref db), some (.ref ro), some (.int (own : Int)), some (.int ((Sq.node A B C' D').level : Int)), some (.int (m' : Int)), some (.ref tq), x8, x9] ∧ Fr [dk, db] Hb H' ∧ J (4 * i + c) H' kn'' bs'')
          ⟨kn', bs', x8, x9, rfl, Fr.refl _ _, jk, jb, jK, jB, jsub, jlk, jlb, jf⟩ ?_ ?_ ?_
        · rintro c σ H' ⟨_, _, _, _, _, f, _⟩
          exact ⟨SqT.of (tupF f _ _ ht1'), SqT.of (tupF f _ _ hq)⟩
        · rintro c vx vy T' σ H1 hcx hcy ⟨kn2, bs2, y8, y9, rfl, f1, j1⟩ hT'
          obtain ⟨j1k, j1b, j1K, j1B, j1s, j1l, j1m, j1f⟩ := j1
          obtain ⟨np, nf, U, rfl, rfl, hU1, hU2⟩ : ∃ (np nf : Nat) (U : Sq), vx = .int (np : Int) ∧ vy = .int (nf : Int) ∧ sq[np]? = some U ∧ q[nf]? = some U := by
            match c, hcx, hcy with
            | 0, hcx, hcy => cases hcx; cases hcy; exact ⟨na, x, A, rfl, rfl, ea, hx'⟩
            | 1, hcx, hcy => cases hcx; cases hcy; exact ⟨nb, y, B, rfl, rfl, eb, hy'⟩
            | 2, hcx, hcy => cases hcx; cases hcy; exact ⟨nc, z, C', rfl, rfl, ec, hz'⟩
            | 3, hcx, hcy => cases hcx; cases hcy; exact ⟨nd, u, D', rfl, rfl, ed, hu'⟩
          have hc4 : c < 4 := (List.getElem?_eq_some_iff.mp hcx).1
          have sT := same_upd (o := HO.tup [V.int (np : Int), V.int (nf : Int)]) hT'
          have hT2 : (upd H1 T' (HO.tup [V.int (np : Int), V.int (nf : Int)])) T' = some (.tup [V.int (np : Int), V.int (nf : Int)]) := upd_same
          walk_at "rd"
          refine ⟨dk, db, np, nf, kn2, bs2, sq, q, U, rfl, sT _ _ j1k, sT _ _ j1b, hne, j1K, j1B, hU1, hU2, D.nd, G.qn, by omega, by omega, by omega, fun H2 kn3 bs3 a1 a2 a3 a4 a5 a6 a7 a8 a9 => ?_⟩
          have fT := (fr_of (S := [dk, db]) sT).trans a9
          walk_at "rd"
          exact ⟨kn3, bs3, _, _, rfl, f1.trans fT, a1, a2, a3, a4, fun e h => a6 e (j1s e h), by omega, by omega, j1f.trans fT⟩
        · rintro σ H' ⟨kn2, bs2, y8, y9, rfl, f1, j1⟩
          obtain ⟨j1k, j1b, j1K, j1B, j1s, j1l, j1m, j1f⟩ := j1
          have h4 : ([V.int (na : Int), .int (nb : Int), .int (nc : Int), .int (nd : Int)]).length = 4 := rfl
          exact ⟨kn2, bs2, _, _, _, _, _, _, rfl, j1k, j1b, j1K, j1B, j1s, by omega, by omega, j1f⟩
    · rintro σ H' ⟨kn', bs', x4, x5, x6, x7, x8, x9, rfl, j⟩
      walk_at "rd"
      exact k0 _ j.2.2.2.2.2.2.2
/-! #### two groves beside own objects -/
theorem OwnO.fr2 {a : GA} {rows : List (Int × Addr)} {H H' : Hp} {l : List (Addr × HO)} {x y : Addr} {o1 o2 : HO} (h : OwnO a rows H l) (i j : Nat) (e1 : l[i]? = some (x, o1)) (e2 : l[j]? = some (y, o2)) (hij : i ≠ j) (o1' o2' : HO) (f : Fr [x, y] H H') (h1 : H' x = some o1') (h2 : H' y = some o2') (n1 : ¬ HO.still o1') (n2 : ¬ HO.still o2') :
    OwnO a rows H' ((l.set i (x, o1')).set j (y, o2')) := by
  have fs : ∀ (l : List (Addr × HO)) (i : Nat) (x : Addr) (o o' : HO), l[i]? = some (x, o) → (l.set i (x, o')).map (·.1) = l.map (·.1) := fun l i x o o' e => by
    rw [List.map_set]
    obtain ⟨hi, ei⟩ := List.getElem?_eq_some_iff.mp e
    refine List.ext_getElem (by simp) fun k a1 a2 => ?_
    by_cases z : i = k
    · subst z; simp [ei]
    · rw [List.getElem_set_ne z]
  have e2' : (l.set i (x, o1'))[j]? = some (y, o2) := by rw [List.getElem?_set_ne hij]; exact e2
  have nd' : ((l.set i (x, o1')).set j (y, o2')).map (·.1) = l.map (·.1) := (fs _ j y o2 o2' e2').trans (fs _ i x o1 o1' e1)
  have cs : ∀ p u, (p, u) ∈ (l.set i (x, o1')).set j (y, o2') → (H' p = some u ∧ ¬ HO.still u) ∧ ∃ u', (p, u') ∈ l := fun p u m => by
    rcases mem_set m with m | ⟨k, hk, m⟩
    · cases m; exact ⟨⟨h2, n2⟩, o2, List.mem_of_getElem? e2⟩
    · by_cases z : i = k
      · subst z
        rw [List.getElem?_set_self (List.getElem?_eq_some_iff.mp e1).1] at m
        cases m
        exact ⟨⟨h1, n1⟩, o1, List.mem_of_getElem? e1⟩
      · rw [List.getElem?_set_ne z] at m
        have nx : p ≠ x := h.ne e1 m (Ne.symm z)
        have ny : p ≠ y := h.ne e2 m hk
        exact ⟨⟨f _ _ (h.ix k m) (by simp [nx, ny]), h.mv _ _ (List.mem_of_getElem? m)⟩, u, List.mem_of_getElem? m⟩
  exact ⟨by rw [nd']; exact h.nd, fun p u m => (cs p u m).1.1, fun p u m => (cs p u m).1.2, fun p u m => let ⟨u', m'⟩ := (cs p u m).2; h.out p u' m'⟩
theorem GAt.muts_some {C : Addr} {H : Hp} {a : GA} {rows : List (Int × Addr)} {q : List Sq} (G : GAt C H a rows q) {b : Addr} (h : b ∈ a.muts rows) : ∃ o, H b = some o ∧ ¬ HO.still o := by
  cases e : H b with
  | none => exact absurd h (G.new_out e)
  | some o =>
    refine ⟨o, rfl, fun z => ?_⟩
    obtain ⟨tups, mk, spt, D⟩ := G.da
    unfold GA.muts GA.m5 at h
    simp only [List.cons_append, List.nil_append, List.mem_cons, List.mem_map] at h
    rcases h with rfl | rfl | rfl | rfl | rfl | rfl | ⟨sa, hm, rfl⟩
    · rw [D.hn] at e; cases e; exact z
    · rw [D.hm] at e; cases e; exact z
    · rw [D.hl] at e; cases e; exact z
    · rw [D.hv] at e; cases e; exact z
    · rw [D.hs] at e; cases e; exact z
    · rw [G.pl] at e; cases e; exact z
    · obtain ⟨ns, e', _⟩ := G.ro sa.1 sa.2 hm
      rw [e'] at e; cases e; exact z
structure W2 (C : Addr) (H : Hp) (a b : GA) (ra rb : List (Int × Addr)) (qa qb : List Sq) (l : List (Addr × HO)) : Prop where
  ga : GAt C H a ra qa
  gb : GAt C H b rb qb
  oa : OwnO a ra H l
  ob : OwnO b rb H l
  dj : ∀ x ∈ a.muts ra, x ∉ b.muts rb
section
variable {C : Addr} {H H' : Hp} {a b : GA} {ra rb r' : List (Int × Addr)} {qa qb q' : List Sq} {l : List (Addr × HO)}
theorem W2.symm (w : W2 C H a b ra rb qa qb l) : W2 C H b a rb ra qb qa l := ⟨w.gb, w.ga, w.ob, w.oa, fun x h1 h2 => w.dj x h2 h1⟩
theorem W2.stepA (w : W2 C H a b ra rb qa qb l) (s : GStep C H a ra qa H' r' q') : W2 C H' a b r' rb q' qb l := by
  refine ⟨s.gat, w.gb.keep fun c o e h => s.fr c o e fun z => ?_, w.oa.step s, ⟨w.ob.nd, (w.oa.step s).at_, w.ob.mv, w.ob.out⟩, fun x h1 h2 => ?_⟩
  · rcases h with h | h
    · obtain ⟨o', e', n⟩ := w.ga.muts_some z
      rw [e] at e'; cases e'; exact n h
    · exact w.dj c z h
  · rcases s.new x h1 with z | z
    · exact w.dj x z h2
    · obtain ⟨o, e, _⟩ := w.gb.muts_some h2
      rw [e] at z; cases z
theorem W2.stepB (w : W2 C H a b ra rb qa qb l) (s : GStep C H b rb qb H' r' q') : W2 C H' a b ra r' qa q' l := (w.symm.stepA s).symm
theorem W2.same (w : W2 C H a b ra rb qa qb l) (s : Same H H') : W2 C H' a b ra rb qa qb l := ⟨w.ga.same s, w.gb.same s, w.oa.same s, w.ob.same s, w.dj⟩
theorem W2.new {p : Addr} {o : HO} (w : W2 C H a b ra rb qa qb l) (hp : H p = none) (ho : ¬ HO.still o) : W2 C (upd H p o) a b ra rb qa qb ((p, o) :: l) := ⟨w.ga.same (same_upd hp), w.gb.same (same_upd hp), w.oa.new w.ga hp ho, w.ob.new w.gb hp ho, w.dj⟩
theorem W2.put {p : Addr} {o : HO} (w : W2 C H a b ra rb qa qb l) (i : Nat) (e : l[i]? = some (p, o)) (o' : HO) (ho : ¬ HO.still o') : W2 C (upd H p o') a b ra rb qa qb (l.set i (p, o')) := ⟨w.ga.ownO w.oa i e o', w.gb.ownO w.ob i e o', w.oa.put i e o' ho, w.ob.put i e o' ho, w.dj⟩
theorem W2.ix {p : Addr} {o : HO} (w : W2 C H a b ra rb qa qb l) (i : Nat) (e : l[i]? = some (p, o)) : H p = some o := w.oa.ix i e
theorem W2.ne {p p' : Addr} {o o' : HO} (w : W2 C H a b ra rb qa qb l) (i j : Nat) (e : l[i]? = some (p, o)) (e' : l[j]? = some (p', o')) (n : j ≠ i) : p' ≠ p := w.oa.ne e e' n
theorem W2.nt {p : Addr} {o : HO} (w : W2 C H a b ra rb qa qb l) (i : Nat) (e : l[i]? = some (p, o)) (ys : List V) : H p ≠ some (.tup ys) := fun z => by
  rw [w.ix i e] at z
  cases z
  exact w.oa.mv _ _ (List.mem_of_getElem? e) trivial
theorem W2.two {x y : Addr} {o1 o2 : HO} (w : W2 C H a b ra rb qa qb l) (i j : Nat) (e1 : l[i]? = some (x, o1)) (e2 : l[j]? = some (y, o2)) : ∀ c ∈ [x, y], (c ∉ a.muts ra ∧ ∀ o, H c = some o → ¬ HO.still o) ∧ (c ∉ b.muts rb ∧ ∀ o, H c = some o → ¬ HO.still o) := fun c hc => by
  simp only [List.mem_cons, List.not_mem_nil, or_false] at hc
  rcases hc with rfl | rfl
  · have n : ∀ o, H c = some o → ¬ HO.still o := fun o e => by rw [w.ix i e1] at e; cases e; exact w.oa.mv _ _ (List.mem_of_getElem? e1)
    exact ⟨⟨w.oa.out _ _ (List.mem_of_getElem? e1), n⟩, w.ob.out _ _ (List.mem_of_getElem? e1), n⟩
  · have n : ∀ o, H c = some o → ¬ HO.still o := fun o e => by rw [w.ix j e2] at e; cases e; exact w.oa.mv _ _ (List.mem_of_getElem? e2)
    exact ⟨⟨w.oa.out _ _ (List.mem_of_getElem? e2), n⟩, w.ob.out _ _ (List.mem_of_getElem? e2), n⟩
theorem W2.fr2 {x y : Addr} {o1 o2 : HO} (w : W2 C H a b ra rb qa qb l) (i j : Nat) (e1 : l[i]? = some (x, o1)) (e2 : l[j]? = some (y, o2)) (hij : i ≠ j) (o1' o2' : HO) (f : Fr [x, y] H H') (h1 : H' x = some o1') (h2 : H' y = some o2') (n1 : ¬ HO.still o1') (n2 : ¬ HO.still o2') :
    W2 C H' a b ra rb qa qb ((l.set i (x, o1')).set j (y, o2')) :=
  ⟨w.ga.frS f fun c hc => (w.two i j e1 e2 c hc).1, w.gb.frS f fun c hc => (w.two i j e1 e2 c hc).2, w.oa.fr2 i j e1 e2 hij o1' o2' f h1 h2 n1 n2, w.ob.fr2 i j e1 e2 hij o1' o2' f h1 h2 n1 n2, w.dj⟩
theorem W2.frT {x y : Addr} {o1 o2 : HO} (w : W2 C H a b ra rb qa qb l) (i j : Nat) (e1 : l[i]? = some (x, o1)) (e2 : l[j]? = some (y, o2)) (f : Fr [x, y] H H') : Tup H H' := f.tup fun c hc ys => by
  simp only [List.mem_cons, List.not_mem_nil, or_false] at hc
  rcases hc with rfl | rfl
  · exact w.nt i e1 ys
  · exact w.nt j e2 ys
end
end
end JF

/-! ### law k15: the law itself -/
namespace JF
open PySem PySem.Spec PyProof.Rows L2
section
variable {P : Program} {w : World} {K : PySem.W.Frag} {mg : Str → Option Value} {base : Heap}
/-- deeds that stand by -/
def Stand (H : Hp) (sq : List Sq) (deeds : List Addr) : Prop := ∀ t ∈ deeds, ∃ (n : Nat) (d : Dd), DdT H t n d ∧ DdOk sq n d ∧ DdUse d = []
theorem Stand.keep {H H' : Hp} {sq sq' : List Sq} {deeds : List Addr} (h : Stand H sq deeds) (k : Tup H H') (p : sq <+: sq') : Stand H' sq' deeds := fun t ht => let ⟨n, d, h1, h2, h3⟩ := h t ht; ⟨n, d, h1.keep k, h2.pre p, h3⟩
def Known (kn0 kn1 : List (Nat × Nat)) (pool : List Nat) : Prop := ∀ n ∈ pool, (∃ m, (n, m) ∈ kn0) ∧ ∃ m, (n, m) ∈ kn1
theorem DdT.top {H : Hp} {t : Addr} {n : Nat} {d : Dd} (h : DdT H t n d) : ∃ z u, H t = some (.tup [.str z, .ref u, .int (n : Int)]) := by
  cases d <;> (obtain ⟨u, h1, _⟩ := h; exact ⟨_, u, h1⟩)
theorem inV_nats (i : Nat) (ns : List Nat) : inV (.int (i : Int)) (ns.map fun n : Nat => V.int (n : Int)) = decide (i ∈ ns) := by
  induction ns with
  | nil => rfl
  | cons n ns ih =>
    have e : inV (.int (i : Int)) ((n :: ns).map fun n : Nat => V.int (n : Int)) = (eqV (.int (n : Int)) (.int (i : Int)) || inV (.int (i : Int)) (ns.map fun n : Nat => V.int (n : Int))) := rfl
    rw [e, ih]
    by_cases h : i = n
    · subst h
      have : eqV (.int (i : Int)) (.int (i : Int)) = true := by simp [eqV]
      simp [this]
    · have h' : (n : Int) ≠ (i : Int) := fun z => h (by omega)
      have : eqV (.int (n : Int)) (.int (i : Int)) = false := by simp [eqV, h']
      simp [this, h]
theorem flat_nats (ns : List Nat) : (ns.map fun n : Nat => V.int (n : Int)).all flatV = true := by
  induction ns with
  | nil => rfl
  | cons n ns ih => exact ih
theorem scN {H H1 : Hp} {a0 p : Addr} {o' : HO} (s : ∀ o, H a0 = some o → H1 a0 = some o) (h : H1 p = none) : ∀ o, H a0 = some o → (upd H1 p o') a0 = some o := fun o e => same_upd h _ _ (s o e)
abbrev LL (lc dd pl ro di bb b1 b0 kk k1 k0 lg : Addr) (xs : List V) (deeds : List Addr) (pool : List Nat) (rs : List Addr) (mk : List (List Int)) (bs1 bs0 kn1 kn0 : List (Nat × Nat)) (a b : Addr) : List (Addr × HO) :=
  [(lc, .lst xs), (dd, .lst (deeds.map V.ref)), (pl, .lst (pool.map fun n : Nat => V.int (n : Int))), (ro, .lst (rs.map V.ref)), (di, .dT (kvsOf mk 0)), (bb, .lst [V.ref b0, V.ref b1]), (b1, .dK (knT bs1)), (b0, .dK (knT bs0)), (kk, .lst [V.ref k0, V.ref k1]), (k1, .dK (knT kn1)), (k0, .dK (knT kn0)), (lg, .lst [V.ref a, V.ref b])]
def lawLevel : Nat := 8
set_option maxHeartbeats 32000000 in
theorem ok_law (T : Env fa fn K mg) : Good P w K mg base CX0 lawLevel ("law", none) ["_law_script"] (sp_law K) := by
  have G_Grove_init := ok_ginit (P := P) (w := w) (base := base) T
  have G_Grove_solid := ok_solid (P := P) (w := w) (base := base) T
  have G_w_even := ok_evenO (P := P) (w := w) (base := base) T
  have G_w_deed := ok_deed (P := P) (w := w) (base := base) T
  have G_w_agreed := ok_agreed (P := P) (w := w) (base := base) T
  have G_w_done := ok_done (P := P) (w := w) (base := base) T
  have G_w_looked := ok_looked (P := P) (w := w) (base := base) T
  refine good_mk T 27 (d := d_law) (N := ["_law_script", "_law_groves", "_law_known", "_law_back", "_law_ids", "_law_rows", "_law_pool", "_law_deeds", "_law_cell", "_law_deed_here", "_law_k"]) (ps := ["_law_script"]) rfl rfl sc_law (fun _ _ _ _ _ _ us hl => match us, hl with | [_], _ => rfl) (fun vs H Q E h => ?_) (fun f cdv A outer σ0 H vs Q E hr h => ?_)
  · obtain ⟨a, ns, rfl, _⟩ := h; rfl
  · obtain ⟨a0, ns, rfl, hS, hlen, hO, k⟩ := h
    have hu := hu_of hr
    have hsz := sizeBig
    have mp1 := mp_deed
    have mp2 := mp_agreed
    have mp3 := @mp_done (CG K)
    have mpop : MonM rPop := fun x vs H Q Q' h ⟨l, xs, y, e1, e2, e3, e4, q⟩ => ⟨l, xs, y, e1, e2, e3, e4, h _ _ q⟩
    refine ⟨_, (pss_cons (ps_set (i := 1) sc_law.nd rfl (Or.inl rfl) (pe_lst (pa_cons (pe_mk0K K rfl (T.mkr 37) G_Grove_init (hr.mono (by decide)) (T.glo 38)) (pa_cons (pe_mk0K K rfl (T.mkr 37) G_Grove_init (hr.mono (by decide)) (T.glo 38)) pa_nil))))
      (pss_cons (ps_expr (pe_mgK K rfl (pe_ix (ix_listK K rfl) (pv 1) pe_int (fun _ _ => rfl)) (T.cls 9) (T.meth 25) G_Grove_solid (hr.mono (by decide)) (pa_cons pe_int (pa_cons pe_int pa_nil))))
      (pss_cons (ps_set (i := 2) sc_law.nd rfl (Or.inl rfl) (pe_lst (pa_cons pe_dnewK (pa_cons pe_dnewK pa_nil))))
      (pss_cons (ps_set (i := 3) sc_law.nd rfl (Or.inl rfl) (pe_lst (pa_cons pe_dnewK (pa_cons pe_dnewK pa_nil))))
      (pss_cons (ps_set (i := 4) sc_law.nd rfl (Or.inl rfl) pe_dnewT)
      (pss_cons (ps_set (i := 5) sc_law.nd rfl (Or.inl rfl) (pe_lst pa_nil))
      (pss_cons (ps_set (i := 6) sc_law.nd rfl (Or.inl rfl) (pe_lst pa_nil))
      (pss_cons (ps_set (i := 7) sc_law.nd rfl (Or.inl rfl) (pe_lst (pa_cons (pe_tup (pa_cons pe_str (pa_cons (pe_tup (pa_cons pe_int pa_nil)) (pa_cons (pe_cgK K rfl G_w_even (hr.mono (by decide)) (T.glo 22) (pa_cons (pv 4) (pa_cons (pv 5) (pa_cons pe_int (pa_cons pe_int pa_nil))))) pa_nil)))) (pa_cons (pe_tup (pa_cons pe_str (pa_cons (pe_tup (pa_cons pe_int pa_nil)) (pa_cons (pe_cgK K rfl G_w_even (hr.mono (by decide)) (T.glo 22) (pa_cons (pv 4) (pa_cons (pv 5) (pa_cons pe_int (pa_cons pe_int pa_nil))))) pa_nil)))) pa_nil))))
      (pss_cons (ps_for PassesOwn.never rfl (pi_listK K rfl (pe_op op_cat (pe_lst (pa_cons pe_int (pa_cons pe_int pa_nil))) (pe_slice (sl_listK K rfl) (pv 0) po_none (po_some pe_int)))) (pg_name (i := 8) sc_law.nd rfl (Or.inl rfl)) (pss_cons (ps_if (pt_cmpR op_gt (pe_callB (call_lenK K rfl) (by rfl) (T.free 8) (by decide +kernel) (pa_cons (pv 7) pa_nil)) pe_int (nomark _)) (pss_one (ps_set (i := 9) sc_law.nd rfl (Or.inl rfl) (pe_bm0 PySem.F.plainAttrs_list PySem.F.slot_list_pop PySem.F.type_list_pop mt_pop (pv 7)))) (pss_one (ps_set (i := 9) sc_law.nd rfl (Or.inl rfl) (pe_cgK K rfl G_w_deed (hr.mono (by decide)) (T.glo 39) (pa_cons (pv 8) (pa_cons (pv 4) (pa_cons (pv 5) (pa_cons (pv 6) pa_nil))))))))
      (pss_cons (ps_for PassesOwn.never rfl (pi_range1 (by rfl) (T.free 21) (pa_cons pe_int pa_nil)) (pg_name (i := 10) sc_law.nd rfl (Or.inl rfl)) (pss_one (ps_if (pt_not (pt_val (pe_cgK K rfl G_w_agreed (hr.mono (by decide)) (T.glo 36) (pa_cons (pe_ix (ix_listK K rfl) (pv 2) (pv 10) (fun _ _ => rfl)) (pa_cons (pe_ix (ix_listK K rfl) (pv 3) (pv 10) (fun _ _ => rfl)) (pa_cons (pe_ix (ix_tupK K rfl) (pv 9) pe_int (fun _ _ => rfl)) (pa_cons (pe_cgK K rfl G_w_done (hr.mono (by decide)) (T.glo 40) (pa_cons (pe_ix (ix_listK K rfl) (pv 1) (pv 10) (fun _ _ => rfl)) (pa_cons (pv 9) (pa_cons (pe_ix (ix_listK K rfl) (pv 2) (pv 10) (fun _ _ => rfl)) pa_nil)))) pa_nil))))))) (pss_one (ps_ret pe_bl)) pss_nil)))
      (pss_one (ps_if (pt_cmpR (op_notInK K rfl) (pe_ix (ix_tupK K rfl) (pv 9) pe_int (fun _ _ => rfl)) (pv 6) (by first | exact nomark _ | rfl)) (pss_one (ps_expr (pe_bm PySem.F.plainAttrs_list PySem.F.slot_list_append PySem.F.type_list_append mt_append (pv 6) (pa_cons (pe_ix (ix_tupK K rfl) (pv 9) pe_int (fun _ _ => rfl)) pa_nil)))) pss_nil)))))
      (pss_one (ps_ret (pe_and (pe_cgK K rfl G_w_looked (hr.mono (by decide)) (T.glo 41) (pa_cons (pe_ix (ix_listK K rfl) (pv 1) pe_int (fun _ _ => rfl)) (pa_cons (pe_ix (ix_listK K rfl) (pv 2) pe_int (fun _ _ => rfl)) (pa_cons (pe_ix (ix_listK K rfl) (pv 3) pe_int (fun _ _ => rfl)) (pa_cons (pv 5) pa_nil))))) (pe_one (pe_cgK K rfl G_w_looked (hr.mono (by decide)) (T.glo 41) (pa_cons (pe_ix (ix_listK K rfl) (pv 1) pe_int (fun _ _ => rfl)) (pa_cons (pe_ix (ix_listK K rfl) (pv 2) pe_int (fun _ _ => rfl)) (pa_cons (pe_ix (ix_listK K rfl) (pv 3) pe_int (fun _ _ => rfl)) (pa_cons (pv 5) pa_nil)))))))))))))))))), ?_⟩
    walk_at "rd"
    refine rd_grove fun a H1 G1 hnew1 sm1 => ?_
    walk_at "rd"
    refine rd_grove fun b H2 Gb hnew2 sm2 => ?_
    have Ga := G1.same sm2
    have dj0 : ∀ x ∈ a.muts [], x ∉ b.muts [] := fun x h1 h2 => by
      obtain ⟨o, e, _⟩ := G1.muts_some h1
      rw [hnew2 x h2] at e; cases e
    have W0 : W2 (CG K) H2 a b [] [] [] [] [] := ⟨Ga, Gb, OwnO.nil, OwnO.nil, dj0⟩
    have sc2 : ∀ o, H a0 = some o → H2 a0 = some o ∧ a0 ∉ b.muts [] := fun o e => ⟨sm2 _ _ (sm1 _ _ e), fun z => by have y := sm1 _ _ e; rw [hnew2 _ z] at y; cases y⟩
    walk_at "rd"
    refine rd_new (hn := by show 2 ≤ sizeLine; decide) fun lg hlg => ?_
    have W1 := W0.new (o := .lst [V.ref a.g, V.ref b.g]) hlg (fun z => z)
    have sc1 : ∀ o, H a0 = some o → (upd H2 lg (.lst [V.ref a.g, V.ref b.g])) a0 = some o ∧ a0 ∉ b.muts [] := fun o e => ⟨same_upd hlg _ _ (sc2 o e).1, (sc2 o e).2⟩
    generalize upd H2 lg (HO.lst [V.ref a.g, V.ref b.g]) = Hl at W1 sc1 ⊢
    walk_at "rd"
    refine rd_ixL (SqL.of (W1.ix 0 rfl)) (v := .ref b.g) (atI_nat (j := 1) rfl) ?_
    refine rd_methR W1.gb.ob (by rfl) ?_
    walk_at "rd"
    refine ⟨b, [], [], 3, 5, rfl, W1.gb, by decide, by decide, by decide, by decide, fun H3 rb3 qb3 m3 st3 len3 hm3 => ?_⟩
    have W2' := W1.stepB st3
    have sc3 : ∀ o, H a0 = some o → H3 a0 = some o := fun o e => st3.fr _ _ (sc1 o e).1 (sc1 o e).2
    walk_at "rd"
    intro k0 hk0
    have W_k0 := W2'.new (o := .dK []) hk0 (fun z => z)
    have sc_k0 := scN (o' := .dK []) sc3 hk0
    clear hk0
    generalize upd H3 k0 (HO.dK []) = H_k0 at * 
    walk_at "rd"
    intro k1 hk1
    have W_k1 := W_k0.new (o := .dK []) hk1 (fun z => z)
    have sc_k1 := scN (o' := .dK []) sc_k0 hk1
    clear hk1
    generalize upd H_k0 k1 (HO.dK []) = H_k1 at * 
    walk_at "rd"
    refine rd_new (hn := by show 2 ≤ sizeLine; decide) fun kk hkk => ?_
    have W_kk := W_k1.new (o := .lst [V.ref k0, V.ref k1]) hkk (fun z => z)
    have sc_kk := scN (o' := .lst [V.ref k0, V.ref k1]) sc_k1 hkk
    clear hkk
    generalize upd H_k1 kk (HO.lst [V.ref k0, V.ref k1]) = H_kk at * 
    walk_at "rd"
    intro b0 hb0
    have W_b0 := W_kk.new (o := .dK []) hb0 (fun z => z)
    have sc_b0 := scN (o' := .dK []) sc_kk hb0
    clear hb0
    generalize upd H_kk b0 (HO.dK []) = H_b0 at * 
    walk_at "rd"
    intro b1 hb1
    have W_b1 := W_b0.new (o := .dK []) hb1 (fun z => z)
    have sc_b1 := scN (o' := .dK []) sc_b0 hb1
    clear hb1
    generalize upd H_b0 b1 (HO.dK []) = H_b1 at * 
    walk_at "rd"
    refine rd_new (hn := by show 2 ≤ sizeLine; decide) fun bb hbb => ?_
    have W_bb := W_b1.new (o := .lst [V.ref b0, V.ref b1]) hbb (fun z => z)
    have sc_bb := scN (o' := .lst [V.ref b0, V.ref b1]) sc_b1 hbb
    clear hbb
    generalize upd H_b1 bb (HO.lst [V.ref b0, V.ref b1]) = H_bb at * 
    walk_at "rd"
    intro di hdi
    have W_di := W_bb.new (o := .dT []) hdi (fun z => z)
    have sc_di := scN (o' := .dT []) sc_bb hdi
    have n_di : ∀ o, H a0 = some o → a0 ≠ di := fun o e z => by
      have y := sc_bb o e
      rw [z, hdi] at y
      cases y
    clear hdi
    generalize upd H_bb di (HO.dT []) = H_di at * 
    walk_at "rd"
    refine rd_new (hn := by show 0 ≤ sizeLine; decide) fun ro hro => ?_
    have W_ro := W_di.new (o := .lst []) hro (fun z => z)
    have sc_ro := scN (o' := .lst []) sc_di hro
    have n_ro : ∀ o, H a0 = some o → a0 ≠ ro := fun o e z => by
      have y := sc_di o e
      rw [z, hro] at y
      cases y
    clear hro
    generalize upd H_di ro (HO.lst []) = H_ro at * 
    walk_at "rd"
    refine rd_new (hn := by show 0 ≤ sizeLine; decide) fun pl hpl => ?_
    have W_pl := W_ro.new (o := .lst []) hpl (fun z => z)
    have sc_pl := scN (o' := .lst []) sc_ro hpl
    have n_pl : ∀ o, H a0 = some o → a0 ≠ pl := fun o e z => by
      have y := sc_ro o e
      rw [z, hpl] at y
      cases y
    clear hpl
    generalize upd H_ro pl (HO.lst []) = H_pl at * 
    walk_at "rd"
    refine rd_new (hn := by show 1 ≤ sizeLine; decide) fun u hu' => ?_
    have su := same_upd (o := .tup [V.int 0]) hu'
    have hU : (upd H_pl u (.tup [V.int 0])) u = some (.tup [V.int 0]) := upd_same
    have W_u := W_pl.same su
    have sc_u := scN (o' := .tup [V.int 0]) sc_pl hu'
    clear hu'
    generalize upd H_pl u (HO.tup [V.int 0]) = H_u at *
    walk_at "rd"
    refine ⟨di, ro, [], [], [], 0, 0, rfl, W_u.ix 2 rfl, W_u.ix 1 rfl, OwD.nil, by decide, by decide, by decide, by decide, fun H4 mk4 rs4 sq4 n4 a1 a2 a3 a4 a5 a6 a7 => ?_⟩
    have W4 := W_u.fr2 2 1 rfl rfl (by decide) (.dT (kvsOf mk4 0)) (.lst (rs4.map V.ref)) a7 a1 a2 (fun z => z) (fun z => z)
    have t4 := W_u.frT 2 1 rfl rfl a7
    have hU4 := t4 _ _ hU
    have sc4 : ∀ o, H a0 = some o → H4 a0 = some o := fun o e => a7 _ _ (sc_u o e) (by simp [n_di o e, n_ro o e])
    walk_at "rd"
    refine rd_new (hn := by show 3 ≤ sizeLine; decide) fun t5 ht5 => ?_
    have s5 := same_upd (o := HO.tup [V.str (Str.ofString "leaf"), V.ref u, V.int (n4 : Int)]) ht5
    have sc5 := scN (o' := .tup [V.str (Str.ofString "leaf"), V.ref u, V.int (n4 : Int)]) sc4 ht5
    have W5 := W4.same s5
    have D5 := a3.keep (Tup.of s5)
    have S5 : DdT (upd H4 t5 (HO.tup [V.str (Str.ofString "leaf"), V.ref u, V.int (n4 : Int)])) t5 n4 (.leaf 0) := ⟨u, upd_same, s5 _ _ hU4⟩
    clear ht5
    generalize upd H4 t5 (HO.tup [V.str (Str.ofString "leaf"), V.ref u, V.int (n4 : Int)]) = H5 at *
    walk_at "rd"
    refine rd_new (hn := by show 1 ≤ sizeLine; decide) fun u6 hu6 => ?_
    have s6 := same_upd (o := .tup [V.int 1]) hu6
    have hU6 : (upd H5 u6 (.tup [V.int 1])) u6 = some (.tup [V.int 1]) := upd_same
    have W6 := W5.same s6
    have D6 := D5.keep (Tup.of s6)
    have S6 := S5.keep (Tup.of s6)
    have sc6 := scN (o' := .tup [V.int 1]) sc5 hu6
    clear hu6
    generalize upd H5 u6 (HO.tup [V.int 1]) = H6 at *
    walk_at "rd"
    refine ⟨di, ro, mk4, rs4, sq4, 0, 1, rfl, W6.ix 2 rfl, W6.ix 1 rfl, D6, by decide, by decide, by decide, by simp at a5; omega, fun H7 mk7 rs7 sq7 n7 c1 c2 c3 c4 c5 c6 c7 => ?_⟩
    have W7 := W6.fr2 2 1 rfl rfl (by decide) (.dT (kvsOf mk7 0)) (.lst (rs7.map V.ref)) c7 c1 c2 (fun z => z) (fun z => z)
    have t7 := W6.frT 2 1 rfl rfl c7
    have hU7 := t7 _ _ hU6
    have S7 := S6.keep t7
    have sc7 : ∀ o, H a0 = some o → H7 a0 = some o := fun o e => c7 _ _ (sc6 o e) (by simp [n_di o e, n_ro o e])
    walk_at "rd"
    refine rd_new (hn := by show 3 ≤ sizeLine; decide) fun t8 ht8 => ?_
    have s8 := same_upd (o := HO.tup [V.str (Str.ofString "leaf"), V.ref u6, V.int (n7 : Int)]) ht8
    have sc8 := scN (o' := .tup [V.str (Str.ofString "leaf"), V.ref u6, V.int (n7 : Int)]) sc7 ht8
    have W8 := W7.same s8
    have D8 := c3.keep (Tup.of s8)
    have S8 := S7.keep (Tup.of s8)
    have S8' : DdT (upd H7 t8 (HO.tup [V.str (Str.ofString "leaf"), V.ref u6, V.int (n7 : Int)])) t8 n7 (.leaf 1) := ⟨u6, upd_same, s8 _ _ hU7⟩
    clear ht8
    generalize upd H7 t8 (HO.tup [V.str (Str.ofString "leaf"), V.ref u6, V.int (n7 : Int)]) = H8 at *
    walk_at "rd"
    refine rd_new (hn := by show 2 ≤ sizeLine; decide) fun dd hdd => ?_
    have s9 := same_upd (o := HO.lst [V.ref t5, V.ref t8]) hdd
    have W9 := W8.new (o := .lst [V.ref t5, V.ref t8]) hdd (fun z => z)
    have D9 := D8.keep (Tup.of s9)
    have St9 : Stand (upd H8 dd (HO.lst [V.ref t5, V.ref t8])) sq7 [t5, t8] := fun t ht => by
      simp only [List.mem_cons, List.not_mem_nil, or_false] at ht
      rcases ht with rfl | rfl
      · exact ⟨n4, .leaf 0, S8.keep (Tup.of s9), ⟨by decide, by decide, pre_get c4 a6⟩, rfl⟩
      · exact ⟨n7, .leaf 1, S8'.keep (Tup.of s9), ⟨by decide, by decide, c6⟩, rfl⟩
    have sc9 := scN (o' := .lst [V.ref t5, V.ref t8]) sc8 hdd
    clear hdd
    generalize upd H8 dd (HO.lst [V.ref t5, V.ref t8]) = H9 at *
    have l7 : sq7.length ≤ 2 := by simp at a5; omega
    walk_at "rd"
    refine rd_new (hn := by show 2 ≤ sizeLine; decide) fun l0 hl0 => ?_
    have s10 := same_upd (o := HO.lst [V.int 0, V.int 0]) hl0
    have HL : (upd H9 l0 (HO.lst [V.int 0, V.int 0])) l0 = some (.lst [V.int 0, V.int 0]) := upd_same
    have W10 := W9.same s10
    have D10 := D9.keep (Tup.of s10)
    have St10 := St9.keep (Tup.of s10) (List.prefix_refl _)
    have sc10 := scN (o' := .lst [V.int 0, V.int 0]) sc9 hl0
    clear hl0
    generalize upd H9 l0 (HO.lst [V.int 0, V.int 0]) = H10 at *
    walk_at "rd"
    refine ⟨a0, _, rfl, sqL_on hS sc10, fun p1 hp1 => ?_⟩
    rw [cutV_ints]
    have hcs : (cutI ns none (some 90)).length ≤ 90 := by
      unfold cutI
      have e2 : HT.sIx ns.length ns.length (some 90) = min 90 ns.length := HT.sIx_nat _ _ 90
      rw [e2, List.length_take]
      omega
    generalize cutI ns none (some 90) = cs at hcs ⊢
    have s11 := same_upd (o := HO.lst (cs.map V.int)) hp1
    have HL1 := s11 _ _ HL
    have HP1 : (upd H10 p1 (HO.lst (cs.map V.int))) p1 = some (.lst (cs.map V.int)) := upd_same
    have W11 := W10.same s11
    have D11 := D10.keep (Tup.of s11)
    have St11 := St10.keep (Tup.of s11) (List.prefix_refl _)
    clear hp1
    generalize upd H10 p1 (HO.lst (cs.map V.int)) = H11 at *
    refine ⟨l0, p1, _, _, rfl, rfl, HL1, HP1, by rw [List.length_map]; show 2 + cs.length ≤ sizeLine; omega, fun lc hlc => ⟨lc, rfl, ⟨_, SqL.of upd_same⟩, ?_⟩⟩
    have s12 := same_upd (o := HO.lst ([V.int 0, V.int 0] ++ cs.map V.int)) hlc
    have W12 := W11.new (o := .lst ([V.int 0, V.int 0] ++ cs.map V.int)) hlc (fun z => z)
    have D12 := D11.keep (Tup.of s12)
    have St12 := St11.keep (Tup.of s12) (List.prefix_refl _)
    clear hlc
    generalize upd H11 lc (HO.lst ([V.int 0, V.int 0] ++ cs.map V.int)) = H12 at *
    refine for_it (walk_list (xs := [V.int 0, V.int 0] ++ cs.map V.int)) (fun i σ H' => ∃ (ra rb : List (Int × Addr)) (qa qb : List Sq) (mk : List (List Int)) (rs : List Addr) (sq : List Sq) (kn0 bs0 kn1 bs1 : List (Nat × Nat)) (pool : List Nat) (deeds : List Addr) (x8 x9 x10 : Option V),
      σ = [some (.ref a0), some (.ref lg), some (.ref kk), some (.ref bb), some (.ref di), some (.ref ro), some (.ref pl), some (.ref dd), x8, x9, x10] ∧
      W2 (CG K) H' a b ra rb qa qb (LL lc dd pl ro di bb b1 b0 kk k1 k0 lg ([V.int 0, V.int 0] ++ cs.map V.int) deeds pool rs mk bs1 bs0 kn1 kn0 a.g b.g) ∧ OwD H' mk rs sq ∧ KnOk sq qa kn0 ∧ KnOk qa sq bs0 ∧ KnOk sq qb kn1 ∧ KnOk qb sq bs1 ∧ PoolOk sq pool ∧ Known kn0 kn1 pool ∧ Stand H' sq deeds ∧ (deeds = [] → pool ≠ []) ∧
      sq.length ≤ 10 + 60 * i ∧ qa.length ≤ 100 + 120 * i ∧ qb.length ≤ 100 + 120 * i ∧ kn0.length ≤ 2 * i ∧ bs0.length ≤ 2 * i ∧ kn1.length ≤ 2 * i ∧ bs1.length ≤ 2 * i ∧ pool.length ≤ i) ?_ ?_ ?_ ?_
    · exact ⟨[], rb3, [], qb3, mk7, rs7, sq7, [], [], [], [], [], [t5, t8], none, none, none, rfl, W12, D12, (fun e h => by cases h), (fun e h => by cases h), (fun e h => by cases h), (fun e h => by cases h), (fun e h => by cases h), (fun e h => by cases h), St12, (fun h => by cases h), by omega, by simp, by simp at len3 ⊢; omega, by simp, by simp, by simp, by simp, by simp⟩
    · rintro i σ H' _ ⟨ra, rb, qa, qb, mk, rs, sq, kn0, bs0, kn1, bs1, pool, deeds, x8, x9, x10, _, W, _⟩
      exact SqL.of (W.ix 0 rfl)
    · rintro i x σ Ha Hb hi ⟨ra, rb, qa, qb, mk, rs, sq, kn0, bs0, kn1, bs1, pool, deeds, x8, x9, x10, rfl, W, D, hK0, hB0, hK1, hB1, hP, hin, hst, hdp, l1, l2, l3, l4, l5, l6, l8, l9⟩ ⟨rfl, hx⟩
      obtain ⟨c, rfl⟩ : ∃ c, x = .int c := by
        match i, hx with
        | 0, hx => cases hx; exact ⟨_, rfl⟩
        | 1, hx => cases hx; exact ⟨_, rfl⟩
        | i + 2, hx =>
          have hx' : (cs.map V.int)[i]? = some x := hx
          rw [List.getElem?_map] at hx'
          cases e : cs[i]? with
          | none => rw [e] at hx'; cases hx'
          | some c => rw [e] at hx'; exact ⟨c, (Option.some.inj hx').symm⟩
      have hi' : i < 92 := by
        have z : ([V.int 0, V.int 0] ++ cs.map V.int).length = 2 + cs.length := by rw [List.length_append, List.length_map]; rfl
        rw [z] at hi
        omega
      walk_at "rhi"
      refine rd_cut (fun σ H' => ∃ (mk : List (List Int)) (rs : List Addr) (sq : List Sq) (deeds : List Addr) (t : Addr) (n : Nat) (d : Dd),
        σ = [some (.ref a0), some (.ref lg), some (.ref kk), some (.ref bb), some (.ref di), some (.ref ro), some (.ref pl), some (.ref dd), some (.int c), some (.ref t), x10] ∧
        W2 (CG K) H' a b ra rb qa qb (LL lc dd pl ro di bb b1 b0 kk k1 k0 lg ([V.int 0, V.int 0] ++ cs.map V.int) deeds pool rs mk bs1 bs0 kn1 kn0 a.g b.g) ∧ OwD H' mk rs sq ∧ KnOk sq qa kn0 ∧ KnOk qa sq bs0 ∧ KnOk sq qb kn1 ∧ KnOk qb sq bs1 ∧ PoolOk sq pool ∧ Stand H' sq deeds ∧
        DdT H' t n d ∧ DdOk sq n d ∧ (∀ x ∈ DdUse d, x ∈ pool) ∧ sq.length ≤ 10 + 60 * (i + 1)) (by walk_at "mono") ?_ ?_
      · walk_at "rd"
        refine rd_len (SqL.of (W.ix 1 rfl)) ?_
        walk_at "rd"
        rw [List.length_map]
        refine ite_d (fun z => ?_) (fun z => ?_)
        · walk_at "rd"
          obtain ⟨ds, t, rfl⟩ : ∃ ds t, deeds = ds ++ [t] := by
            rcases List.eq_nil_or_concat deeds with e | ⟨ds, t, e⟩
            · subst e; exact absurd z (by decide)
            · exact ⟨ds, t, by rw [e, List.concat_eq_append]⟩
          have hl : ((ds ++ [t]).map V.ref)[((ds ++ [t]).map V.ref).length - 1]? = some (V.ref t) := by simp
          have hd : ((ds ++ [t]).map V.ref).dropLast = ds.map V.ref := by simp
          refine rd_tyL (W.ix 1 rfl) ?_
          walk_at "rd"
          refine ⟨dd, _, _, rfl, rfl, W.ix 1 rfl, hl, ?_⟩
          rw [hd]
          have W2' := W.put 1 rfl (.lst (ds.map V.ref)) (fun z => z)
          have t2 : Tup Hb (upd Hb dd (.lst (ds.map V.ref))) := tup_put (W.ix 1 rfl)
          obtain ⟨n, d, g1, g2, g3⟩ := hst t (by simp)
          walk_at "rd"
          exact ⟨mk, rs, sq, ds, t, n, d, rfl, W2', D.keep t2, hK0, hB0, hK1, hB1, hP, fun t' ht' => (hst.keep t2 (List.prefix_refl _)) t' (List.mem_append_left _ ht'), g1.keep t2, g2, by rw [g3]; simp, by omega⟩
        · walk_at "rd"
          have e0 : deeds = [] := by
            cases deeds with
            | nil => rfl
            | cons t ts => exfalso; apply z; simp only [List.length_cons]; omega
          refine ⟨c, di, ro, pl, mk, rs, sq, pool, rfl, W.ix 4 rfl, W.ix 3 rfl, D, W.ix 2 rfl, hdp e0, by omega, hP, W.ne 3 2 rfl rfl (by decide), by omega, fun H4 mk4 rs4 sq4 t n d a1 a2 a3 a4 a5 a6 a7 a8 a9 => ?_⟩
          have W4 := W.fr2 4 3 rfl rfl (by decide) (.dT (kvsOf mk4 0)) (.lst (rs4.map V.ref)) a6 a1 a2 (fun z => z) (fun z => z)
          have t4 := W.frT 4 3 rfl rfl a6
          walk_at "rd"
          exact ⟨mk4, rs4, sq4, deeds, t, n, d, rfl, W4, a3, hK0.pre a4 (List.prefix_refl _), hB0.pre (List.prefix_refl _) a4, hK1.pre a4 (List.prefix_refl _), hB1.pre (List.prefix_refl _) a4, hP.pre a4, hst.keep t4 a4, a7, a8, a9, by omega⟩
      clear W D hK0 hB0 hK1 hB1 hP hst l1
      rintro σ Hc ⟨mk, rs, sq, deeds, t, n, d, rfl, W, D, hK0, hB0, hK1, hB1, hP, hst, hT, hok, hu', l1⟩
      walk_at "rh"
      refine rd_cut (fun σ H' => ∃ (ra rb : List (Int × Addr)) (qa qb : List Sq) (kn0 bs0 kn1 bs1 : List (Nat × Nat)) (x10 : Option V),
        σ = [some (.ref a0), some (.ref lg), some (.ref kk), some (.ref bb), some (.ref di), some (.ref ro), some (.ref pl), some (.ref dd), some (.int c), some (.ref t), x10] ∧
        W2 (CG K) H' a b ra rb qa qb (LL lc dd pl ro di bb b1 b0 kk k1 k0 lg ([V.int 0, V.int 0] ++ cs.map V.int) deeds pool rs mk bs1 bs0 kn1 kn0 a.g b.g) ∧ OwD H' mk rs sq ∧ DdT H' t n d ∧ KnOk sq qa kn0 ∧ KnOk qa sq bs0 ∧ KnOk sq qb kn1 ∧ KnOk qb sq bs1 ∧ Known kn0 kn1 pool ∧
        (∃ m, (n, m) ∈ kn0) ∧ (∃ m, (n, m) ∈ kn1) ∧ Stand H' sq deeds ∧ qa.length ≤ 100 + 120 * (i + 1) ∧ qb.length ≤ 100 + 120 * (i + 1) ∧ kn0.length ≤ 2 * (i + 1) ∧ bs0.length ≤ 2 * (i + 1) ∧ kn1.length ≤ 2 * (i + 1) ∧ bs1.length ≤ 2 * (i + 1)) (by walk_at "mono") ?_ ?_
      · walk_at "rd"
        refine ⟨2, rfl, by decide, by decide, ?_⟩
        refine for_it (walk_r0 (n := 2)) (fun j σ H' => ∃ (ra rb : List (Int × Addr)) (qa qb : List Sq) (kn0 bs0 kn1 bs1 : List (Nat × Nat)) (x10 : Option V),
          σ = [some (.ref a0), some (.ref lg), some (.ref kk), some (.ref bb), some (.ref di), some (.ref ro), some (.ref pl), some (.ref dd), some (.int c), some (.ref t), x10] ∧
          W2 (CG K) H' a b ra rb qa qb (LL lc dd pl ro di bb b1 b0 kk k1 k0 lg ([V.int 0, V.int 0] ++ cs.map V.int) deeds pool rs mk bs1 bs0 kn1 kn0 a.g b.g) ∧ OwD H' mk rs sq ∧ DdT H' t n d ∧ KnOk sq qa kn0 ∧ KnOk qa sq bs0 ∧ KnOk sq qb kn1 ∧ KnOk qb sq bs1 ∧ Known kn0 kn1 pool ∧
          (1 ≤ j → ∃ m, (n, m) ∈ kn0) ∧ (2 ≤ j → ∃ m, (n, m) ∈ kn1) ∧ Stand H' sq deeds ∧ qa.length ≤ 100 + 120 * i + 60 * j ∧ qb.length ≤ 100 + 120 * i + 60 * j ∧ kn0.length ≤ 2 * i + j ∧ bs0.length ≤ 2 * i + j ∧ kn1.length ≤ 2 * i + j ∧ bs1.length ≤ 2 * i + j) ?_ (fun _ _ _ _ _ => trivial) ?_ ?_
        · exact ⟨ra, rb, qa, qb, kn0, bs0, kn1, bs1, x10, rfl, W, D, hT, hK0, hB0, hK1, hB1, hin, fun h => absurd h (by decide), fun h => absurd h (by decide), hst, by omega, by omega, by omega, by omega, by omega, by omega⟩
        clear W D hT hK0 hB0 hK1 hB1 hin hst l2 l3 l4 l5 l6 l8
        · rintro j x σ Ha Hb hj2 ⟨ra, rb, qa, qb, kn0, bs0, kn1, bs1, x10, rfl, W, D, hT, hK0, hB0, hK1, hB1, hin, hd0, hd1, hst, l2, l3, l4, l5, l6, l8⟩ ⟨rfl, rfl⟩
          have hj2' : j < 2 := by omega
          obtain ⟨z, u, htop⟩ := hT.top
          by_cases hz : j < 1
          · have hj : j = 0 := by omega
            subst hj
            walk_at "rd"
            refine rd_ixL (SqL.of (W.ix 8 rfl)) (v := .ref k0) (atI_nat (j := 0) rfl) ?_
            walk_at "rd"
            refine rd_ixL (SqL.of (W.ix 5 rfl)) (v := .ref b0) (atI_nat (j := 0) rfl) ?_
            walk_at "rd"
            refine rd_ixL (SqL.of (W.ix 11 rfl)) (v := .ref a.g) (atI_nat (j := 0) rfl) ?_
            walk_at "rd"
            refine rd_ixL (SqL.of (W.ix 8 rfl)) (v := .ref k0) (atI_nat (j := 0) rfl) ?_
            walk_at "rd"
            refine ⟨a, ra, qa, t, n, d, k0, kn0, sq, rfl, W.ga, hT, hok, W.ix 10 rfl, hK0, fun x hx => (hin x (hu' x hx)).1, by omega, fun H3 r3 q3 m S st3 len3 hm hn => ?_⟩
            have W3 := W.stepA st3
            have t3 := st3.tup W.ga
            walk_at "rd"
            refine ⟨k0, b0, n, m, kn0, bs0, sq, q3, S, rfl, W3.ix 10 rfl, W3.ix 7 rfl, W3.ne 7 10 rfl rfl (by decide), hK0.pre (List.prefix_refl _) st3.pre, hB0.pre st3.pre (List.prefix_refl _), hn, hm, D.nd, st3.gat.qn, by omega, by omega, by omega, fun H4 kn' bs' e1 e2 e3 e4 e5 e6 e7 e8 e9 => ?_⟩
            have W4 := W3.fr2 10 7 rfl rfl (by decide) (.dK (knT kn')) (.dK (knT bs')) e9 e1 e2 (fun z => z) (fun z => z)
            have t4 := t3.trans (W3.frT 10 7 rfl rfl e9)
            walk_at "rd"
            exact ⟨r3, rb, q3, qb, kn', bs', kn1, bs1, _, rfl, W4, D.keep t4, hT.keep t4, e3, e4, hK1, hB1, fun x hx => ⟨let ⟨y, hy⟩ := (hin x hx).1; ⟨y, e6 _ hy⟩, (hin x hx).2⟩, fun _ => e5, fun h => absurd h (by decide), hst.keep t4 (List.prefix_refl _), by omega, by omega, by omega, by omega, by omega, by omega⟩
          · have hj : j = 1 := by omega
            subst hj
            walk_at "rd"
            refine rd_ixL (SqL.of (W.ix 8 rfl)) (v := .ref k1) (atI_nat (j := 1) rfl) ?_
            walk_at "rd"
            refine rd_ixL (SqL.of (W.ix 5 rfl)) (v := .ref b1) (atI_nat (j := 1) rfl) ?_
            walk_at "rd"
            refine rd_ixL (SqL.of (W.ix 11 rfl)) (v := .ref b.g) (atI_nat (j := 1) rfl) ?_
            walk_at "rd"
            refine rd_ixL (SqL.of (W.ix 8 rfl)) (v := .ref k1) (atI_nat (j := 1) rfl) ?_
            walk_at "rd"
            refine ⟨b, rb, qb, t, n, d, k1, kn1, sq, rfl, W.gb, hT, hok, W.ix 9 rfl, hK1, fun x hx => (hin x (hu' x hx)).2, by omega, fun H3 r3 q3 m S st3 len3 hm hn => ?_⟩
            have W3 := W.stepB st3
            have t3 := st3.tup W.gb
            walk_at "rd"
            refine ⟨k1, b1, n, m, kn1, bs1, sq, q3, S, rfl, W3.ix 9 rfl, W3.ix 6 rfl, W3.ne 6 9 rfl rfl (by decide), hK1.pre (List.prefix_refl _) st3.pre, hB1.pre st3.pre (List.prefix_refl _), hn, hm, D.nd, st3.gat.qn, by omega, by omega, by omega, fun H4 kn' bs' e1 e2 e3 e4 e5 e6 e7 e8 e9 => ?_⟩
            have W4 := W3.fr2 9 6 rfl rfl (by decide) (.dK (knT kn')) (.dK (knT bs')) e9 e1 e2 (fun z => z) (fun z => z)
            have t4 := t3.trans (W3.frT 9 6 rfl rfl e9)
            walk_at "rd"
            exact ⟨ra, r3, qa, q3, kn0, bs0, kn', bs', _, rfl, W4, D.keep t4, hT.keep t4, hK0, hB0, e3, e4, fun x hx => ⟨(hin x hx).1, let ⟨y, hy⟩ := (hin x hx).2; ⟨y, e6 _ hy⟩⟩, fun _ => hd0 (by decide), fun _ => e5, hst.keep t4 (List.prefix_refl _), by omega, by omega, by omega, by omega, by omega, by omega⟩
        · rintro σ H' ⟨ra, rb, qa, qb, kn0, bs0, kn1, bs1, x10, rfl, W, D, hT, hK0, hB0, hK1, hB1, hin, hd0, hd1, hst, l2, l3, l4, l5, l6, l8⟩
          exact ⟨ra, rb, qa, qb, kn0, bs0, kn1, bs1, x10, rfl, W, D, hT, hK0, hB0, hK1, hB1, hin, hd0 (by decide), hd1 (by decide), hst, by omega, by omega, by omega, by omega, by omega, by omega⟩
      have hlv := hok.level D.wf hP hu'
      clear W D hT hK0 hB0 hK1 hB1 hin hst l2 l3 l4 l5 l6 l8
      rintro σ Hd ⟨ra, rb, qa, qb, kn0, bs0, kn1, bs1, x10, rfl, W, D, hT, hK0, hB0, hK1, hB1, hin, hd0, hd1, hst, l2, l3, l4, l5, l6, l8⟩
      obtain ⟨z, u, htop⟩ := hT.top
      walk_at "rd"
      refine ⟨pl, _, rfl, .inl (SqL.of (W.ix 2 rfl)), rfl, flat_nats pool, ?_⟩
      rw [inV_nats]
      by_cases hm : n ∈ pool
      · rw [decide_eq_true hm]
        walk_at "rd"
        exact ⟨ra, rb, qa, qb, mk, rs, sq, kn0, bs0, kn1, bs1, pool, deeds, _, _, x10, rfl, W, D, hK0, hB0, hK1, hB1, hP, hin, hst, (fun _ h => by rw [h] at hm; cases hm), l1, l2, l3, l4, l5, l6, l8, by omega⟩
      · rw [decide_eq_false hm]
        refine ⟨true, rfl, ?_⟩
        walk_at "rd"
        have hpl' := W.ix 2 rfl
        refine rd_tyL hpl' ?_
        walk_at "rd"
        refine rd_append hpl' (by rw [List.length_map]; exact small1000 (by omega)) ?_
        have W5 := W.put 2 rfl (.lst ((pool ++ [n]).map fun n : Nat => V.int (n : Int))) (fun z => z)
        have t5 : Tup Hd (upd Hd pl (.lst ((pool ++ [n]).map fun n : Nat => V.int (n : Int)))) := tup_put (W.ix 2 rfl)
        have em : ((pool.map fun n : Nat => V.int (n : Int)) ++ [V.int (n : Int)]) = (pool ++ [n]).map fun n : Nat => V.int (n : Int) := by rw [List.map_append]; rfl
        rw [em]
        walk_at "rd"
        exact ⟨ra, rb, qa, qb, mk, rs, sq, kn0, bs0, kn1, bs1, pool ++ [n], deeds, _, _, x10, rfl, W5, D.keep t5, hK0, hB0, hK1, hB1, (fun y hy => by
          rcases List.mem_append.mp hy with hy | hy
          · exact hP y hy
          · rw [List.mem_singleton] at hy; subst hy; exact hlv), (fun y hy => by
          rcases List.mem_append.mp hy with hy | hy
          · exact hin y hy
          · rw [List.mem_singleton] at hy; subst hy; exact ⟨hd0, hd1⟩), hst.keep t5 (List.prefix_refl _), (fun _ h => by simp at h), l1, l2, l3, l4, l5, l6, l8, by rw [List.length_append]; simp; omega⟩
    · rintro σ H' ⟨ra, rb, qa, qb, mk, rs, sq, kn0, bs0, kn1, bs1, pool, deeds, x8, x9, x10, rfl, W, D, hK0, hB0, hK1, hB1, hP, hin, hst, hdp, l1, l2, l3, l4, l5, l6, l8, l9⟩
      have hl : ([V.int 0, V.int 0] ++ cs.map V.int).length ≤ 92 := by rw [List.length_append, List.length_map]; show 2 + cs.length ≤ 92; omega
      walk_at "rd"
      refine rd_ixL (SqL.of (W.ix 11 rfl)) (v := .ref a.g) (atI_nat (j := 0) rfl) ?_
      walk_at "rd"
      refine rd_ixL (SqL.of (W.ix 8 rfl)) (v := .ref k0) (atI_nat (j := 0) rfl) ?_
      walk_at "rd"
      refine rd_ixL (SqL.of (W.ix 5 rfl)) (v := .ref b0) (atI_nat (j := 0) rfl) ?_
      walk_at "rd"
      have o10 := W.two 10 7 rfl rfl
      refine ⟨a, ra, qa, k0, b0, ro, kn0, bs0, mk, rs, sq, rfl, W.ga, W.ix 10 rfl, W.ix 7 rfl, W.ne 7 10 rfl rfl (by decide), W.ix 3 rfl, D, hK0, hB0, by omega, by omega, by omega, (o10 k0 (by simp)).1.1, (o10 b0 (by simp)).1.1, fun H5 f5 => ?_⟩
      have o1 := W.two 9 6 rfl rfl
      have g5 := W.gb.frS f5 fun c hc => (o10 c hc).2
      have t5 := W.frT 10 7 rfl rfl f5
      have fx : ∀ (p : Addr) (j : Nat) o, (LL lc dd pl ro di bb b1 b0 kk k1 k0 lg ([V.int 0, V.int 0] ++ cs.map V.int) deeds pool rs mk bs1 bs0 kn1 kn0 a.g b.g)[j]? = some (p, o) → j ≠ 10 → j ≠ 7 → H5 p = some o := fun p j o e n1 n2 => f5 _ _ (W.ix j e) (by simp [W.ne 10 j rfl e n1, W.ne 7 j rfl e n2])
      walk_at "rd"
      refine rd_ixL (SqL.of (fx _ 11 _ rfl (by decide) (by decide))) (v := .ref b.g) (atI_nat (j := 1) rfl) ?_
      walk_at "rd"
      refine rd_ixL (SqL.of (fx _ 8 _ rfl (by decide) (by decide))) (v := .ref k1) (atI_nat (j := 1) rfl) ?_
      walk_at "rd"
      refine rd_ixL (SqL.of (fx _ 5 _ rfl (by decide) (by decide))) (v := .ref b1) (atI_nat (j := 1) rfl) ?_
      walk_at "rd"
      exact ⟨b, rb, qb, k1, b1, ro, kn1, bs1, mk, rs, sq, rfl, g5, fx _ 9 _ rfl (by decide) (by decide), fx _ 6 _ rfl (by decide) (by decide), W.ne 6 9 rfl rfl (by decide), fx _ 3 _ rfl (by decide) (by decide), D.keep t5, hK1, hB1, by omega, by omega, by omega, (o1 k1 (by simp)).2.1, (o1 b1 (by simp)).2.1, fun H6 f6 => k _⟩
end
end JF

namespace JF
open PySem PySem.Spec PyProof.Rows L2
/-! ### the head: facts by names, the run; the end -/
theorem fn_ofE {P : Program} {w : World} {K : PySem.W.Frag} {mg : Str → Option Value} {k : Nat} {sp : Sp} {f : Addr} (hfa : mg ("law" : Str) = some (.ref f)) (T : Env fa fn K mg)
    (ok : ∀ base : Heap, K.In base → base.Ns mainGlobals mg → Good P w K mg base CX0 k ("law", none) ["_law_script"] sp) :
    ∃ fd : FuncData, (∀ (s : Shared) (v : Value), BindsTo s fd ⟨[v], []⟩ [("_law_script", v)]) ∧ ∀ base : Heap, K.In base → base.Ns mainGlobals mg → FnOk P w K mg base CX0 k f fd ["_law_script"] sp := by
  obtain ⟨fd, F⟩ := T.c.def_ (d := d_law) 27 rfl
  have e := hfa.symm.trans (T.glo 48)
  cases e
  have b := FunD.bindsA (ps := ["_law_script"]) F fun _ _ _ _ _ _ us hl => match us, hl with | [_], _ => rfl
  refine ⟨fd, fun s v => b s [v] rfl, fun base h1 h2 => ?_⟩
  obtain ⟨fd2, F2, _, _, l2⟩ := ok base h1 h2
  cases (fdAt_of (p := ("law", none)) F).eq l2
  exact F2
abbrev Rr : PySem.W.OpenRow := PySem.W.OpenLaw.row PySem.Challenge.rw_jumpfield_k15_whole_alike_parts_are_one
abbrev AlE : Type := Bool × He.AlD
def obsE (K : PySem.W.Frag) : AlE := (tbB K, He.obsD fa fn K)
def valE : AlE := (true, He.valD fn)
def obsEG (g : Addr → Option Obj) : AlE := obsE (He.frG g (He.asD g 4))
def hk : PySem.W.Hook where
  α := AlE
  obs := fun s => obsEG s.heap.get?
  val := fun _ => valE
  says := fun _ h => ∃ K : PySem.W.Frag, K.In h ∧ obsE K = valE
  of := fun _ _ e => ⟨_, He.frG_in, e⟩
  keeps := fun _ _ _ ⟨K, hK, c⟩ k => ⟨K, PySem.W.Frag.In.keeps hK k, c⟩
def ob (s : PySem.W.SharedT) : hk.α := obsEG (HandSHeadRun.getT s)
theorem ob_eq (s : PySem.W.SharedT) : ob s = hk.obs s.abs := by
  have e : HandSHeadRun.getT s = s.abs.heap.get? := funext (HandSHeadRun.getT_eq s)
  show obsEG (HandSHeadRun.getT s) = obsEG s.abs.heap.get?
  rw [e]
theorem run (w : World) : HandSHeadRun.RunEq Rr (PySem.W.view Rr.prog [24]) hk ob 100000 looseN w := by
  intro os
  kernel_rfl
end JF
open PySem PySem.W PySem.Calls PyProof.Rows
theorem PySem.Challenge.cw_jumpfield_k15_whole_alike_parts_are_one_holds : PySem.Challenge.rw_jumpfield_k15_whole_alike_parts_are_one.Holds := by
  w_on; o_law
  refine HandSHeadRun.head_any (r := OpenLaw.row PySem.Challenge.rw_jumpfield_k15_whole_alike_parts_are_one) (q := view (OpenLaw.row PySem.Challenge.rw_jumpfield_k15_whole_alike_parts_are_one).prog [24]) (H := JF.hk) (ob := JF.ob) (M := 100000) (loose := JF.looseN) (d := HandSHeadRun.topDef (OpenLaw.row PySem.Challenge.rw_jumpfield_k15_whole_alike_parts_are_one).prog 24) (kwd := []) JF.ob_eq
    (by kernel_rfl) (fun s => by kernel_rfl) JF.run (by kernel_rfl) (by kernel_rfl) (by kernel_rfl) (by rfl) (by first | assumption | decide +kernel) (by decide +kernel) ⟨rfl, rfl, rfl, rfl, rfl, by decide +kernel⟩ ?hw ?hc
  case hw => w_witness2
  case hc =>
    refine L2.walk_ofE (l := PySem.Challenge.rw_jumpfield_k15_whole_alike_parts_are_one) (n := 63) (k := JF.lawLevel) (x := "_law_script") (CX := L2.CX0) rfl (by decide) (by kernel_rfl) ⟨rfl, by decide, by decide⟩ ?F (fun _ _ _ _ z => z)
    intro w mg fa h Y G hmg0
    obtain ⟨K, KX, c⟩ := Y
    have hmg : mg ("law" : PySem.Str) = some (.ref fa) := by
      have e : (HandSHeadRun.topDef (OpenLaw.row PySem.Challenge.rw_jumpfield_k15_whole_alike_parts_are_one).prog 24).name = ("law" : PySem.Str) := by kernel_rfl
      rw [← e]
      exact hmg0
    have T : JF.Env JF.fa JF.fn K mg := ⟨congrArg (fun z : JF.AlE => z.2) c, ⟨h, KX, G⟩, congrArg (fun z : JF.AlE => z.1) c⟩
    obtain ⟨fd, hb, hF⟩ := JF.fn_ofE (P := (PySem.Challenge.rw_jumpfield_k15_whole_alike_parts_are_one).prog) (w := w) hmg T (fun base h1 h2 => JF.ok_law T)
    exact ⟨K, fd, JF.sp_law K, KX, hb, fun H a ns hl hO hS => JF.sp_law_in H a ns hl hO hS, hF⟩
#print axioms PySem.Challenge.cw_jumpfield_k15_whole_alike_parts_are_one_holds

