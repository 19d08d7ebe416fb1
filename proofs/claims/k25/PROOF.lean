import PyProof.Rows.All
import Wide.All
import OpenK.AllK
import Wide.FinOn
import KE.KStateDown
import KE.GoesMore
import KE.GoesZip
import PyProof.EnumMake
import HandS.ForMost
import HandS.ForExc
import HandS.Flow
import HandS.Wide
import HandS.WideMore
import HandS.IsInst
import HandS.SetKeys
import HandS.Style
import HandS.TupLe
import HandS.Zip
import HandS.Defaults
import HandS.Head0
import HandS.Head1
import HandS.Head2
import HandS.HeadEnd
import HandS.HeadHook1
import HandS.HeadHook2
import HandS.Walk
import PyProof.DictMoreH
import HandS.SetFor
import HandS.ExcCtx
import HandS.ExcIs
import HandS.HotCalls
import HandS.Conv
import KE.KDictSum
import KE.KDictCopyH
import HandS.SortOrd
import HandS.DictTup
import PySem.Challenge.RW_jumpfield_k25_the_box_of_a_field
set_option Elab.async false
set_option linter.all false
set_option maxRecDepth 100000
set_option maxHeartbeats 4000000
/-! ### the frame: facts of the top, defs by their places, calls -/
namespace JF
open PySem PySem.Spec PyProof.Rows L2

/-! ### what the top has left, by facts with numbers -/
/-- the module's tuples of numbers -/
def tb : List (Str × List He.Dv) := []
/-- the module's own exceptions that are raised; how each stands to the classes that are asked for -/
def exN : List Str := []
def exP : List (Str × Sum Str String × Bool) := []
def veT : List Value := [.type "ValueError", .type "Exception", .type "BaseException", .type "object"]
def exV (K : PySem.W.Frag) : Sum Str String → Value
  | .inl y => .ref (He.ga K y)
  | .inr t => .type t
def exB1 (K : PySem.W.Frag) (x : Str) : Bool :=
  PySem.W.excIn K (He.ga K x) veT "ValueError.__new__" && PySem.W.keepIn K (.ref (He.ga K x)) && (PySem.W.subIn K (.ref (He.ga K x)) (.type "BaseException") == some true) && (PySem.W.typeIn K (.ref (He.ga K x)) == some (.type "type")) &&
  (PySem.W.findIn K (.ref (He.ga K x)) "__getattribute__" == some (some (.builtin "BaseException.__getattribute__"))) && (PySem.W.findIn K (.ref (He.ga K x)) "__getattr__" == some none) && PySem.W.hasDictIn K (He.ga K x) &&
  (PySem.W.findIn K (.ref (He.ga K x)) "__class__" == some (some (.builtin "object.__class__"))) && (PySem.W.specialIn K (.builtin "object.__class__") "__get__" == some (some (.builtin "getset_descriptor.__get__"))) &&
  (PySem.W.takesIn K (.builtin "object.__class__") == some true) && (PySem.W.mroIn K (He.ga K x) (.type "object") == some true)
def exB2 (K : PySem.W.Frag) (t : Str × Sum Str String × Bool) : Bool :=
  (PySem.W.exmOne K (.ref (He.ga K t.1)) (exV K t.2.1) == some t.2.2) && (PySem.W.kitOne K (.ref (He.ga K t.1)) (exV K t.2.1) == some t.2.2)
def tbB (K : PySem.W.Frag) : Bool := (tb.all fun t => He.tupB K t.1 t.2) && (exN.all (exB1 K) && exP.all (exB2 K))
structure Env (fa : List He.Fa) (fn : List He.DefD) (K : PySem.W.Frag) (mg : Str → Option Value) : Prop where
  c : He.SaysD fa fn K
  ex : ∃ h : Heap, K.In h ∧ h.Ns mainGlobals mg
  tb : tbB K = true
section
variable {fa : List He.Fa} {fn : List He.DefD} {K : PySem.W.Frag} {mg : Str → Option Value}
theorem Env.glo (T : Env fa fn K mg) (i : Nat) {x : Str} (h : fa[i]? = some (.glo x) := by rfl) : mg x = some (.ref (He.ga K x)) := by
  obtain ⟨hp, X, G⟩ := T.ex
  exact He.glo_ok X G (T.c.fact i h)
theorem Env.tup (T : Env fa fn K mg) (i : Nat) {x : Str} {vs : List He.Dv} (H : Hp) (h : JF.tb[i]? = some (x, vs) := by rfl) : SqT K H (He.ga K x) (vs.map (He.Dv.v K)) :=
  He.tupB_ok (List.all_eq_true.mp (Bool.and_eq_true_iff.mp T.tb).1 _ (List.mem_of_getElem? h)) H
theorem Env.ex1 (T : Env fa fn K mg) {x : Str} (h : x ∈ JF.exN) : exB1 K x = true := List.all_eq_true.mp (Bool.and_eq_true_iff.mp (Bool.and_eq_true_iff.mp T.tb).2).1 _ h
theorem Env.ex2 (T : Env fa fn K mg) {t : Str × Sum Str String × Bool} (h : t ∈ JF.exP) : exB2 K t = true := List.all_eq_true.mp (Bool.and_eq_true_iff.mp (Bool.and_eq_true_iff.mp T.tb).2).2 _ h
theorem Env.free (T : Env fa fn K mg) (i : Nat) {x : Str} (h : fa[i]? = some (.free x) := by rfl) : mg x = none := by
  obtain ⟨hp, X, G⟩ := T.ex
  exact He.free_ok X G (T.c.fact i h)
theorem Env.int (T : Env fa fn K mg) (i : Nat) {x : Str} {n : Int} (h : fa[i]? = some (.int x n) := by rfl) : ∃ t, mg x = some (.int n t) := by
  obtain ⟨hp, X, G⟩ := T.ex
  exact He.int_ok X G (T.c.fact i h)
theorem Env.str (T : Env fa fn K mg) (i : Nat) {x z : Str} (h : fa[i]? = some (.str x z) := by rfl) : ∃ t, mg x = some (.str z t) := by
  obtain ⟨hp, X, G⟩ := T.ex
  exact He.str_ok X G (T.c.fact i h)
theorem Env.cls (T : Env fa fn K mg) (i : Nat) {x : Str} (h : fa[i]? = some (.cls x) := by rfl) : Cls K (He.ga K x) := He.cls_ok (T.c.fact i h)
theorem Env.noat (T : Env fa fn K mg) (i : Nat) {x f : Str} (h : fa[i]? = some (.noat x f) := by rfl) : NoAttr K (He.ga K x) f := He.noat_ok (T.c.fact i h)
theorem Env.meth (T : Env fa fn K mg) (i : Nat) {x m : Str} (h : fa[i]? = some (.meth x m) := by rfl) : Meth K (He.ga K x) m (He.ma K (He.ga K x) m) := He.meth_ok (T.c.fact i h)
theorem Env.mkr (T : Env fa fn K mg) (i : Nat) {x : Str} (h : fa[i]? = some (.mkr x) := by rfl) : Mk K (He.ga K x) (He.ma K (He.ga K x) "__init__") := He.mkr_ok (T.c.fact i h)
end

/-! ### a def that keeps its promise, by its place -/
/-- the def's datum stands there -/
def FdAt (K : PySem.W.Frag) (p : Str × Option Str) (fd : FuncData) : Prop := ∃ oc od osl, K.lookup (He.fAd K p) = some ⟨oc, od, .func fd, osl⟩
theorem FdAt.eq {K : PySem.W.Frag} {p : Str × Option Str} {fd fd' : FuncData} (h : FdAt K p fd) (h' : FdAt K p fd') : fd = fd' := by
  obtain ⟨a, b, c, e⟩ := h
  obtain ⟨a', b', c', e'⟩ := h'
  rw [e] at e'
  cases e'
  rfl
theorem fdAt_of {K : PySem.W.Frag} {x qual : Str} {params : Arguments} {body : List Stmt} {scope : Scope} {dvs : List V} {kws : List (Str × V)} {p : Str × Option Str} {fd : FuncData} (F : FunD K x qual params body scope dvs kws (He.fAd K p) fd) : FdAt K p fd := by
  obtain ⟨oc, od, dV, kV, doc, pm, an, cdv, ct, osl, e, lk, hcd, _, _⟩ := F.ex
  exact ⟨oc, od, osl, lk⟩
def Good (P : Program) (w : World) (K : PySem.W.Frag) (mg : Str → Option Value) (base : Heap) (CX : CXT) (k : Nat) (p : Str × Option Str) (ps : List Str) (sp : Sp) : Prop :=
  ∃ fd, FnOk P w K mg base CX k (He.fAd K p) fd ps sp ∧ Binds K fd ps [] ∧ PySem.W.keepIn K (.ref (He.fAd K p)) = true ∧ FdAt K p fd
section
variable {P : Program} {w : World} {K : PySem.W.Frag} {mg : Str → Option Value} {base : Heap} {fa : List He.Fa} {fn : List He.DefD}
theorem Good.mono {CX : CXT} {j k : Nat} {p : Str × Option Str} {ps : List Str} {sp : Sp} (G : Good P w K mg base CX j p ps sp) (h : j ≤ k) : Good P w K mg base CX k p ps sp := by
  obtain ⟨fd, F, b, kp, lk⟩ := G
  exact ⟨fd, F.mono h, b, kp, lk⟩
theorem Good.imp {CX : CXT} {k : Nat} {p : Str × Option Str} {ps : List Str} {sp sp' : Sp} (G : Good P w K mg base CX k p ps sp) (h : ∀ vs H Q E, sp' vs H Q E → sp vs H Q E) : Good P w K mg base CX k p ps sp' := by
  obtain ⟨fd, F, b, kp, lk⟩ := G
  exact ⟨fd, F.imp h, b, kp, lk⟩
/-- THE RULE of a def: nothing leaves it but by return -/
theorem good_mk (T : Env fa fn K mg) (i : Nat) {d : He.DefD} {k : Nat} {N ps : List Str} {sp : Sp} {x qual : Str} {st : Stmt} {at_ : Str × Option Str} (hi : fn[i]? = some d) (hd : d = ⟨at_, x, qual, defArgs st, defBody st, defScope st, [], []⟩) (S : FnScope N ps (defScope st))
    (hb : ∀ (kV doc pm : Value) (an : Option Addr) (cdv ct : Value) (us : List Value), us.length = ps.length → bindArgs (PySem.W.fnOf x qual (defArgs st) (defBody st) (defScope st) .none kV doc pm an cdv ct) ⟨us, []⟩ = pure (ps.zip us))
    (len : ∀ vs H Q E, sp vs H Q E → vs.length = ps.length)
    (hbody : ∀ (f : Addr) (cdv : Value) (A : Around) (outer : List PySem.Env) (s : Shared) (H : Hp) (vs : List V) (Q : VK) (E : XK), Room k (A.deeper (envOfC qual (defScope st) s.heap.objs.size f cdv)) → sp vs H Q E →
      ∃ t, PSs (cxOf CX0 P w K mg base N qual (defScope st) f cdv A outer s H E).nox (defBody st) t ∧ t { nx := fun _ H' => Q .non H', rt := Q } (start N vs) H) : Good P w K mg base CX0 (k + 1) at_ ps sp := by
  subst hd
  obtain ⟨fd, F⟩ := T.c.def_ i hi
  refine ⟨fd, ?_, FunD.bindsN F hb, F.kp, fdAt_of F⟩
  refine FunD.ok F S len fun cdv A outer s H vs Q E hr h => ?_
  obtain ⟨t, h1, h2⟩ := hbody _ cdv A outer s H vs Q E hr h
  exact ⟨t, h1.nox, h2⟩
end

/-! ### calls -/
section
variable {X : Cx} {k : Nat} {x m : Str} {ps : List Str} {sp : Sp} {p pos apos : Pos} {e o : Expr} {es : List Expr} {ta : TE} {t : TA} {C : Addr}
theorem pe_cg (G : Good X.prog X.w X.K X.mg X.base CX0 k (x, none) ps sp) (hr : Room k X.A) (hm : X.mg x = some (.ref (He.ga X.K x))) (ha : PA X (e :: es) t) (hg : Gl X x := by rfl)
    (hdb : (x == ("__debug__" : Str)) = false := by decide) (he : starEach (e :: es) X.env = (false, eval e X.env) :: starEach es X.env := by rfl) (hpl : (backTo pos (starEach es X.env)).any (·.1) = false := by rfl) :
    PE X (.Call (.Name x p) (e :: es) [] pos) (tCall sp [] E0 t) := by
  obtain ⟨fd, F, b, kp, lk⟩ := G
  exact pe_call F hr hg hm kp b .nil pass0 ha hdb he hpl
theorem pe_cg0 (G : Good X.prog X.w X.K X.mg X.base CX0 k (x, none) ps sp) (hr : Room k X.A) (hm : X.mg x = some (.ref (He.ga X.K x))) (hg : Gl X x := by rfl) (hdb : (x == ("__debug__" : Str)) = false := by decide) :
    PE X (.Call (.Name x p) [] [] pos) (tCall sp [] E0 tNil) := by
  obtain ⟨fd, F, b, kp, lk⟩ := G
  exact pe_call0 F hr hg hm kp b .nil pass0 hdb
theorem pe_mg {cn : Str} {pl : Sem Bool} (he : PE X o ta) (c : Cls X.K (He.ga X.K cn)) (hm : Meth X.K (He.ga X.K cn) m (He.ma X.K (He.ga X.K cn) m)) (G : Good X.prog X.w X.K X.mg X.base CX0 k (cn, some m) ps sp) (hr : Room k X.A) (ha : PA X (e :: es) t)
    (hst : starEach (e :: es) X.env = (false, eval e X.env) :: starEach es X.env := by rfl) (hpl : (backTo pos (starEach es X.env)).any (·.1) = false := by rfl)
    (ht : eval (.Call (.Attribute o m apos) (e :: es) [] pos) X.env = (do
      let ov ← eval o X.env
      standAt apos.atName
      let (f, first) ← holding [ov] (getMethod ov m pl)
      callWith pos f first (backTo pos (starEach (e :: es) X.env)) (backToKw pos (keywordEach [] X.env))) := by rfl) :
    PE X (.Call (.Attribute o m apos) (e :: es) [] pos) (tMeth (He.ga X.K cn) m sp [] E0 ta t) := by
  obtain ⟨fd, F, b, kp, lk⟩ := G
  exact pe_meth he c hm F hr b .nil pass0 ha hst hpl ht
theorem pe_mg0 {cn : Str} {pl : Sem Bool} (he : PE X o ta) (c : Cls X.K (He.ga X.K cn)) (hm : Meth X.K (He.ga X.K cn) m (He.ma X.K (He.ga X.K cn) m)) (G : Good X.prog X.w X.K X.mg X.base CX0 k (cn, some m) ps sp) (hr : Room k X.A)
    (ht : eval (.Call (.Attribute o m apos) [] [] pos) X.env = (do
      let ov ← eval o X.env
      standAt apos.atName
      let (f, first) ← holding [ov] (getMethod ov m pl)
      callWith pos f first (backTo pos (starEach [] X.env)) (backToKw pos (keywordEach [] X.env))) := by rfl) :
    PE X (.Call (.Attribute o m apos) [] [] pos) (tMeth (He.ga X.K cn) m sp [] E0 ta tNil) := by
  obtain ⟨fd, F, b, kp, lk⟩ := G
  exact pe_meth0 he c hm F hr b .nil pass0 ht
theorem pe_mk0 (M : Mk X.K (He.ga X.K x) (He.ma X.K (He.ga X.K x) "__init__")) (G : Good X.prog X.w X.K X.mg X.base CX0 k (x, some "__init__") ps sp) (hr : Room (k + 1) X.A) (hm : X.mg x = some (.ref (He.ga X.K x))) (hg : Gl X x := by rfl)
    (hdb : (x == ("__debug__" : Str)) = false := by decide) : PE X (.Call (.Name x p) [] [] pos) (tMake (He.ga X.K x) sp [] E0 tNil) := by
  obtain ⟨fd, F, b, kp, lk⟩ := G
  exact pe_make0 M F hr hg hm b .nil pass0 hdb
theorem pe_gint {i : Int} (h : ∃ t, X.mg x = some (.int i t)) (hg : Gl X x) (hd : (x == ("__debug__" : Str)) = false := by decide) : PE X (.Name x pos) (tC (.int i)) := by
  obtain ⟨t, e⟩ := h
  exact pe_glob hg e ⟨_, rfl⟩ hd
theorem pe_gstr {z : Str} (h : ∃ t, X.mg x = some (.str z t)) (hg : Gl X x) (hd : (x == ("__debug__" : Str)) = false := by decide) : PE X (.Name x pos) (tC (.str z)) := by
  obtain ⟨t, e⟩ := h
  exact pe_glob hg e ⟨_, rfl⟩ hd
theorem pe_gref (h : X.mg x = some (.ref (He.ga X.K x))) (hg : Gl X x) (hd : (x == ("__debug__" : Str)) = false := by decide) : PE X (.Name x pos) (tC (.ref (He.ga X.K x))) :=
  pe_glob hg h rfl hd
theorem pe_mk0K (K : PySem.W.Frag) (hK : X.K = K) (M : Mk K (He.ga K x) (He.ma K (He.ga K x) "__init__")) (G : Good X.prog X.w K X.mg X.base CX0 k (x, some "__init__") ps sp) (hr : Room (k + 1) X.A) (hm : X.mg x = some (.ref (He.ga K x))) (hg : Gl X x := by rfl)
    (hdb : (x == ("__debug__" : Str)) = false := by decide) : PE X (.Call (.Name x p) [] [] pos) (tMake (He.ga K x) sp [] E0 tNil) := by subst hK; exact pe_mk0 M G hr hm hg hdb
theorem pe_mkgK (K : PySem.W.Frag) (hK : X.K = K) (M : Mk K (He.ga K x) (He.ma K (He.ga K x) "__init__")) (G : Good X.prog X.w K X.mg X.base CX0 k (x, some "__init__") ps sp) (hr : Room (k + 1) X.A) (hm : X.mg x = some (.ref (He.ga K x))) (ha : PA X (e :: es) t) (hg : Gl X x := by rfl)
    (hdb : (x == ("__debug__" : Str)) = false := by decide) (hst : starEach (e :: es) X.env = (false, eval e X.env) :: starEach es X.env := by rfl) (hpl : (backTo pos (starEach es X.env)).any (·.1) = false := by rfl) : PE X (.Call (.Name x p) (e :: es) [] pos) (tMake (He.ga K x) sp [] E0 t) := by
  subst hK
  obtain ⟨fd, F, b, kp, lk⟩ := G
  exact pe_make M F hr hg hm b .nil pass0 ha hdb hst hpl
/-- one of two readings -/
theorem pe_or {t1 t2 : TE} (h1 : PE X e t1) (h2 : PE X e t2) : PE X e (fun σ H Q => t1 σ H Q ∨ t2 σ H Q) := ⟨fun pins s σ H Q I h => h.elim (h1.run pins s σ H Q I) (h2.run pins s σ H Q I)⟩
/-! the written part said outright (in a comprehension's block it is another word for the same) -/
variable {K : PySem.W.Frag} {f : Str} {a b i : Expr} {tb : TE}
theorem pe_fldK (K : PySem.W.Frag) (hK : X.K = K) (he : PE X e ta) (hb : attributeBase e f X.env (eval e X.env) = eval e X.env) : PE X (.Attribute e f pos) (tFld K ta f) := by subst hK; exact pe_fld he hb
theorem ix_listK (K : PySem.W.Frag) (hK : X.K = K) : IxR X (rIxL K) := by subst hK; exact ix_list
theorem ix_tupK (K : PySem.W.Frag) (hK : X.K = K) : IxR X (rIxT K) := by subst hK; exact ix_tup
theorem sl_listK (K : PySem.W.Frag) (hK : X.K = K) : SlR X (rSlL K) := by subst hK; exact sl_list
theorem sl_tupK (K : PySem.W.Frag) (hK : X.K = K) : SlR X (rSlT K) := by subst hK; exact sl_tup
theorem op_inK (K : PySem.W.Frag) (hK : X.K = K) : OpR X (compareOp .In) (rIn K false) := by subst hK; exact op_in_seq
theorem op_notInK (K : PySem.W.Frag) (hK : X.K = K) : OpR X (compareOp .NotIn) (rIn K true) := by subst hK; exact op_notIn_seq
theorem op_eqDK (K : PySem.W.Frag) (hK : X.K = K) (hu : X.A.units + 64 < cLine) : OpR X (compareOp .Eq) (rEqD K) := by subst hK; exact op_eqD hu
theorem op_neDK (K : PySem.W.Frag) (hK : X.K = K) (hu : X.A.units + 64 < cLine) : OpR X (compareOp .NotEq) (rNeD K) := by subst hK; exact op_neD hu
theorem op_catTK (K : PySem.W.Frag) (hK : X.K = K) : OpR X (binaryOp .Add) (rCatT K) := by subst hK; exact op_catT
theorem call_isiK (K : PySem.W.Frag) (hK : X.K = K) : CallR X (.builtin "isinstance") (rIsi K) := by subst hK; exact call_isi
def rLenS (K : PySem.W.Frag) : List V → Hp → VK → Prop := fun xs H Q => ∃ p ys, xs = [.ref p] ∧ (SqL K H p ys ∨ SqT K H p ys) ∧ Q (.int ys.length) H
theorem call_lenK (K : PySem.W.Frag) (hK : X.K = K) : CallR X (.builtin "len") (rLenS K) := by subst hK; exact call_len_seq
def rListOf (K : PySem.W.Frag) : List V → Hp → VK → Prop := fun xs H Q => ∃ p ys, xs = [.ref p] ∧ (SqL K H p ys ∨ SqT K H p ys) ∧ ∀ l, H l = none → Q (.ref l) (upd H l (.lst ys))
theorem call_listK (K : PySem.W.Frag) (hK : X.K = K) : CallR X (.type "list") (rListOf K) := by subst hK; exact call_list_of
theorem cr_sumK (K : PySem.W.Frag) (hK : X.K = K) (hc : X.calm = true) : CallR X (.builtin "sum") (rSum K) := by subst hK; exact cr_sum hc
theorem cr_maxK (K : PySem.W.Frag) (hK : X.K = K) (hc : X.calm = true) : CallR X (.builtin "max") (rMax K) := by subst hK; exact cr_max hc
theorem cr_minK (K : PySem.W.Frag) (hK : X.K = K) (hc : X.calm = true) : CallR X (.builtin "min") (rMin K) := by subst hK; exact cr_min hc
theorem pi_listK (K : PySem.W.Frag) (hK : X.K = K) {tg l : Expr} {tl : TE} (hl : PE X l tl) : PI X tg l (iList K tl) := by subst hK; exact pi_list hl
theorem pi_tupK (K : PySem.W.Frag) (hK : X.K = K) {tg l : Expr} {tl : TE} (hl : PE X l tl) : PI X tg l (iTup K tl) := by subst hK; exact pi_tup hl
theorem pe_mgK (K : PySem.W.Frag) (hK : X.K = K) {cn : Str} {pl : Sem Bool} (he : PE X o ta) (c : Cls K (He.ga K cn)) (hm : Meth K (He.ga K cn) m (He.ma K (He.ga K cn) m)) (G : Good X.prog X.w K X.mg X.base CX0 k (cn, some m) ps sp) (hr : Room k X.A) (ha : PA X (e :: es) t)
    (hst : starEach (e :: es) X.env = (false, eval e X.env) :: starEach es X.env := by rfl) (hpl : (backTo pos (starEach es X.env)).any (·.1) = false := by rfl)
    (ht : eval (.Call (.Attribute o m apos) (e :: es) [] pos) X.env = (do
      let ov ← eval o X.env
      standAt apos.atName
      let (f, first) ← holding [ov] (getMethod ov m pl)
      callWith pos f first (backTo pos (starEach (e :: es) X.env)) (backToKw pos (keywordEach [] X.env))) := by rfl) :
    PE X (.Call (.Attribute o m apos) (e :: es) [] pos) (tMeth (He.ga K cn) m sp [] E0 ta t) := by subst hK; exact pe_mg he c hm G hr ha hst hpl ht
theorem pe_mg0K (K : PySem.W.Frag) (hK : X.K = K) {cn : Str} {pl : Sem Bool} (he : PE X o ta) (c : Cls K (He.ga K cn)) (hm : Meth K (He.ga K cn) m (He.ma K (He.ga K cn) m)) (G : Good X.prog X.w K X.mg X.base CX0 k (cn, some m) ps sp) (hr : Room k X.A)
    (ht : eval (.Call (.Attribute o m apos) [] [] pos) X.env = (do
      let ov ← eval o X.env
      standAt apos.atName
      let (f, first) ← holding [ov] (getMethod ov m pl)
      callWith pos f first (backTo pos (starEach [] X.env)) (backToKw pos (keywordEach [] X.env))) := by rfl) :
    PE X (.Call (.Attribute o m apos) [] [] pos) (tMeth (He.ga K cn) m sp [] E0 ta tNil) := by subst hK; exact pe_mg0 he c hm G hr ht
theorem pe_cgK (K : PySem.W.Frag) (hK : X.K = K) (G : Good X.prog X.w K X.mg X.base CX0 k (x, none) ps sp) (hr : Room k X.A) (hm : X.mg x = some (.ref (He.ga K x))) (ha : PA X (e :: es) t) (hg : Gl X x := by rfl)
    (hdb : (x == ("__debug__" : Str)) = false := by decide) (he : starEach (e :: es) X.env = (false, eval e X.env) :: starEach es X.env := by rfl) (hpl : (backTo pos (starEach es X.env)).any (·.1) = false := by rfl) :
    PE X (.Call (.Name x p) (e :: es) [] pos) (tCall sp [] E0 t) := by subst hK; exact pe_cg G hr hm ha hg hdb he hpl
theorem pe_grefK (K : PySem.W.Frag) (hK : X.K = K) (h : X.mg x = some (.ref (He.ga K x))) (hg : Gl X x) (hd : (x == ("__debug__" : Str)) = false := by decide) : PE X (.Name x pos) (tC (.ref (He.ga K x))) := by subst hK; exact pe_gref h hg hd
end
end JF

/-! ### squares as trees: the mathematics of a grove, no program in sight -/
namespace JF
open PySem PySem.Spec PyProof.Rows L2

inductive Sq where
  | leaf (s : Int)
  | node (a b c d : Sq)
  deriving DecidableEq
abbrev Box := Int × Int × Int × Int
def rb : Option Box → Box → Box
  | none, o => o
  | some b, o => (min b.1 o.1, min b.2.1 o.2.1, max (b.1 + b.2.2.1) (o.1 + o.2.2.1) - min b.1 o.1, max (b.2.1 + b.2.2.2) (o.2.1 + o.2.2.2) - min b.2.1 o.2.1)
def r4step (half : Int) (at_ : Int) (f : Option Box) : Option Box → Option Box
  | none => f
  | some b => some (rb f (b.1 + half * (at_ % 2), b.2.1 + half * (at_ / 2), b.2.2.1, b.2.2.2))
def r4 (half : Int) (a b c d : Option Box) : Option Box := r4step half 3 (r4step half 2 (r4step half 1 (r4step half 0 none a) b) c) d
namespace Sq
def level : Sq → Nat
  | leaf _ => 0
  | node a _ _ _ => a.level + 1
def lives : Sq → Int
  | leaf s => if s = 0 then 0 else 1
  | node a b c d => a.lives + b.lives + c.lives + d.lives
def span : Sq → Option Box
  | leaf s => if s = 0 then none else some (0, 0, 1, 1)
  | node a b c d => r4 (2 ^ a.level : Int) a.span b.span c.span d.span
def wf : Sq → Prop
  | leaf s => 0 ≤ s ∧ s ≤ 7
  | node a b c d => a.wf ∧ b.wf ∧ c.wf ∧ d.wf ∧ b.level = a.level ∧ c.level = a.level ∧ d.level = a.level
def even : Nat → Int → Sq
  | 0, s => leaf s
  | k + 1, s => node (even k s) (even k s) (even k s) (even k s)
theorem level_even (k : Nat) (s : Int) : (even k s).level = k := by
  induction k with
  | zero => rfl
  | succ k ih => show (even k s).level + 1 = k + 1; rw [ih]
theorem wf_even {s : Int} (h0 : 0 ≤ s) (h1 : s ≤ 7) (k : Nat) : (even k s).wf := by
  induction k with
  | zero => exact ⟨h0, h1⟩
  | succ k ih => exact ⟨ih, ih, ih, ih, rfl, rfl, rfl⟩
theorem lives_nonneg : ∀ S : Sq, 0 ≤ S.lives
  | leaf s => by unfold lives; split <;> omega
  | node a b c d => by
    have h1 := lives_nonneg a; have h2 := lives_nonneg b; have h3 := lives_nonneg c; have h4 := lives_nonneg d
    unfold lives; omega
end Sq

/-! ### the dict of a grove: what was made, by numbers -/
def kvsOf : List (List Int) → Nat → List (List Key × V)
  | [], _ => []
  | m :: r, i => (m.map Sum.inl, V.int (i : Int)) :: kvsOf r (i + 1)
def lookI : List (List Int) → List Int → Nat → Option Nat
  | [], _, _ => none
  | m :: r, k, i => if m = k then some i else lookI r k (i + 1)
theorem inl_inj : ∀ {a b : List Int}, a.map (Sum.inl : Int → Key) = b.map Sum.inl → a = b
  | [], [], _ => rfl
  | [], _ :: _, h => by cases h
  | _ :: _, [], h => by cases h
  | x :: a, y :: b, h => by
    simp only [List.map_cons, List.cons.injEq, Sum.inl.injEq] at h
    rw [h.1, inl_inj h.2]
theorem kvsOf_len : ∀ (mk : List (List Int)) (i : Nat), (kvsOf mk i).length = mk.length
  | [], _ => rfl
  | _ :: r, i => by show (kvsOf r (i + 1)).length + 1 = r.length + 1; rw [kvsOf_len r]
theorem kvsOf_app : ∀ (mk : List (List Int)) (m : List Int) (i : Nat), kvsOf (mk ++ [m]) i = kvsOf mk i ++ [(m.map Sum.inl, V.int ((i + mk.length : Nat) : Int))]
  | [], m, i => rfl
  | x :: r, m, i => by
    show _ :: kvsOf (r ++ [m]) (i + 1) = _ :: (kvsOf r (i + 1) ++ _)
    rw [kvsOf_app r m (i + 1)]
    have e : i + 1 + r.length = i + (x :: r).length := by simp; omega
    rw [e]
theorem valV_kvsOf : ∀ (mk : List (List Int)) (k : List Int) (i : Nat), valV (kvsOf mk i) (k.map Sum.inl) = (lookI mk k i).map fun n : Nat => V.int (n : Int)
  | [], _, _ => rfl
  | m :: r, k, i => by
    by_cases h : m = k
    · subst h
      simp [kvsOf, lookI, valV]
    · have h' : ¬ (m.map (Sum.inl : Int → Key) = k.map Sum.inl) := fun e => h (inl_inj e)
      have ih := valV_kvsOf r k (i + 1)
      simp only [kvsOf, lookI, valV, List.find?_cons, h, h', decide_false, if_false] at ih ⊢
      exact ih
theorem lookI_some : ∀ {mk : List (List Int)} {k : List Int} {i n : Nat}, lookI mk k i = some n → i ≤ n ∧ mk[n - i]? = some k
  | [], _, _, _, h => by cases h
  | m :: r, k, i, n, h => by
    by_cases e : m = k
    · simp only [lookI, e, if_true, Option.some.injEq] at h
      subst h
      simp [e]
    · simp only [lookI, e, if_false] at h
      obtain ⟨h1, h2⟩ := lookI_some h
      refine ⟨by omega, ?_⟩
      have e2 : n - i = (n - (i + 1)) + 1 := by omega
      rw [e2, List.getElem?_cons_succ]
      exact h2
theorem lookI_none : ∀ {mk : List (List Int)} {k : List Int} {i : Nat}, lookI mk k i = none → k ∉ mk
  | [], _, _, _ => by simp
  | m :: r, k, i, h => by
    by_cases e : m = k
    · simp [lookI, e] at h
    · simp only [lookI, e, if_false] at h
      have := lookI_none h
      simp only [List.mem_cons, not_or]
      exact ⟨fun z => e z.symm, this⟩

/-- what a square is made of, by the numbers of its quarters -/
def Made (q : List Sq) : Sq → List Int → Prop
  | .leaf s, m => m = [s]
  | .node A B C D, m => ∃ a b c d : Nat, m = [(a : Int), (b : Int), (c : Int), (d : Int)] ∧ q[a]? = some A ∧ q[b]? = some B ∧ q[c]? = some C ∧ q[d]? = some D
theorem getElem?_app {α : Type} {q : List α} {i : Nat} {x : α} (h : q[i]? = some x) (t : List α) : (q ++ t)[i]? = some x := by
  rw [List.getElem?_append_left (List.getElem?_eq_some_iff.mp h).1]
  exact h
theorem Made.app {q : List Sq} {S : Sq} {m : List Int} (h : Made q S m) (t : List Sq) : Made (q ++ t) S m := by
  cases S with
  | leaf s => exact h
  | node A B C D =>
    obtain ⟨a, b, c, d, e, h1, h2, h3, h4⟩ := h
    exact ⟨a, b, c, d, e, getElem?_app h1 t, getElem?_app h2 t, getElem?_app h3 t, getElem?_app h4 t⟩
theorem nodup_at {q : List Sq} (hq : q.Nodup) {i j : Nat} {S : Sq} (a : q[i]? = some S) (b : q[j]? = some S) : i = j := by
  obtain ⟨h1, e1⟩ := List.getElem?_eq_some_iff.mp a
  obtain ⟨h2, e2⟩ := List.getElem?_eq_some_iff.mp b
  exact (List.getElem_inj hq).mp (e1.trans e2.symm)
theorem made_inj {q : List Sq} (hq : q.Nodup) {S : Sq} {m m' : List Int} (a : Made q S m) (b : Made q S m') : m = m' := by
  cases S with
  | leaf s => exact (show m = [s] from a).trans (show m' = [s] from b).symm
  | node A B C D =>
    obtain ⟨a1, b1, c1, d1, rfl, h1, h2, h3, h4⟩ := a
    obtain ⟨a2, b2, c2, d2, rfl, k1, k2, k3, k4⟩ := b
    rw [nodup_at hq h1 k1, nodup_at hq h2 k2, nodup_at hq h3 k3, nodup_at hq h4 k4]
theorem made_same {q : List Sq} {S S' : Sq} {m : List Int} (a : Made q S m) (b : Made q S' m) : S = S' := by
  cases S with
  | leaf s =>
    cases S' with
    | leaf s' =>
      have e : [s] = [s'] := (show m = [s] from a).symm.trans (show m = [s'] from b)
      simp only [List.cons.injEq, and_true] at e
      rw [e]
    | node A B C D =>
      obtain ⟨a2, b2, c2, d2, e, _⟩ := b
      have e1 : m = [s] := a
      rw [e1] at e
      simp at e
  | node A B C D =>
    obtain ⟨a1, b1, c1, d1, e1, h1, h2, h3, h4⟩ := a
    cases S' with
    | leaf s' =>
      have e2 : m = [s'] := b
      rw [e1] at e2
      simp at e2
    | node A' B' C' D' =>
      obtain ⟨a2, b2, c2, d2, e2, k1, k2, k3, k4⟩ := b
      rw [e1] at e2
      simp only [List.cons.injEq, Int.ofNat_inj, and_true] at e2
      obtain ⟨rfl, rfl, rfl, rfl⟩ := e2
      rw [h1] at k1; rw [h2] at k2; rw [h3] at k3; rw [h4] at k4
      cases k1; cases k2; cases k3; cases k4
      rfl
end JF

namespace JF
open PySem PySem.Spec PyProof.Rows L2
def top (i : Nat) : Stmt := PySem.Challenge.pw_jumpfield_k25_the_box_of_a_field.main.body.getD i (.Pass ⟨0, 0, 0, 0⟩)
abbrev st_x_wall : Stmt := top 0
theorem sc_x_wall : FnScope ["k"] ["k"] (defScope st_x_wall) := ⟨rfl, rfl, rfl, by decide +kernel, rfl, by decide +kernel, by decide +kernel⟩
def d_x_wall : He.DefD := ⟨("_wall", none), "_wall", "_wall", defArgs (top 0), defBody (top 0), defScope (top 0), [], []⟩
abbrev st_box_of : Stmt := top 8
theorem sc_box_of : FnScope ["grove", "field", "span", "half"] ["grove", "field"] (defScope st_box_of) := ⟨rfl, rfl, rfl, by decide +kernel, rfl, by decide +kernel, by decide +kernel⟩
def d_box_of : He.DefD := ⟨("box_of", none), "box_of", "box_of", defArgs (top 8), defBody (top 8), defScope (top 8), [], []⟩
abbrev st_is_whole : Stmt := top 10
theorem sc_is_whole : FnScope ["thing"] ["thing"] (defScope st_is_whole) := ⟨rfl, rfl, rfl, by decide +kernel, rfl, by decide +kernel, by decide +kernel⟩
def d_is_whole : He.DefD := ⟨("is_whole", none), "is_whole", "is_whole", defArgs (top 10), defBody (top 10), defScope (top 10), [], []⟩
abbrev st_round_both : Stmt := top 14
theorem sc_round_both : FnScope ["one", "other", "left", "top", "right", "low"] ["one", "other"] (defScope st_round_both) := ⟨rfl, rfl, rfl, by decide +kernel, rfl, by decide +kernel, by decide +kernel⟩
def d_round_both : He.DefD := ⟨("round_both", none), "round_both", "round_both", defArgs (top 14), defBody (top 14), defScope (top 14), [], []⟩
abbrev st_round_four : Stmt := top 15
theorem sc_round_four : FnScope ["spans", "half", "found", "at", "span", "left", "top"] ["spans", "half"] (defScope st_round_four) := ⟨rfl, rfl, rfl, by decide +kernel, rfl, by decide +kernel, by decide +kernel⟩
def d_round_four : He.DefD := ⟨("round_four", none), "round_four", "round_four", defArgs (top 15), defBody (top 15), defScope (top 15), [], []⟩
abbrev st_is_state : Stmt := top 16
theorem sc_is_state : FnScope ["thing"] ["thing"] (defScope st_is_state) := ⟨rfl, rfl, rfl, by decide +kernel, rfl, by decide +kernel, by decide +kernel⟩
def d_is_state : He.DefD := ⟨("is_state", none), "is_state", "is_state", defArgs (top 16), defBody (top 16), defScope (top 16), [], []⟩
abbrev st_Grove_init : Stmt := inClass (top 17) 0
theorem sc_Grove_init : FnScope ["self"] ["self"] (defScope st_Grove_init) := ⟨rfl, rfl, rfl, by decide +kernel, rfl, by decide +kernel, by decide +kernel⟩
def d_Grove_init : He.DefD := ⟨("Grove", some "__init__"), "__init__", "Grove.__init__", defArgs (inClass (top 17) 0), defBody (inClass (top 17) 0), defScope (inClass (top 17) 0), [], []⟩
abbrev st_Grove_kept : Stmt := inClass (top 17) 1
theorem sc_Grove_kept : FnScope ["self", "made", "level", "lives", "span", "number"] ["self", "made", "level", "lives", "span"] (defScope st_Grove_kept) := ⟨rfl, rfl, rfl, by decide +kernel, rfl, by decide +kernel, by decide +kernel⟩
def d_Grove_kept : He.DefD := ⟨("Grove", some "kept"), "kept", "Grove.kept", defArgs (inClass (top 17) 1), defBody (inClass (top 17) 1), defScope (inClass (top 17) 1), [], []⟩
abbrev st_Grove_cell : Stmt := inClass (top 17) 2
theorem sc_Grove_cell : FnScope ["self", "state", "made"] ["self", "state"] (defScope st_Grove_cell) := ⟨rfl, rfl, rfl, by decide +kernel, rfl, by decide +kernel, by decide +kernel⟩
def d_Grove_cell : He.DefD := ⟨("Grove", some "cell"), "cell", "Grove.cell", defArgs (inClass (top 17) 2), defBody (inClass (top 17) 2), defScope (inClass (top 17) 2), [], []⟩
abbrev st_Grove_knit : Stmt := inClass (top 17) 3
theorem sc_Grove_knit : FnScope ["self", "a", "b", "c", "d", "made", "level", "lives", "span", "one"] ["self", "a", "b", "c", "d"] (defScope st_Grove_knit) := ⟨rfl, rfl, rfl, by decide +kernel, rfl, by decide +kernel, by decide +kernel⟩
def d_Grove_knit : He.DefD := ⟨("Grove", some "knit"), "knit", "Grove.knit", defArgs (inClass (top 17) 3), defBody (inClass (top 17) 3), defScope (inClass (top 17) 3), [], []⟩
abbrev st_Grove_even : Stmt := inClass (top 17) 4
theorem sc_Grove_even : FnScope ["self", "level", "state", "row", "one"] ["self", "level", "state"] (defScope st_Grove_even) := ⟨rfl, rfl, rfl, by decide +kernel, rfl, by decide +kernel, by decide +kernel⟩
def d_Grove_even : He.DefD := ⟨("Grove", some "even"), "even", "Grove.even", defArgs (inClass (top 17) 4), defBody (inClass (top 17) 4), defScope (inClass (top 17) 4), [], []⟩
abbrev st_Grove_asked : Stmt := inClass (top 17) 5
theorem sc_Grove_asked : FnScope ["self", "square"] ["self", "square"] (defScope st_Grove_asked) := ⟨rfl, rfl, rfl, by decide +kernel, rfl, by decide +kernel, by decide +kernel⟩
def d_Grove_asked : He.DefD := ⟨("Grove", some "asked"), "asked", "Grove.asked", defArgs (inClass (top 17) 5), defBody (inClass (top 17) 5), defScope (inClass (top 17) 5), [], []⟩
abbrev st_Grove_leaf : Stmt := inClass (top 17) 6
theorem sc_Grove_leaf : FnScope ["self", "state"] ["self", "state"] (defScope st_Grove_leaf) := ⟨rfl, rfl, rfl, by decide +kernel, rfl, by decide +kernel, by decide +kernel⟩
def d_Grove_leaf : He.DefD := ⟨("Grove", some "leaf"), "leaf", "Grove.leaf", defArgs (inClass (top 17) 6), defBody (inClass (top 17) 6), defScope (inClass (top 17) 6), [], []⟩
abbrev st_Grove_joined : Stmt := inClass (top 17) 7
theorem sc_Grove_joined : FnScope ["self", "a", "b", "c", "d"] ["self", "a", "b", "c", "d"] (defScope st_Grove_joined) := ⟨rfl, rfl, rfl, by decide +kernel, rfl, by decide +kernel, by decide +kernel⟩
def d_Grove_joined : He.DefD := ⟨("Grove", some "joined"), "joined", "Grove.joined", defArgs (inClass (top 17) 7), defBody (inClass (top 17) 7), defScope (inClass (top 17) 7), [], []⟩
abbrev st_Grove_solid : Stmt := inClass (top 17) 8
theorem sc_Grove_solid : FnScope ["self", "level", "state"] ["self", "level", "state"] (defScope st_Grove_solid) := ⟨rfl, rfl, rfl, by decide +kernel, rfl, by decide +kernel, by decide +kernel⟩
def d_Grove_solid : He.DefD := ⟨("Grove", some "solid"), "solid", "Grove.solid", defArgs (inClass (top 17) 8), defBody (inClass (top 17) 8), defScope (inClass (top 17) 8), [], []⟩
abbrev st_Grove_level_of : Stmt := inClass (top 17) 9
theorem sc_Grove_level_of : FnScope ["self", "square"] ["self", "square"] (defScope st_Grove_level_of) := ⟨rfl, rfl, rfl, by decide +kernel, rfl, by decide +kernel, by decide +kernel⟩
def d_Grove_level_of : He.DefD := ⟨("Grove", some "level_of"), "level_of", "Grove.level_of", defArgs (inClass (top 17) 9), defBody (inClass (top 17) 9), defScope (inClass (top 17) 9), [], []⟩
abbrev st_Grove_quarters : Stmt := inClass (top 17) 10
theorem sc_Grove_quarters : FnScope ["self", "square"] ["self", "square"] (defScope st_Grove_quarters) := ⟨rfl, rfl, rfl, by decide +kernel, rfl, by decide +kernel, by decide +kernel⟩
def d_Grove_quarters : He.DefD := ⟨("Grove", some "quarters"), "quarters", "Grove.quarters", defArgs (inClass (top 17) 10), defBody (inClass (top 17) 10), defScope (inClass (top 17) 10), [], []⟩
abbrev st_Grove_state_of : Stmt := inClass (top 17) 11
theorem sc_Grove_state_of : FnScope ["self", "square"] ["self", "square"] (defScope st_Grove_state_of) := ⟨rfl, rfl, rfl, by decide +kernel, rfl, by decide +kernel, by decide +kernel⟩
def d_Grove_state_of : He.DefD := ⟨("Grove", some "state_of"), "state_of", "Grove.state_of", defArgs (inClass (top 17) 11), defBody (inClass (top 17) 11), defScope (inClass (top 17) 11), [], []⟩
abbrev st_Grove_living : Stmt := inClass (top 17) 12
theorem sc_Grove_living : FnScope ["self", "square"] ["self", "square"] (defScope st_Grove_living) := ⟨rfl, rfl, rfl, by decide +kernel, rfl, by decide +kernel, by decide +kernel⟩
def d_Grove_living : He.DefD := ⟨("Grove", some "living"), "living", "Grove.living", defArgs (inClass (top 17) 12), defBody (inClass (top 17) 12), defScope (inClass (top 17) 12), [], []⟩
abbrev st_Grove_span : Stmt := inClass (top 17) 13
theorem sc_Grove_span : FnScope ["self", "square"] ["self", "square"] (defScope st_Grove_span) := ⟨rfl, rfl, rfl, by decide +kernel, rfl, by decide +kernel, by decide +kernel⟩
def d_Grove_span : He.DefD := ⟨("Grove", some "span"), "span", "Grove.span", defArgs (inClass (top 17) 13), defBody (inClass (top 17) 13), defScope (inClass (top 17) 13), [], []⟩
abbrev st_in_ground : Stmt := top 20
theorem sc_in_ground : FnScope ["x", "y"] ["x", "y"] (defScope st_in_ground) := ⟨rfl, rfl, rfl, by decide +kernel, rfl, by decide +kernel, by decide +kernel⟩
def d_in_ground : He.DefD := ⟨("in_ground", none), "in_ground", "in_ground", defArgs (top 20), defBody (top 20), defScope (top 20), [], []⟩
abbrev st_meeting : Stmt := top 21
theorem sc_meeting : FnScope ["grove", "a", "b", "c", "d", "one", "two", "three", "four"] ["grove", "a", "b", "c", "d"] (defScope st_meeting) := ⟨rfl, rfl, rfl, by decide +kernel, rfl, by decide +kernel, by decide +kernel⟩
def d_meeting : He.DefD := ⟨("meeting", none), "meeting", "meeting", defArgs (top 21), defBody (top 21), defScope (top 21), [], []⟩
abbrev st_middle_of : Stmt := top 22
theorem sc_middle_of : FnScope ["grove", "square", "four"] ["grove", "square"] (defScope st_middle_of) := ⟨rfl, rfl, rfl, by decide +kernel, rfl, by decide +kernel, by decide +kernel⟩
def d_middle_of : He.DefD := ⟨("middle_of", none), "middle_of", "middle_of", defArgs (top 22), defBody (top 22), defScope (top 22), [], []⟩
abbrev st_widened : Stmt := top 23
theorem sc_widened : FnScope ["grove", "square", "level", "four", "no", "one", "two", "three", "last"] ["grove", "square"] (defScope st_widened) := ⟨rfl, rfl, rfl, by decide +kernel, rfl, by decide +kernel, by decide +kernel⟩
def d_widened : He.DefD := ⟨("widened", none), "widened", "widened", defArgs (top 23), defBody (top 23), defScope (top 23), [], []⟩
abbrev st_trimmed : Stmt := top 24
theorem sc_trimmed : FnScope ["grove", "square", "inner"] ["grove", "square"] (defScope st_trimmed) := ⟨rfl, rfl, rfl, by decide +kernel, rfl, by decide +kernel, by decide +kernel⟩
def d_trimmed : He.DefD := ⟨("trimmed", none), "trimmed", "trimmed", defArgs (top 24), defBody (top 24), defScope (top 24), [], []⟩
abbrev st_put_in : Stmt := top 25
theorem sc_put_in : FnScope ["grove", "square", "x", "y", "leaf", "level", "half", "four", "at"] ["grove", "square", "x", "y", "leaf"] (defScope st_put_in) := ⟨rfl, rfl, rfl, by decide +kernel, rfl, by decide +kernel, by decide +kernel⟩
def d_put_in : He.DefD := ⟨("put_in", none), "put_in", "put_in", defArgs (top 25), defBody (top 25), defScope (top 25), [], []⟩
abbrev st_planted : Stmt := top 26
theorem sc_planted : FnScope ["grove", "field", "x", "y", "state", "leaf", "half"] ["grove", "field", "x", "y", "state"] (defScope st_planted) := ⟨rfl, rfl, rfl, by decide +kernel, rfl, by decide +kernel, by decide +kernel⟩
def d_planted : He.DefD := ⟨("planted", none), "planted", "planted", defArgs (top 26), defBody (top 26), defScope (top 26), [], []⟩
abbrev st_w_at : Stmt := top 28
theorem sc_w_at : FnScope ["_law_script", "_law_k"] ["_law_script", "_law_k"] (defScope st_w_at) := ⟨rfl, rfl, rfl, by decide +kernel, rfl, by decide +kernel, by decide +kernel⟩
def d_w_at : He.DefD := ⟨("_law_at", none), "_law_at", "_law_at", defArgs (top 28), defBody (top 28), defScope (top 28), [], []⟩
abbrev st_w_bits : Stmt := top 29
theorem sc_w_bits : FnScope ["_law_cell"] ["_law_cell"] (defScope st_w_bits) := ⟨rfl, rfl, rfl, by decide +kernel, rfl, by decide +kernel, by decide +kernel⟩
def d_w_bits : He.DefD := ⟨("_law_bits", none), "_law_bits", "_law_bits", defArgs (top 29), defBody (top 29), defScope (top 29), [], []⟩
abbrev st_w_spot : Stmt := top 30
theorem sc_w_spot : FnScope ["_law_cell", "_law_bits_here", "_law_way", "_law_rest", "_law_wide"] ["_law_cell", "_law_bits_here"] (defScope st_w_spot) := ⟨rfl, rfl, rfl, by decide +kernel, rfl, by decide +kernel, by decide +kernel⟩
def d_w_spot : He.DefD := ⟨("_law_spot", none), "_law_spot", "_law_spot", defArgs (top 30), defBody (top 30), defScope (top 30), [], []⟩
abbrev st_w_box : Stmt := top 31
theorem sc_w_box : FnScope ["_law_places", "_law_half", "_law_across", "_law_down", "_law_left", "_law_top", "_law_place"] ["_law_places", "_law_half"] (defScope st_w_box) := ⟨rfl, rfl, rfl, by decide +kernel, rfl, by decide +kernel, by decide +kernel⟩
def d_w_box : He.DefD := ⟨("_law_box", none), "_law_box", "_law_box", defArgs (top 31), defBody (top 31), defScope (top 31), [], []⟩
abbrev st_w_right : Stmt := top 32
theorem sc_w_right : FnScope ["_law_found", "_law_due", "_law_k"] ["_law_found", "_law_due"] (defScope st_w_right) := ⟨rfl, rfl, rfl, by decide +kernel, rfl, by decide +kernel, by decide +kernel⟩
def d_w_right : He.DefD := ⟨("_law_right", none), "_law_right", "_law_right", defArgs (top 32), defBody (top 32), defScope (top 32), [], []⟩
abbrev st_law : Stmt := top 33
theorem sc_law : FnScope ["_law_script", "_law_grove", "_law_field", "_law_half", "_law_bits_here", "_law_level", "_law_lives", "_law_before", "_law_rows", "_law_at_here", "_law_x", "_law_y", "_law_state", "_law_living", "_law_one", "_law_due", "_law_place"] ["_law_script"] (defScope st_law) := ⟨rfl, rfl, rfl, by decide +kernel, rfl, by decide +kernel, by decide +kernel⟩
def d_law : He.DefD := ⟨("law", none), "law", "law", defArgs (top 33), defBody (top 33), defScope (top 33), [], []⟩
def fn : List He.DefD := [d_x_wall, d_box_of, d_is_whole, d_round_both, d_round_four, d_is_state, d_Grove_init, d_Grove_kept, d_Grove_cell, d_Grove_knit, d_Grove_even, d_Grove_asked, d_Grove_leaf, d_Grove_joined, d_Grove_solid, d_Grove_level_of, d_Grove_quarters, d_Grove_state_of, d_Grove_living, d_Grove_span, d_in_ground, d_meeting, d_middle_of, d_widened, d_trimmed, d_put_in, d_planted, d_w_at, d_w_bits, d_w_spot, d_w_box, d_w_right, d_law]
def fa : List He.Fa := [(.cls "Grove"), (.meth "Grove" "span"), (.meth "Grove" "level_of"), (.free "bool"), (.free "isinstance"), (.free "int"), (.free "min"), (.free "max"), (.free "enumerate"), (.glo "round_both"), (.glo "is_whole"), (.free "len"), (.meth "Grove" "kept"), (.glo "round_four"), (.meth "Grove" "cell"), (.meth "Grove" "knit"), (.int "MANY" 1000000000), (.glo "is_state"), (.glo "_wall"), (.int "HIGHEST" 48), (.meth "Grove" "even"), (.meth "Grove" "asked"), (.int "LIMIT" 1099511627776), (.meth "Grove" "quarters"), (.glo "meeting"), (.glo "middle_of"), (.meth "Grove" "living"), (.free "list"), (.glo "put_in"), (.glo "in_ground"), (.meth "Grove" "leaf"), (.glo "widened"), (.glo "trimmed"), (.free "tuple"), (.free "range"), (.mkr "Grove"), (.glo "Grove"), (.meth "Grove" "solid"), (.glo "_law_bits"), (.glo "_law_at"), (.glo "_law_box"), (.glo "_law_spot"), (.glo "planted"), (.free "sorted"), (.glo "_law_right"), (.glo "box_of"), (.noat "Grove" "levels"), (.noat "Grove" "lives"), (.noat "Grove" "made"), (.noat "Grove" "numbers"), (.noat "Grove" "plain"), (.noat "Grove" "spans"), (.glo "law")]
def loose0 : List Str := ["_wall", "FieldError", "NoSquare", "NoLevel", "NoState", "TooFar", "box_of", "is_whole", "HIGHEST", "MANY", "round_both", "round_four", "is_state", "Grove", "LIMIT", "in_ground", "meeting", "middle_of", "widened", "trimmed", "put_in", "planted", "_law_at", "_law_bits", "_law_spot", "_law_box", "_law_right"]
def looseN : List Str := loose0
end JF

/-! ### readings step by step: a rule for each construct, tried by «walk_at "rd"» -/
namespace JF
open PySem PySem.Spec PyProof.Rows L2
section
variable {D : Ends} {σ : L2.St} {H : Hp} {Q : VK} {QB : Bool → Hp → Prop} {QA : List V → Hp → Prop} {t u : TS} {te ta tb tc : TE} {g : TG} {c c' : TT} {v : V} {i : Nat} {K : PySem.W.Frag}
theorem rd_seq (h : t { D with nx := u D } σ H) : tSeq t u D σ H := h
/-- the walk halts ahead of a loop -/
def Halt (p : Prop) : Prop := p
theorem rd_seqF {wi : TI} (h : Halt (tSeq (tFor wi g t) u D σ H)) : tSeq (tFor wi g t) u D σ H := h
theorem rd_seqW (h : Halt (tSeq (tWhile c t) u D σ H)) : tSeq (tWhile c t) u D σ H := h
theorem rd_seqI {t' : TS} (h : Halt (tSeq (tIfS c t t') u D σ H)) : tSeq (tIfS c t t') u D σ H := h
theorem rd_next (h : D.nx σ H) : tNext D σ H := h
theorem rd_asg (h : te σ H fun x H1 => g x σ H1 D.nx) : tAsg te g D σ H := h
theorem rd_gname {R : L2.St → Hp → Prop} (h : R (σ.set i (some v)) H) : gName i v σ H R := h
theorem rd_ret (h : te σ H D.rt) : tRet te D σ H := h
theorem rd_retN (h : D.rt .non H) : tRetN D σ H := h
theorem rd_drop (h : te σ H fun _ H1 => D.nx σ H1) : tDrop te D σ H := h
theorem rd_if (h : c σ H fun b H1 => if b = true then t D σ H1 else u D σ H1) : tIfS c t u D σ H := h
theorem rd_ifE (h : c σ H fun b H1 => if b = true then ta σ H1 Q else tb σ H1 Q) : tIf c ta tb σ H Q := h
theorem rd_brk (h : D.bk σ H) : tBreak D σ H := h
theorem rd_cont (h : D.ct σ H) : tCont D σ H := h
theorem rd_var (h : σ[i]? = some (some v)) (q : Q v H) : tVar i σ H Q := ⟨v, h, q⟩
theorem rd_c (q : Q v H) : tC v σ H Q := q
theorem rd_op {r : R2} (h : ta σ H fun x H1 => tb σ H1 fun y H2 => r x y H2 Q) : tOp r ta tb σ H Q := h
theorem rd_un {r : V → Hp → VK → Prop} (h : ta σ H fun x H1 => r x H1 Q) : tUn r ta σ H Q := h
theorem rd_I0 {f : Int → Int → V} {a b : Int} (q : Q (f a b) H) : rI0 f (.int a) (.int b) H Q := ⟨a, b, rfl, rfl, q⟩
theorem rd_U {f : Int → V} {a : Int} (q : Q (f a) H) : rU f (.int a) H Q := ⟨a, rfl, q⟩
theorem rd_test (h : te σ H fun x H' => ∃ k, x = .bl k ∧ QB k H') : tTest te σ H QB := h
theorem rd_B (h : te σ H fun x H' => ∃ k, x = .bl k ∧ QB k H') : tB te σ H QB := h
theorem rd_bl {b : Bool} {R : Bool → Prop} (q : R b) : ∃ k, V.bl b = .bl k ∧ R k := ⟨b, rfl, q⟩
theorem iteT' {A B : Prop} (h : A) : if true = true then A else B := iteT h
theorem iteF' {A B : Prop} (h : B) : if false = true then A else B := iteF h
theorem iteNT {A B : Prop} (h : B) : if (!true) = true then A else B := iteF h
theorem iteNF {A B : Prop} (h : A) : if (!false) = true then A else B := iteT h
theorem rd_for {wi : TI} (h : wi σ H fun J H1 => ∃ W : Nat → Nat → L2.St → Hp → Prop, (∃ m, W 0 m σ H1) ∧ ∀ i m σ H, W i m σ H →
  (J.stop i H ∧ D.nx σ H) ∨ (J.go i H ∧ ∃ N : L2.St → Hp → Prop, (∀ σ' H', N σ' H' → ∃ m', m' < m ∧ W (i + 1) m' σ' H') ∧ ∀ x H', J.yld i H x H' → g x σ H' fun σ2 H2 => t { D with nx := N, ct := N, bk := D.nx } σ2 H2)) : tFor wi g t D σ H := h
theorem rd_and (h : c σ H fun b H1 => if b = true then c' σ H1 QB else QB false H1) : tAnd c c' σ H QB := h
theorem rd_or (h : c σ H fun b H1 => if b = true then QB true H1 else c' σ H1 QB) : tOr c c' σ H QB := h
theorem rd_not (h : c σ H fun b H1 => QB (!b) H1) : tNot c σ H QB := h
theorem rd_andV (h : ta σ H fun x H1 => ∃ k, x = .bl k ∧ if k = true then tb σ H1 Q else Q (.bl false) H1) : tAndV ta tb σ H Q := h
theorem rd_orV (h : ta σ H fun x H1 => ∃ k, x = .bl k ∧ if k = true then Q (.bl true) H1 else tb σ H1 Q) : tOrV ta tb σ H Q := h
theorem rd_notV (h : ta σ H fun x H1 => ∃ k, x = .bl k ∧ Q (.bl (!k)) H1) : tNotV ta σ H Q := h
theorem rd_eqI {a b : Int} (q : Q (.bl (decide (a = b))) H) : rEq (.int a) (.int b) H Q := ⟨rfl, by
  have e : decide (V.int a = V.int b) = decide (a = b) := by by_cases z : a = b <;> simp [z]
  rw [e]; exact q⟩
theorem rd_neI {a b : Int} (q : Q (.bl (!decide (a = b))) H) : rNe (.int a) (.int b) H Q := ⟨rfl, by
  have e : decide (V.int a = V.int b) = decide (a = b) := by by_cases z : a = b <;> simp [z]
  rw [e]; exact q⟩
theorem rd_eqS {a b : Str} (q : Q (.bl (decide (a = b))) H) : rEq (.str a) (.str b) H Q := ⟨rfl, by
  have e : decide (V.str a = V.str b) = decide (a = b) := by by_cases z : a = b <;> simp [z]
  rw [e]; exact q⟩
theorem rd_neS {a b : Str} (q : Q (.bl (!decide (a = b))) H) : rNe (.str a) (.str b) H Q := ⟨rfl, by
  have e : decide (V.str a = V.str b) = decide (a = b) := by by_cases z : a = b <;> simp [z]
  rw [e]; exact q⟩
theorem rd_nil (q : QA [] H) : tNil σ H QA := q
theorem rd_cons {tr : TA} (h : ta σ H fun x H1 => tr σ H1 fun xs H2 => QA (x :: xs) H2) : tCons ta tr σ H QA := h
theorem rd_call {sp : Sp} {dvs : List V} {E : XK} {tr : TA} (h : tr σ H fun vs H1 => sp (vs ++ dvs) H1 Q E) : tCall sp dvs E tr σ H Q := h
theorem rd_CB {r : List V → Hp → VK → Prop} {tr : TA} (h : tr σ H fun vs H1 => r vs H1 Q) : tCB r tr σ H Q := h
theorem rd_meth {C : Addr} {m : Str} {sp : Sp} {dvs : List V} {E : XK} {tr : TA} (h : ta σ H fun x H1 => ∃ a dx fs, x = .ref a ∧ H1 a = some (.ins C dx fs) ∧ fs.lookup m = none ∧ tr σ H1 fun vs H2 => sp (x :: (vs ++ dvs)) H2 Q E) : tMeth C m sp dvs E ta tr σ H Q := h
theorem rd_methR {a dx : Addr} {fs : List (Str × V)} {C : Addr} {m : Str} {R : Prop} (h1 : H a = some (.ins C dx fs)) (h2 : fs.lookup m = none) (q : R) : ∃ a' dx fs, V.ref a = .ref a' ∧ H a' = some (.ins C dx fs) ∧ fs.lookup m = none ∧ R := ⟨a, dx, fs, rfl, h1, h2, q⟩
theorem rd_fld {f : Str} (h : ta σ H fun x H1 => ∃ a C dx fs v, x = .ref a ∧ H1 a = some (.ins C dx fs) ∧ Cls K C ∧ NoAttr K C f ∧ fs.lookup f = some v ∧ Q v H1) : tFld K ta f σ H Q := h
theorem rd_fldR {a C dx : Addr} {fs : List (Str × V)} {f : Str} {R : V → Prop} (h1 : H a = some (.ins C dx fs)) (h2 : Cls K C) (h3 : NoAttr K C f) (h4 : fs.lookup f = some v) (q : R v) : ∃ a' C dx fs v, V.ref a = .ref a' ∧ H a' = some (.ins C dx fs) ∧ Cls K C ∧ NoAttr K C f ∧ fs.lookup f = some v ∧ R v := ⟨a, C, dx, fs, v, rfl, h1, h2, h3, h4, q⟩
theorem rd_chain {r r' : R2} (h : ta σ H fun x H1 => tb σ H1 fun y H2 => r x y H2 fun z H3 => ∃ k, z = .bl k ∧ (if k = true then tc σ H3 fun w' H4 => r' y w' H4 Q else Q (.bl false) H3)) : tChain r r' ta tb tc σ H Q := h
theorem rd_tup {tr : TA} (h : tr σ H fun xs H1 => xs.length ≤ sizeLine ∧ ∀ p, H1 p = none → Q (.ref p) (upd H1 p (.tup xs))) : tTup tr σ H Q := h
theorem rd_lst {tr : TA} (h : tr σ H fun xs H1 => xs.length ≤ sizeLine ∧ ∀ p, H1 p = none → Q (.ref p) (upd H1 p (.lst xs))) : tLst tr σ H Q := h
theorem rd_new {n : Nat} {R : Addr → Prop} (hn : n ≤ sizeLine := by (first | (show _ ≤ sizeLine; decide) | omega)) (h : ∀ p, H p = none → R p) : n ≤ sizeLine ∧ ∀ p, H p = none → R p := ⟨hn, h⟩
theorem rd_bm {T : String} {r : V → List V → Hp → VK → Prop} {tr : TA} (h : ta σ H fun x H1 => tyV K T x H1 ∧ tr σ H1 fun xs H2 => r x xs H2 Q) : tBM K T r ta tr σ H Q := h
theorem rd_bm0 {T : String} {r : V → List V → Hp → VK → Prop} (h : ta σ H fun x H1 => tyV K T x H1 ∧ r x [] H1 Q) : tBM0 K T r ta σ H Q := h
theorem rd_ixL {p : Addr} {xs : List V} {k : Int} (h1 : SqL K H p xs) (h2 : atI xs k = some v) (q : Q v H) : rIxL K (.ref p) (.int k) H Q := ⟨p, xs, k, v, rfl, rfl, h1, h2, q⟩
theorem rd_ixT {p : Addr} {xs : List V} {k : Int} (h1 : SqT K H p xs) (h2 : atI xs k = some v) (q : Q v H) : rIxT K (.ref p) (.int k) H Q := ⟨p, xs, k, v, rfl, rfl, h1, h2, q⟩
theorem rd_tyL {l : Addr} {xs : List V} {R : Prop} (h1 : H l = some (.lst xs)) (q : R) : tyV K "list" (.ref l) H ∧ R := ⟨Or.inl ⟨rfl, _, Or.inl (Or.inl h1)⟩, q⟩
theorem rd_append {l : Addr} {xs : List V} {y : V} (h1 : H l = some (.lst xs)) (h2 : xs.length < sizeLine) (q : Q .non (upd H l (.lst (xs ++ [y])))) : rAppend (.ref l) [y] H Q :=
  ⟨l, xs, y, rfl, rfl, h1, h2, q⟩
theorem rd_dget {td ty : TE} (h : td σ H fun x H1 => ty σ H1 fun y H2 => ∃ a v, x = .ref a ∧ DGet H2 a y (some v) ∧ Q v H2) : tDGet td ty σ H Q := h
theorem rd_din {td ty : TE} (h : ty σ H fun y H1 => td σ H1 fun x H2 => ∃ a o, x = .ref a ∧ DGet H2 a y o ∧ Q (.bl o.isSome) H2) : tDIn ty td σ H Q := h
theorem rd_dput {td ty tv : TE} (h : tv σ H fun v H1 => td σ H1 fun x H2 => ty σ H2 fun y H3 => ∃ a H4, x = .ref a ∧ DPut H3 a y v H4 ∧ D.nx σ H4) : sDPut td ty tv D σ H := h
theorem rd_2I {a b : Int} {R : Int → Int → Prop} (h : R a b) : ∃ i j, [V.int a, V.int b] = [V.int i, V.int j] ∧ R i j := ⟨a, b, rfl, h⟩
theorem rd_I {C : Int → Int → Prop} {f : Int → Int → V} {a b : Int} (hc : C a b) (q : Q (f a b) H) : rI C f (.int a) (.int b) H Q := ⟨a, b, rfl, rfl, hc, q⟩
theorem rd_mod {f : Int → Int → V} {a b : Int} (hc : 0 < b) (q : Q (f a b) H) : rI (fun _ j => 0 < j) f (.int a) (.int b) H Q := ⟨a, b, rfl, rfl, hc, q⟩
theorem rd_fdiv {f : Int → Int → V} {a b : Int} (h1 : 0 < b) (h2 : b < 2 ^ 100) (q : Q (f a b) H) : rI CDivW f (.int a) (.int b) H Q :=
  ⟨a, b, rfl, rfl, wide_div h1 (b := 100) (by have h3 : (b.natAbs : Int) = b := by omega
                                              have h4 : (b.natAbs : Int) < ((2 ^ 100 : Nat) : Int) := by rw [h3]; exact h2
                                              exact Int.ofNat_lt.mp h4) (by decide) (by decide), q⟩
theorem mulW_of {a b : Int} (h1 : -(2 ^ 2000) < a) (h2 : a < 2 ^ 2000) (h3 : -(2 ^ 2000) < b) (h4 : b < 2 ^ 2000) : CMulW a b := by
  have e : ∀ x : Int, -(2 ^ 2000) < x → x < 2 ^ 2000 → x.natAbs < 2 ^ 2000 := fun x p q => by
    have e1 : ((2 ^ 2000 : Nat) : Int) = (2 : Int) ^ 2000 := by norm_cast
    have h : (x.natAbs : Int) < ((2 ^ 2000 : Nat) : Int) := by rw [e1]; omega
    exact Int.ofNat_lt.mp h
  exact wide_mul (e a h1 h2) (e b h3 h4) (by decide) (by decide) (by decide)
theorem rd_nn {R : Prop} (h : R) : V.non = V.non ∧ R := ⟨rfl, h⟩
theorem rd_len {p : Addr} {ys : List V} {R : List V → Prop} (h : SqL K H p ys) (q : R ys) : ∃ p' ys, [V.ref p] = [V.ref p'] ∧ (SqL K H p' ys ∨ SqT K H p' ys) ∧ R ys := ⟨p, ys, rfl, .inl h, q⟩
theorem rd_lenT {p : Addr} {ys : List V} {R : List V → Prop} (h : SqT K H p ys) (q : R ys) : ∃ p' ys, [V.ref p] = [V.ref p'] ∧ (SqL K H p' ys ∨ SqT K H p' ys) ∧ R ys := ⟨p, ys, rfl, .inr h, q⟩
theorem rd_iE {tr : TA} {R : It → Hp → Prop} (h : tr σ H fun vs H1 => ∃ a xs, vs = [.ref a] ∧ SqL K H1 a xs ∧ R (Ite K a) H1) : iEnum K tr σ H R := h
theorem rd_iL {R : It → Hp → Prop} (h : te σ H fun x H1 => ∃ a, x = .ref a ∧ (∃ xs, SqL K H1 a xs) ∧ R (Itl K a) H1) : iList K te σ H R := h
theorem rd_iT {R : It → Hp → Prop} (h : te σ H fun x H1 => ∃ a, x = .ref a ∧ (∃ xs, SqT K H1 a xs) ∧ R (Itt K a) H1) : iTup K te σ H R := h
theorem rd_iR1 {tr : TA} {R : It → Hp → Prop} (h : tr σ H fun vs H1 => ∃ j : Int, vs = [.int j] ∧ -(2 ^ 62) ≤ j ∧ j < 2 ^ 62 ∧ R (Itr 0 j.toNat) H1) : iRng1 tr σ H R := h
theorem rd_iR2 {tr : TA} {R : It → Hp → Prop} (h : tr σ H fun vs H1 => ∃ i j : Int, vs = [.int i, .int j] ∧ (-(2 ^ 62) ≤ i ∧ i < 2 ^ 62 ∧ -(2 ^ 62) ≤ j ∧ j < 2 ^ 62) ∧ R (Itr i (j - i).toNat) H1) : iRng2 tr σ H R := h
theorem rd_iR3 {tr : TA} {R : It → Hp → Prop} (h : tr σ H fun vs H1 => ∃ (i j c : Int) (n : Nat), vs = [.int i, .int j, .int c] ∧ RgC i j c n ∧ R (Itc i c n) H1) : iRng3 tr σ H R := h
theorem rd_iS {R : It → Hp → Prop} (h : te σ H fun v H1 => ∃ x, v = .str x ∧ R (Its x) H1) : iStr te σ H R := h
theorem rd_iZ {tr : TA} {R : It → Hp → Prop} (h : tr σ H fun vs H1 => ∃ a b xs ys, vs = [.ref a, .ref b] ∧ SqL K H1 a xs ∧ SqL K H1 b ys ∧ R (Itz K a b) H1) : iZip K tr σ H R := h
theorem rd_sl {r : V → Option Int → Option Int → Hp → VK → Prop} {tl th : TO} (h : te σ H fun x H1 => tl σ H1 fun l H2 => th σ H2 fun u H3 => r x l u H3 Q) : tSl r te tl th σ H Q := h
theorem rd_np {R : Option Int → Hp → Prop} (h : R none H) : tNoPart σ H R := h
theorem rd_pt {R : Option Int → Hp → Prop} (h : te σ H fun x H1 => ∃ i, x = .int i ∧ R (some i) H1) : tPart te σ H R := h
theorem rd_int {a : Int} {R : Int → Prop} (h : R a) : ∃ i, V.int a = .int i ∧ R i := ⟨a, rfl, h⟩
theorem rd_gtup {n : Nat} {tt : TGs} {a : Addr} {xs : List V} {R : L2.St → Hp → Prop} (h1 : SqT K H a xs) (h2 : xs.length = n) (q : tt xs σ H R) : gTup K n tt (.ref a) σ H R := ⟨a, xs, rfl, h1, h2, q⟩
theorem rd_gcons {tt : TGs} {r : List V} {R : L2.St → Hp → Prop} (q : g v σ H fun σ' H' => tt r σ' H' R) : gCons g tt (v :: r) σ H R := ⟨v, r, rfl, q⟩
theorem rd_gsub {to ti : TE} {ts : TSet} {R : L2.St → Hp → Prop} (h : to σ H fun o H1 => ti σ H1 fun i H2 => ts o i v H2 fun H3 => R σ H3) : gSub to ti ts v σ H R := h
theorem rd_gnil {R : L2.St → Hp → Prop} (q : R σ H) : gNil [] σ H R := ⟨rfl, q⟩
theorem rd_lc {wi : TI} {vs : List Nat} (h : wi σ H fun J H1 => ∀ D, H1 D = none → ∃ W : Nat → Nat → Hp → Prop, (∃ m, W 0 m (upd H1 D (.lst []))) ∧ ∀ i m H, W i m H →
  (J.stop i H ∧ Q (.ref D) H) ∨ (J.go i H ∧ ∃ Nx : Hp → Prop, (∀ H', Nx H' → ∃ m', m' < m ∧ W (i + 1) m' H') ∧ ∀ x H', J.yld i H x H' → g x (wipe σ vs) H' fun σ2 H2 => wipe σ2 vs = wipe σ vs ∧ c σ2 H2 fun b H3 =>
    if b = true then te σ2 H3 fun y H4 => ∃ acc, H4 D = some (.lst acc) ∧ acc.length < sizeLine ∧ Nx (upd H4 D (.lst (acc ++ [y]))) else Nx H3)) : tLc wi g c te vs σ H Q := h
theorem rd_yes (h : QB true H) : tYes σ H QB := h
theorem rd_dsetd {td ty tx : TE} (h : td σ H fun x H1 => ∃ a, x = .ref a ∧ IsD H1 a ∧ ty σ H1 fun y H2 => tx σ H2 fun z H3 => ∃ (kvs : List (Key × V)) (k : Key), H3 a = some (.dK kvs) ∧ y = kV k ∧ kvs.length < sizeLine ∧
  (∀ v, valV kvs k = some v → Q v H3) ∧ (valV kvs k = none → Q z (upd H3 a (.dK (putK kvs k z))))) : tDSetd td ty tx σ H Q := h
theorem rd_isD {a : Addr} {kvs : List (Key × V)} {R : Addr → Prop} (h : H a = some (.dK kvs)) (q : R a) : ∃ b, V.ref a = .ref b ∧ IsD H b ∧ R b := ⟨a, rfl, .inl ⟨kvs, .inl h⟩, q⟩
theorem rd_fldS {ta tv : TE} {f : Str} (h : tv σ H fun y H1 => ta σ H1 fun x H2 => ∃ a C dx fs, x = .ref a ∧ H2 a = some (.ins C dx fs) ∧ Cls K C ∧ NoAttr K C f ∧ fs.length < 1000 ∧ D.nx σ (upd H2 a (.ins C dx (putF f y fs)))) : sFld K ta tv f D σ H := h
theorem rd_newK {R : Addr → Prop} (h : ∀ p, H p = none → R p) : ∀ p, H p = none → R p := h
theorem dp_ints {ns : List Int} : DpAll K H (ns.map V.int) (ns.map PyData.int) := by
  induction ns with
  | nil => exact .nil
  | cons n r ih => exact .cons (.int n) ih
theorem rd_eqDI {p p' : Addr} {ns ms : List Int} (h1 : SqL K H p (ns.map V.int)) (h2 : SqL K H p' (ms.map V.int)) (s1 : SeqAt.shaped (.list (ns.map PyData.int)) = true) (s2 : SeqAt.shaped (.list (ms.map PyData.int)) = true)
    (q : Q (.bl (PyData.eqv (.list (ns.map PyData.int)) (.list (ms.map PyData.int)))) H) : rEqD K (.ref p) (.ref p') H Q := ⟨_, _, .lst h1 dp_ints, .lst h2 dp_ints, s1, s2, q⟩
theorem rd_neDI {p p' : Addr} {ns ms : List Int} (h1 : SqL K H p (ns.map V.int)) (h2 : SqL K H p' (ms.map V.int)) (s1 : SeqAt.shaped (.list (ns.map PyData.int)) = true) (s2 : SeqAt.shaped (.list (ms.map PyData.int)) = true)
    (q : Q (.bl (!PyData.eqv (.list (ns.map PyData.int)) (.list (ms.map PyData.int)))) H) : rNeD K (.ref p) (.ref p') H Q := ⟨_, _, .lst h1 dp_ints, .lst h2 dp_ints, s1, s2, q⟩
theorem rd_rep {l : Addr} {k : Int} {xs : List V} (h1 : H l = some (.lst xs)) (h2 : -(2 ^ 63) ≤ k) (h3 : k < 2 ^ 63) (h4 : xs.length * k.toNat ≤ sizeLine) (q : ∀ p, H p = none → Q (.ref p) (upd H p (.lst (List.replicate k.toNat xs).flatten))) : rRep (.ref l) (.int k) H Q :=
  ⟨l, k, xs, rfl, rfl, h1, h2, h3, h4, q⟩
theorem ite_d {p : Prop} [Decidable p] {A B : Prop} (h1 : p → A) (h2 : ¬ p → B) : if decide p = true then A else B := by
  by_cases h : p
  · rw [decide_eq_true h, if_pos rfl]; exact h1 h
  · rw [decide_eq_false h, if_neg Bool.false_ne_true]; exact h2 h
theorem ite_nd {p : Prop} [Decidable p] {A B : Prop} (h1 : ¬ p → A) (h2 : p → B) : if (!decide p) = true then A else B := by
  by_cases h : p
  · rw [decide_eq_true h]; exact iteF (h2 h)
  · rw [decide_eq_false h]; exact iteT (h1 h)
theorem ite_b {b : Bool} {A B : Prop} (h1 : b = true → A) (h2 : b = false → B) : if b = true then A else B := by
  cases b
  · exact iteF (h2 rfl)
  · exact iteT (h1 rfl)
theorem ite_nb {b : Bool} {A B : Prop} (h1 : b = false → A) (h2 : b = true → B) : if (!b) = true then A else B := by
  cases b
  · exact iteT (h1 rfl)
  · exact iteF (h2 rfl)
end
end JF

local macro_rules | `(tactic| walk_at "rs1") => `(tactic| first
  | with_reducible refine JF.rd_seq ?_ | with_reducible refine JF.rd_asg ?_ | with_reducible refine JF.rd_gname ?_
  | with_reducible refine JF.rd_var rfl ?_ | with_reducible refine JF.rd_c ?_ | with_reducible refine JF.rd_op ?_ | with_reducible refine JF.rd_I0 ?_
  | with_reducible refine JF.rd_if ?_ | with_reducible refine JF.rd_test ?_ | with_reducible refine JF.rd_bl ?_
  | with_reducible refine JF.rd_eqI ?_ | with_reducible refine JF.rd_neI ?_ | with_reducible refine JF.rd_eqS ?_ | with_reducible refine JF.rd_neS ?_
  | with_reducible refine JF.rd_cons ?_ | with_reducible refine JF.rd_nil ?_ | with_reducible refine JF.rd_call ?_ | with_reducible refine JF.rd_meth ?_ | with_reducible refine JF.rd_fld ?_ | with_reducible refine JF.rd_CB ?_
  | with_reducible refine JF.rd_ret ?_ | with_reducible refine JF.rd_drop ?_ | with_reducible refine JF.rd_next ?_ | with_reducible refine JF.rd_and ?_ | with_reducible refine JF.rd_or ?_ | with_reducible refine JF.rd_not ?_
  | with_reducible refine JF.rd_andV ?_ | with_reducible refine JF.rd_orV ?_ | with_reducible refine JF.rd_notV ?_ | with_reducible refine JF.rd_B ?_ | with_reducible refine JF.rd_un ?_ | with_reducible refine JF.rd_U ?_
  | with_reducible refine JF.rd_chain ?_ | with_reducible refine JF.rd_tup ?_ | with_reducible refine JF.rd_lst ?_ | with_reducible refine JF.rd_bm ?_ | with_reducible refine JF.rd_bm0 ?_
  | with_reducible refine JF.rd_dget ?_ | with_reducible refine JF.rd_din ?_ | with_reducible refine JF.rd_dput ?_ | with_reducible refine JF.rd_ifE ?_ | with_reducible refine JF.rd_retN ?_ | with_reducible refine JF.rd_brk ?_ | with_reducible refine JF.rd_cont ?_
  | with_reducible refine JF.iteT' ?_ | with_reducible refine JF.iteF' ?_ | with_reducible refine JF.iteNT ?_ | with_reducible refine JF.iteNF ?_ | ((with_reducible refine' JF.rd_fldR ?h1 ?h2 ?h3 ?h4 ?q); (case h1 => assumption); (case h2 => assumption); (case h3 => assumption); (case h4 => exact rfl))
  | with_reducible refine JF.rd_dsetd ?_ | with_reducible refine JF.rd_fldS ?_
  | with_reducible refine JF.rd_yes ?_ | with_reducible refine JF.rd_iE ?_ | with_reducible refine JF.rd_iL ?_ | with_reducible refine JF.rd_iT ?_ | with_reducible refine JF.rd_iR1 ?_ | with_reducible refine JF.rd_iR2 ?_ | with_reducible refine JF.rd_iR3 ?_ | with_reducible refine JF.rd_iS ?_ | with_reducible refine JF.rd_iZ ?_ | with_reducible refine JF.rd_sl ?_ | with_reducible refine JF.rd_np ?_ | with_reducible refine JF.rd_pt ?_ | with_reducible refine JF.rd_int ?_
  | ((with_reducible refine' JF.rd_gtup ?h1 ?h2 ?q); (case h1 => exact L2.SqT.of (by assumption)); (case h2 => exact rfl)) | with_reducible refine JF.rd_gcons ?_ | with_reducible refine JF.rd_gnil ?_ | with_reducible refine JF.rd_gsub ?_
  | with_reducible refine JF.rd_2I ?_ | ((with_reducible refine' JF.rd_ixT ?h1 ?h2 ?q); (case h1 => exact L2.SqT.of (by assumption)); (case h2 => exact rfl)) | ((with_reducible refine JF.rd_mod ?_ ?_); · decide) | ((with_reducible refine JF.rd_fdiv ?h1 ?h2 ?_); (case h1 => decide); (case h2 => decide)) | with_reducible refine JF.rd_nn ?_)
local macro_rules | `(tactic| walk_at "rd1") => `(tactic| first | walk_at "rs1" | with_reducible refine JF.rd_for ?_ | with_reducible refine JF.rd_lc ?_)
local macro_rules | `(tactic| walk_at "rh") => `(tactic| repeat (first | with_reducible refine JF.rd_seqF ?_ | with_reducible refine JF.rd_seqW ?_ | walk_at "rs1"))
local macro_rules | `(tactic| walk_at "rhi") => `(tactic| repeat (first | with_reducible refine JF.rd_seqF ?_ | with_reducible refine JF.rd_seqW ?_ | with_reducible refine JF.rd_seqI ?_ | walk_at "rs1"))
local macro_rules | `(tactic| walk_at "rs") => `(tactic| repeat walk_at "rs1")
local macro_rules | `(tactic| walk_at "rd") => `(tactic| repeat walk_at "rd1")
local macro_rules | `(tactic| walk_at "ne") => `(tactic| first | assumption | (apply Ne.symm; assumption))
local macro_rules | `(tactic| walk_at "hp") => `(tactic| first | assumption | exact L2.upd_same | ((with_reducible refine (L2.upd_ne ?h1).trans ?h2); (case h1 => walk_at "ne"); (case h2 => walk_at "hp")))

/-! ### readings are monotone in what is wanted; a cut between two statements -/
namespace JF
open PySem PySem.Spec PyProof.Rows L2
def MonE (t : TE) : Prop := ∀ σ H (Q Q' : VK), (∀ v H, Q v H → Q' v H) → t σ H Q → t σ H Q'
def MonT (t : TT) : Prop := ∀ σ H (Q Q' : Bool → Hp → Prop), (∀ v H, Q v H → Q' v H) → t σ H Q → t σ H Q'
def MonA (t : TA) : Prop := ∀ σ H (Q Q' : List V → Hp → Prop), (∀ v H, Q v H → Q' v H) → t σ H Q → t σ H Q'
def MonO (t : TO) : Prop := ∀ σ H (Q Q' : Option Int → Hp → Prop), (∀ v H, Q v H → Q' v H) → t σ H Q → t σ H Q'
def MonR (r : R2) : Prop := ∀ x y H (Q Q' : VK), (∀ v H, Q v H → Q' v H) → r x y H Q → r x y H Q'
def MonU (r : V → Hp → VK → Prop) : Prop := ∀ x H (Q Q' : VK), (∀ v H, Q v H → Q' v H) → r x H Q → r x H Q'
def MonC (r : List V → Hp → VK → Prop) : Prop := ∀ x H (Q Q' : VK), (∀ v H, Q v H → Q' v H) → r x H Q → r x H Q'
def MonM (r : V → List V → Hp → VK → Prop) : Prop := ∀ x y H (Q Q' : VK), (∀ v H, Q v H → Q' v H) → r x y H Q → r x y H Q'
def MonL (r : V → Option Int → Option Int → Hp → VK → Prop) : Prop := ∀ x y z H (Q Q' : VK), (∀ v H, Q v H → Q' v H) → r x y z H Q → r x y z H Q'
def MonG (g : TG) : Prop := ∀ v σ H (Q Q' : L2.St → Hp → Prop), (∀ σ H, Q σ H → Q' σ H) → g v σ H Q → g v σ H Q'
def MonGs (g : TGs) : Prop := ∀ v σ H (Q Q' : L2.St → Hp → Prop), (∀ σ H, Q σ H → Q' σ H) → g v σ H Q → g v σ H Q'
def MonI (t : TI) : Prop := ∀ σ H (Q Q' : It → Hp → Prop), (∀ v H, Q v H → Q' v H) → t σ H Q → t σ H Q'
def MonP (sp : Sp) : Prop := ∀ vs H (Q Q' : VK) E, (∀ v H, Q v H → Q' v H) → sp vs H Q E → sp vs H Q' E
def EndsLe (D D' : Ends) : Prop := (∀ σ H, D.nx σ H → D'.nx σ H) ∧ (∀ v H, D.rt v H → D'.rt v H) ∧ (∀ σ H, D.bk σ H → D'.bk σ H) ∧ (∀ σ H, D.ct σ H → D'.ct σ H)
def MonS (t : TS) : Prop := ∀ D D' σ H, EndsLe D D' → t D σ H → t D' σ H
section
variable {t u : TS} {te ta tb tc : TE} {c c' : TT} {g : TG} {gs : TGs} {tr : TA} {r r' : R2} {wi : TI}
/-- THE CUT: P holds between both -/
theorem rd_cut {D : Ends} {σ : L2.St} {H : Hp} (P : L2.St → Hp → Prop) (m : MonS t) (h1 : t { D with nx := P } σ H) (h2 : ∀ σ H, P σ H → u D σ H) : tSeq t u D σ H :=
  m { D with nx := P } { D with nx := u D } σ H ⟨h2, fun _ _ h => h, fun _ _ h => h, fun _ _ h => h⟩ h1
theorem rd_cutE {σ : L2.St} {H : Hp} {Q : VK} (P : VK) (m : MonE te) (h1 : te σ H P) (h2 : ∀ v H, P v H → Q v H) : te σ H Q := m _ _ _ _ h2 h1
theorem me_var {i : Nat} : MonE (tVar i) := fun σ H Q Q' h ⟨v, e, q⟩ => ⟨v, e, h _ _ q⟩
theorem me_c {v : V} : MonE (tC v) := fun σ H Q Q' h q => h _ _ q
theorem me_op (m : MonR r) (a : MonE ta) (b : MonE tb) : MonE (tOp r ta tb) := fun σ H Q Q' h q => a _ _ _ _ (fun _ _ z => b _ _ _ _ (fun _ _ z' => m _ _ _ _ _ h z') z) q
theorem me_un {r : V → Hp → VK → Prop} (m : MonU r) (a : MonE ta) : MonE (tUn r ta) := fun σ H Q Q' h q => a _ _ _ _ (fun _ _ z => m _ _ _ _ h z) q
theorem me_fld {K : PySem.W.Frag} {f : Str} (a : MonE ta) : MonE (tFld K ta f) := fun σ H Q Q' h q => a _ _ _ _ (fun _ _ ⟨x, C, dx, fs, v, e1, e2, e3, e4, e5, z⟩ => ⟨x, C, dx, fs, v, e1, e2, e3, e4, e5, h _ _ z⟩) q
theorem me_tup (a : MonA tr) : MonE (tTup tr) := fun σ H Q Q' h q => a _ _ _ _ (fun _ _ ⟨l, z⟩ => ⟨l, fun p hp => h _ _ (z p hp)⟩) q
theorem me_lst (a : MonA tr) : MonE (tLst tr) := fun σ H Q Q' h q => a _ _ _ _ (fun _ _ ⟨l, z⟩ => ⟨l, fun p hp => h _ _ (z p hp)⟩) q
theorem me_call {sp : Sp} {dvs : List V} {E : XK} (m : MonP sp) (a : MonA tr) : MonE (tCall sp dvs E tr) := fun σ H Q Q' h q => a _ _ _ _ (fun _ _ z => m _ _ _ _ _ h z) q
theorem me_meth {C : Addr} {n : Str} {sp : Sp} {dvs : List V} {E : XK} (m : MonP sp) (a : MonE ta) (b : MonA tr) : MonE (tMeth C n sp dvs E ta tr) := fun σ H Q Q' h q => a _ _ _ _ (fun _ _ ⟨x, dx, fs, e1, e2, e3, z⟩ => ⟨x, dx, fs, e1, e2, e3, b _ _ _ _ (fun _ _ y => m _ _ _ _ _ h y) z⟩) q
theorem me_cb {r : List V → Hp → VK → Prop} (m : MonC r) (a : MonA tr) : MonE (tCB r tr) := fun σ H Q Q' h q => a _ _ _ _ (fun _ _ z => m _ _ _ _ h z) q
theorem me_bm {K : PySem.W.Frag} {T : String} {r : V → List V → Hp → VK → Prop} (m : MonM r) (a : MonE ta) (b : MonA tr) : MonE (tBM K T r ta tr) := fun σ H Q Q' h q => a _ _ _ _ (fun _ _ ⟨y, z⟩ => ⟨y, b _ _ _ _ (fun _ _ z' => m _ _ _ _ _ h z') z⟩) q
theorem me_bm0 {K : PySem.W.Frag} {T : String} {r : V → List V → Hp → VK → Prop} (m : MonM r) (a : MonE ta) : MonE (tBM0 K T r ta) := fun σ H Q Q' h q => a _ _ _ _ (fun _ _ ⟨y, z⟩ => ⟨y, m _ _ _ _ _ h z⟩) q
theorem me_andV (a : MonE ta) (b : MonE tb) : MonE (tAndV ta tb) := fun σ H Q Q' h q => a _ _ _ _ (fun _ _ ⟨k, e, z⟩ => ⟨k, e, by cases k; exact h _ _ z; exact b _ _ _ _ h z⟩) q
theorem me_orV (a : MonE ta) (b : MonE tb) : MonE (tOrV ta tb) := fun σ H Q Q' h q => a _ _ _ _ (fun _ _ ⟨k, e, z⟩ => ⟨k, e, by cases k; exact b _ _ _ _ h z; exact h _ _ z⟩) q
theorem me_notV (a : MonE ta) : MonE (tNotV ta) := fun σ H Q Q' h q => a _ _ _ _ (fun _ _ ⟨k, e, z⟩ => ⟨k, e, h _ _ z⟩) q
theorem me_if (m : MonT c) (a : MonE ta) (b : MonE tb) : MonE (tIf c ta tb) := fun σ H Q Q' h q => m _ _ _ _ (fun k _ z => by cases k; exact b _ _ _ _ h z; exact a _ _ _ _ h z) q
theorem me_chain (m : MonR r) (m' : MonR r') (a : MonE ta) (b : MonE tb) (d : MonE tc) : MonE (tChain r r' ta tb tc) := fun σ H Q Q' h q =>
  a _ _ _ _ (fun _ _ z => b _ _ _ _ (fun _ _ z' => m _ _ _ _ _ (fun _ _ ⟨k, e, y⟩ => ⟨k, e, by cases k; exact h _ _ y; exact d _ _ _ _ (fun _ _ y' => m' _ _ _ _ _ h y') y⟩) z') z) q
theorem me_sl {rl : V → Option Int → Option Int → Hp → VK → Prop} {tl th : TO} (m : MonL rl) (a : MonE te) (b : MonO tl) (d : MonO th) : MonE (tSl rl te tl th) := fun σ H Q Q' h q => a _ _ _ _ (fun _ _ z => b _ _ _ _ (fun _ _ z => d _ _ _ _ (fun _ _ z => m _ _ _ _ _ _ h z) z) z) q
theorem me_dget {td ty : TE} (a : MonE td) (b : MonE ty) : MonE (tDGet td ty) := fun σ H Q Q' h q => a _ _ _ _ (fun _ _ z => b _ _ _ _ (fun _ _ ⟨x, v, e1, e2, z⟩ => ⟨x, v, e1, e2, h _ _ z⟩) z) q
theorem me_dget2 {td ty tx : TE} (a : MonE td) (b : MonE ty) (d : MonE tx) : MonE (tDGet2 td ty tx) := fun σ H Q Q' h q => a _ _ _ _ (fun _ _ ⟨x, e1, e2, z⟩ => ⟨x, e1, e2, b _ _ _ _ (fun _ _ z => d _ _ _ _ (fun _ _ ⟨o, e3, z⟩ => ⟨o, e3, h _ _ z⟩) z) z⟩) q
theorem me_din {td ty : TE} (a : MonE td) (b : MonE ty) : MonE (tDIn ty td) := fun σ H Q Q' h q => b _ _ _ _ (fun _ _ z => a _ _ _ _ (fun _ _ ⟨x, v, e1, e2, z⟩ => ⟨x, v, e1, e2, h _ _ z⟩) z) q
theorem me_dnotin {td ty : TE} (a : MonE td) (b : MonE ty) : MonE (tDNotIn ty td) := fun σ H Q Q' h q => b _ _ _ _ (fun _ _ z => a _ _ _ _ (fun _ _ ⟨x, v, e1, e2, z⟩ => ⟨x, v, e1, e2, h _ _ z⟩) z) q
theorem me_dsetd {td ty tx : TE} (a : MonE td) (b : MonE ty) (d : MonE tx) : MonE (tDSetd td ty tx) := fun σ H Q Q' h q =>
  a _ _ _ _ (fun _ _ ⟨x, e1, e2, z⟩ => ⟨x, e1, e2, b _ _ _ _ (fun _ _ z => d _ _ _ _ (fun _ _ ⟨kvs, k, e3, e4, e5, z1, z2⟩ => ⟨kvs, k, e3, e4, e5, fun v hv => h _ _ (z1 v hv), fun hv => h _ _ (z2 hv)⟩) z) z⟩) q
theorem mt_test' (a : MonE te) : MonT (tTest te) := fun σ H Q Q' h q => a _ _ _ _ (fun _ _ ⟨k, e, z⟩ => ⟨k, e, h _ _ z⟩) q
theorem mt_B (a : MonE te) : MonT (tB te) := fun σ H Q Q' h q => a _ _ _ _ (fun _ _ ⟨k, e, z⟩ => ⟨k, e, h _ _ z⟩) q
theorem mt_and (a : MonT c) (b : MonT c') : MonT (tAnd c c') := fun σ H Q Q' h q => a _ _ _ _ (fun k _ z => by cases k; exact h _ _ z; exact b _ _ _ _ h z) q
theorem mt_or (a : MonT c) (b : MonT c') : MonT (tOr c c') := fun σ H Q Q' h q => a _ _ _ _ (fun k _ z => by cases k; exact b _ _ _ _ h z; exact h _ _ z) q
theorem mt_not (a : MonT c) : MonT (tNot c) := fun σ H Q Q' h q => a _ _ _ _ (fun k _ z => h _ _ z) q
theorem ma_nil : MonA tNil := fun σ H Q Q' h q => h _ _ q
theorem ma_cons (a : MonE ta) (b : MonA tr) : MonA (tCons ta tr) := fun σ H Q Q' h q => a _ _ _ _ (fun _ _ z => b _ _ _ _ (fun _ _ y => h _ _ y) z) q
theorem mo_none : MonO tNoPart := fun σ H Q Q' h q => h _ _ q
theorem mo_some (a : MonE te) : MonO (tPart te) := fun σ H Q Q' h q => a _ _ _ _ (fun _ _ ⟨i, e, z⟩ => ⟨i, e, h _ _ z⟩) q
theorem mr_I0 {f : Int → Int → V} : MonR (rI0 f) := fun x y H Q Q' h ⟨i, j, a, b, q⟩ => ⟨i, j, a, b, h _ _ q⟩
theorem mr_I {C : Int → Int → Prop} {f : Int → Int → V} : MonR (rI C f) := fun x y H Q Q' h ⟨i, j, a, b, d, q⟩ => ⟨i, j, a, b, d, h _ _ q⟩
theorem mr_eq : MonR rEq := fun x y H Q Q' h ⟨a, q⟩ => ⟨a, h _ _ q⟩
theorem mr_ne : MonR rNe := fun x y H Q Q' h ⟨a, q⟩ => ⟨a, h _ _ q⟩
theorem mr_ixL {K : PySem.W.Frag} : MonR (rIxL K) := fun x y H Q Q' h ⟨p, xs, i, v, a, b, c, d, q⟩ => ⟨p, xs, i, v, a, b, c, d, h _ _ q⟩
theorem mr_ixT {K : PySem.W.Frag} : MonR (rIxT K) := fun x y H Q Q' h ⟨p, xs, i, v, a, b, c, d, q⟩ => ⟨p, xs, i, v, a, b, c, d, h _ _ q⟩
theorem mr_ixS : MonR rIxS := fun x y H Q Q' h ⟨p, xs, i, a, b, c, d, q⟩ => ⟨p, xs, i, a, b, c, d, h _ _ q⟩
theorem mr_cat : MonR rCat := fun x y H Q Q' h ⟨l, b, xs, zs, e1, e2, e3, e4, e5, q⟩ => ⟨l, b, xs, zs, e1, e2, e3, e4, e5, fun p hp => h _ _ (q p hp)⟩
theorem mr_in {K : PySem.W.Frag} {neg : Bool} : MonR (rIn K neg) := fun x y H Q Q' h ⟨p, xs, e1, e2, e3, e4, q⟩ => ⟨p, xs, e1, e2, e3, e4, h _ _ q⟩
theorem mr_isN : MonR (fun x y H Q => y = V.non ∧ Q (.bl (decide (x = .non))) H) := fun x y H Q Q' h ⟨a, q⟩ => ⟨a, h _ _ q⟩
theorem mr_notN : MonR (fun x y H Q => y = V.non ∧ Q (.bl (!decide (x = .non))) H) := fun x y H Q Q' h ⟨a, q⟩ => ⟨a, h _ _ q⟩
theorem mu_U {f : Int → V} : MonU (rU f) := fun x H Q Q' h ⟨i, a, q⟩ => ⟨i, a, h _ _ q⟩
theorem mc_len {K : PySem.W.Frag} : MonC (rLenS K) := fun x H Q Q' h ⟨p, ys, a, b, q⟩ => ⟨p, ys, a, b, h _ _ q⟩
theorem mc_isi {K : PySem.W.Frag} : MonC (rIsi K) := fun x H Q Q' h ⟨x', c, t, u, b, a1, a2, a3, a4, q⟩ => ⟨x', c, t, u, b, a1, a2, a3, a4, h _ _ q⟩
theorem mm_append : MonM rAppend := fun x y H Q Q' h ⟨l, xs, z, a, b, c, d, q⟩ => ⟨l, xs, z, a, b, c, d, h _ _ q⟩
theorem mg_name {i : Nat} : MonG (gName i) := fun v σ H Q Q' h q => h _ _ q
theorem mg_tup {K : PySem.W.Frag} {n : Nat} (m : MonGs gs) : MonG (gTup K n gs) := fun v σ H Q Q' h ⟨a, xs, e1, e2, e3, q⟩ => ⟨a, xs, e1, e2, e3, m _ _ _ _ _ h q⟩
theorem mgs_nil : MonGs gNil := fun v σ H Q Q' h ⟨e, q⟩ => ⟨e, h _ _ q⟩
theorem mgs_cons (a : MonG g) (b : MonGs gs) : MonGs (gCons g gs) := fun v σ H Q Q' h ⟨x, r, e, q⟩ => ⟨x, r, e, a _ _ _ _ _ (fun _ _ z => b _ _ _ _ _ h z) q⟩
theorem mi_L {K : PySem.W.Frag} (a : MonE te) : MonI (iList K te) := fun σ H Q Q' h q => a _ _ _ _ (fun _ _ ⟨x, e1, e2, z⟩ => ⟨x, e1, e2, h _ _ z⟩) q
theorem mi_T {K : PySem.W.Frag} (a : MonE te) : MonI (iTup K te) := fun σ H Q Q' h q => a _ _ _ _ (fun _ _ ⟨x, e1, e2, z⟩ => ⟨x, e1, e2, h _ _ z⟩) q
theorem mi_R1 (a : MonA tr) : MonI (iRng1 tr) := fun σ H Q Q' h q => a _ _ _ _ (fun _ _ ⟨j, e1, e2, e3, z⟩ => ⟨j, e1, e2, e3, h _ _ z⟩) q
theorem mi_R2 (a : MonA tr) : MonI (iRng2 tr) := fun σ H Q Q' h q => a _ _ _ _ (fun _ _ ⟨i, j, e1, e2, z⟩ => ⟨i, j, e1, e2, h _ _ z⟩) q
theorem mi_R3 (a : MonA tr) : MonI (iRng3 tr) := fun σ H Q Q' h q => a _ _ _ _ (fun _ _ ⟨i, j, c, n, e1, e2, z⟩ => ⟨i, j, c, n, e1, e2, h _ _ z⟩) q
theorem mi_E {K : PySem.W.Frag} (a : MonA tr) : MonI (iEnum K tr) := fun σ H Q Q' h q => a _ _ _ _ (fun _ _ ⟨x, xs, e1, e2, z⟩ => ⟨x, xs, e1, e2, h _ _ z⟩) q
theorem mi_S (a : MonE te) : MonI (iStr te) := fun σ H Q Q' h q => a _ _ _ _ (fun _ _ ⟨x, e1, z⟩ => ⟨x, e1, h _ _ z⟩) q
theorem mi_Z {K : PySem.W.Frag} (a : MonA tr) : MonI (iZip K tr) := fun σ H Q Q' h q => a _ _ _ _ (fun _ _ ⟨x, y, xs, ys, e1, e2, e3, z⟩ => ⟨x, y, xs, ys, e1, e2, e3, h _ _ z⟩) q
theorem EndsLe.seq {D D' : Ends} (h : EndsLe D D') {P P' : L2.St → Hp → Prop} (hp : ∀ σ H, P σ H → P' σ H) : EndsLe { D with nx := P } { D' with nx := P' } := ⟨hp, h.2.1, h.2.2.1, h.2.2.2⟩
theorem ms_next : MonS tNext := fun D D' σ H h q => h.1 _ _ q
theorem ms_seq (a : MonS t) (b : MonS u) : MonS (tSeq t u) := fun D D' σ H h q => a _ _ _ _ (h.seq fun _ _ z => b _ _ _ _ h z) q
theorem ms_asg (a : MonE te) (b : MonG g) : MonS (tAsg te g) := fun D D' σ H h q => a _ _ _ _ (fun _ _ z => b _ _ _ _ _ h.1 z) q
theorem ms_drop (a : MonE te) : MonS (tDrop te) := fun D D' σ H h q => a _ _ _ _ (fun _ _ z => h.1 _ _ z) q
theorem ms_ret (a : MonE te) : MonS (tRet te) := fun D D' σ H h q => a _ _ _ _ h.2.1 q
theorem ms_retN : MonS tRetN := fun D D' σ H h q => h.2.1 _ _ q
theorem ms_if (a : MonT c) (b : MonS t) (d : MonS u) : MonS (tIfS c t u) := fun D D' σ H h q => a _ _ _ _ (fun k _ z => by cases k; exact d _ _ _ _ h z; exact b _ _ _ _ h z) q
theorem ms_brk : MonS tBreak := fun D D' σ H h q => h.2.2.1 _ _ q
theorem ms_cont : MonS tCont := fun D D' σ H h q => h.2.2.2 _ _ q
theorem ms_never : MonS tNever := fun D D' σ H h q => q
theorem ms_dput {td ty tv : TE} (a : MonE td) (b : MonE ty) (d : MonE tv) : MonS (sDPut td ty tv) := fun D D' σ H h q => d _ _ _ _ (fun _ _ z => a _ _ _ _ (fun _ _ z => b _ _ _ _ (fun _ _ ⟨x, H4, e1, e2, z⟩ => ⟨x, H4, e1, e2, h.1 _ _ z⟩) z) z) q
theorem ms_fldS {K : PySem.W.Frag} {f : Str} (a : MonE ta) (b : MonE tb) : MonS (sFld K ta tb f) := fun D D' σ H h q => b _ _ _ _ (fun _ _ z => a _ _ _ _ (fun _ _ ⟨x, C, dx, fs, e1, e2, e3, e4, e5, z⟩ => ⟨x, C, dx, fs, e1, e2, e3, e4, e5, h.1 _ _ z⟩) z) q
theorem ms_for (a : MonI wi) (b : MonG g) (d : MonS t) : MonS (tFor wi g t) := fun D D' σ H h q =>
  a _ _ _ _ (fun J H1 ⟨W, w0, z⟩ => ⟨W, w0, fun i m σ H hw => by
    rcases z i m σ H hw with ⟨s, y⟩ | ⟨s, N, hN, y⟩
    · exact .inl ⟨s, h.1 _ _ y⟩
    · exact .inr ⟨s, N, hN, fun x H' hy => b _ _ _ _ _ (fun _ _ y' => d { D with nx := N, ct := N, bk := D.nx } { D' with nx := N, ct := N, bk := D'.nx } _ _ ⟨fun _ _ z => z, h.2.1, h.1, fun _ _ z => z⟩ y') (y x H' hy)⟩⟩) q
theorem ms_while (a : MonT c) (b : MonS t) : MonS (tWhile c t) := fun D D' σ H h ⟨W, w0, z⟩ => ⟨W, w0, fun m σ H hw => a _ _ _ _ (fun k H1 y => by
  cases k
  · exact h.1 _ _ y
  · obtain ⟨N, hN, y⟩ := y
    exact ⟨N, hN, b { D with nx := N, ct := N, bk := D.nx } { D' with nx := N, ct := N, bk := D'.nx } _ _ ⟨fun _ _ z => z, h.2.1, h.1, fun _ _ z => z⟩ y⟩) (z m σ H hw)⟩
theorem me_lc {te' : TE} {tt' : TT} {g' : TG} {vs : List Nat} (a : MonI wi) : MonE (tLc wi g' tt' te' vs) := fun σ H Q Q' h q => a _ _ _ _ (fun J H1 z D hD => by
  obtain ⟨W, w0, z⟩ := z D hD
  exact ⟨W, w0, fun i m H hw => (z i m H hw).imp (fun ⟨s, y⟩ => ⟨s, h _ _ y⟩) id⟩) q
theorem me_m1 {rm : V → List V → Hp → VK → Prop} (m : MonM rm) (a : MonE ta) (b : MonE tb) : MonE (tM1 rm ta tb) := fun σ H Q Q' h q => a _ _ _ _ (fun _ _ ⟨e, z⟩ => ⟨e, b _ _ _ _ (fun _ _ z' => m _ _ _ _ _ h z') z⟩) q
theorem mm_split : MonM (fun x xs H Q => ∃ a b, x = .str a ∧ xs = [.str b] ∧ (b.length == 0) = false ∧ a.length + 2 ≤ sizeLine ∧ rNewStrs (Txt.split a b) H Q) := fun x y H Q Q' h ⟨a, b, e1, e2, e3, e4, q⟩ => ⟨a, b, e1, e2, e3, e4, fun p hp => h _ _ (q p hp)⟩
end
end JF

local macro_rules | `(tactic| walk_at "mono1") => `(tactic| first | assumption | (with_reducible apply JF.me_var) | (with_reducible apply JF.me_c) | (with_reducible apply JF.me_op) | (with_reducible apply JF.me_un) | (with_reducible apply JF.me_fld) | (with_reducible apply JF.me_tup) | (with_reducible apply JF.me_lst) | (with_reducible apply JF.me_call) | (with_reducible apply JF.me_meth) | (with_reducible apply JF.me_cb) | (with_reducible apply JF.me_bm) | (with_reducible apply JF.me_bm0) | (with_reducible apply JF.me_andV) | (with_reducible apply JF.me_orV) | (with_reducible apply JF.me_notV) | (with_reducible apply JF.me_if) | (with_reducible apply JF.me_chain) | (with_reducible apply JF.me_sl) | (with_reducible apply JF.me_dget) | (with_reducible apply JF.me_dget2) | (with_reducible apply JF.me_din) | (with_reducible apply JF.me_dnotin) | (with_reducible apply JF.me_dsetd) | (with_reducible apply JF.me_lc) | (with_reducible apply JF.me_m1) | (with_reducible exact JF.mm_split) | (with_reducible apply JF.mt_test') | (with_reducible apply JF.mt_B) | (with_reducible apply JF.mt_and) | (with_reducible apply JF.mt_or) | (with_reducible apply JF.mt_not) | (with_reducible apply JF.ma_nil) | (with_reducible apply JF.ma_cons) | (with_reducible apply JF.mo_none) | (with_reducible apply JF.mo_some) | (with_reducible apply JF.mr_I0) | (with_reducible apply JF.mr_I) | (with_reducible apply JF.mr_eq) | (with_reducible apply JF.mr_ne) | (with_reducible apply JF.mr_ixL) | (with_reducible apply JF.mr_ixT) | (with_reducible apply JF.mr_ixS) | (with_reducible apply JF.mr_cat) | (with_reducible apply JF.mr_in) | (with_reducible apply JF.mr_isN) | (with_reducible apply JF.mr_notN) | (with_reducible apply JF.mu_U) | (with_reducible apply JF.mc_len) | (with_reducible apply JF.mc_isi) | (with_reducible apply JF.mm_append) | (with_reducible apply JF.mg_name) | (with_reducible apply JF.mg_tup) | (with_reducible apply JF.mgs_nil) | (with_reducible apply JF.mgs_cons) | (with_reducible apply JF.mi_L) | (with_reducible apply JF.mi_T) | (with_reducible apply JF.mi_R1) | (with_reducible apply JF.mi_R2) | (with_reducible apply JF.mi_R3) | (with_reducible apply JF.mi_E) | (with_reducible apply JF.mi_S) | (with_reducible apply JF.mi_Z) | (with_reducible apply JF.ms_next) | (with_reducible apply JF.ms_seq) | (with_reducible apply JF.ms_asg) | (with_reducible apply JF.ms_drop) | (with_reducible apply JF.ms_ret) | (with_reducible apply JF.ms_retN) | (with_reducible apply JF.ms_if) | (with_reducible apply JF.ms_brk) | (with_reducible apply JF.ms_cont) | (with_reducible apply JF.ms_never) | (with_reducible apply JF.ms_dput) | (with_reducible apply JF.ms_fldS) | (with_reducible apply JF.ms_for) | (with_reducible apply JF.ms_while))
local macro_rules | `(tactic| walk_at "mono") => `(tactic| repeat' walk_at "mono1")
/-! ### a grove in the heap -/
namespace JF
open PySem PySem.Spec PyProof.Rows L2
theorem nodup_sub_len {α : Type} [DecidableEq α] : ∀ (l m : List α), l.Nodup → (∀ x ∈ l, x ∈ m) → l.length ≤ m.length
  | [], m, _, _ => Nat.zero_le _
  | x :: l, m, h, hs => by
    rw [List.nodup_cons] at h
    have hx : x ∈ m := hs x List.mem_cons_self
    have ih := nodup_sub_len l (m.erase x) h.2 fun y hy => (List.mem_erase_of_ne (fun e => h.1 (by rw [← e]; exact hy))).mpr (hs y (List.mem_cons_of_mem _ hy))
    rw [List.length_erase_of_mem hx] at ih
    have : 0 < m.length := List.length_pos_of_mem hx
    show l.length + 1 ≤ m.length
    omega
theorem states_len {l : List Int} (h : l.Nodup) (hs : ∀ x ∈ l, 0 ≤ x ∧ x ≤ 7) : l.length ≤ 8 :=
  nodup_sub_len l [0, 1, 2, 3, 4, 5, 6, 7] h fun x hx => by
    have := hs x hx
    simp only [List.mem_cons, List.not_mem_nil, or_false]
    omega
structure GA where
  g : Addr
  dx : Addr
  dn : Addr
  dm : Addr
  dl : Addr
  dv : Addr
  ds : Addr
  dp : Addr
def GA.flds (a : GA) : List (Str × V) := [("numbers", .ref a.dn), ("made", .ref a.dm), ("levels", .ref a.dl), ("lives", .ref a.dv), ("spans", .ref a.ds), ("plain", .ref a.dp)]
def GA.m5 (a : GA) : List Addr := [a.dn, a.dm, a.dl, a.dv, a.ds]
def GA.muts (a : GA) (rows : List (Int × Addr)) : List Addr := a.m5 ++ a.dp :: rows.map (·.2)
/-- a span as a value -/
def SpanV (H : Hp) (v : V) : Option Box → Prop
  | none => v = .non
  | some b => ∃ p, v = .ref p ∧ H p = some (.tup [.int b.1, .int b.2.1, .int b.2.2.1, .int b.2.2.2])
theorem SpanV.keep {H H' : Hp} {v : V} {o : Option Box} (h : SpanV H v o) (k : ∀ b xs, H b = some (.tup xs) → H' b = some (.tup xs)) : SpanV H' v o := by
  cases o with
  | none => exact h
  | some b =>
    obtain ⟨p, e, hp⟩ := h
    exact ⟨p, e, k _ _ hp⟩
/-- what the lists of a grove hold -/
structure GData (H : Hp) (a : GA) (q : List Sq) (tups : List Addr) (mk : List (List Int)) (spt : List V) : Prop where
  hn : H a.dn = some (.dT (kvsOf mk 0))
  hm : H a.dm = some (.lst (tups.map V.ref))
  hl : H a.dl = some (.lst (q.map fun S => V.int (S.level : Int)))
  hv : H a.dv = some (.lst (q.map fun S => V.int S.lives))
  hs : H a.ds = some (.lst spt)
  lt : tups.length = q.length
  lm : mk.length = q.length
  ls : spt.length = q.length
  tu : ∀ (i : Nat) t m, tups[i]? = some t → mk[i]? = some m → H t = some (.tup (m.map V.int))
  sp : ∀ (i : Nat) v S, spt[i]? = some v → q[i]? = some S → SpanV H v S.span
  md : ∀ (i : Nat) m S, mk[i]? = some m → q[i]? = some S → Made q S m
structure GAt (C : Addr) (H : Hp) (a : GA) (rows : List (Int × Addr)) (q : List Sq) : Prop where
  ob : H a.g = some (.ins C a.dx a.flds)
  da : ∃ tups mk spt, GData H a q tups mk spt
  wf : ∀ S ∈ q, S.wf
  qn : q.Nodup
  pl : H a.dp = some (.dK (rows.map fun sa => ((Sum.inl sa.1 : Key), V.ref sa.2)))
  nd : (a.g :: a.muts rows).Nodup
  rn : (rows.map (·.1)).Nodup
  rs : ∀ s ∈ rows.map (·.1), 0 ≤ s ∧ s ≤ 7
  ro : ∀ s b, (s, b) ∈ rows → ∃ ns : List Nat, H b = some (.lst (ns.map fun (n : Nat) => V.int (n : Int))) ∧ ∀ (i : Nat) n, ns[i]? = some n → q[n]? = some (Sq.even i s)
/-- all but what stands at these addresses is as it was -/
def Fr (S : List Addr) (H H' : Hp) : Prop := ∀ b o, H b = some o → b ∉ S → H' b = some o
theorem Fr.refl (S : List Addr) (H : Hp) : Fr S H H := fun _ _ h _ => h
theorem Fr.trans {S : List Addr} {H H1 H2 : Hp} (x : Fr S H H1) (y : Fr S H1 H2) : Fr S H H2 := fun b o h n => y b o (x b o h n) n
theorem Fr.mono {S S' : List Addr} {H H' : Hp} (x : Fr S H H') (h : ∀ b ∈ S, b ∈ S') : Fr S' H H' := fun b o e n => x b o e fun z => n (h b z)
theorem fr_of {S : List Addr} {H H' : Hp} (x : Same H H') : Fr S H H' := fun b o e _ => x b o e
def HO.still : HO → Prop
  | .tup _ | .ins _ _ _ | .own _ => True
  | _ => False
/-- a grove stands where its own lists, the tuples and the instances are kept -/
theorem GAt.keep {C : Addr} {H H' : Hp} {a : GA} {rows : List (Int × Addr)} {q : List Sq} (G : GAt C H a rows q) (k : ∀ b o, H b = some o → HO.still o ∨ b ∈ a.muts rows → H' b = some o) : GAt C H' a rows q := by
  obtain ⟨tups, mk, spt, D⟩ := G.da
  have mem : ∀ b, b ∈ a.m5 → b ∈ a.muts rows := fun b h => List.mem_append_left _ h
  refine ⟨k _ _ G.ob (.inl trivial), ⟨tups, mk, spt, k _ _ D.hn (.inr (mem _ (by simp [GA.m5]))), k _ _ D.hm (.inr (mem _ (by simp [GA.m5]))), k _ _ D.hl (.inr (mem _ (by simp [GA.m5]))), k _ _ D.hv (.inr (mem _ (by simp [GA.m5]))), k _ _ D.hs (.inr (mem _ (by simp [GA.m5]))), D.lt, D.lm, D.ls,
    fun i t m h1 h2 => k _ _ (D.tu i t m h1 h2) (.inl trivial), fun i v S h1 h2 => (D.sp i v S h1 h2).keep fun b xs e => k _ _ e (.inl trivial), D.md⟩, G.wf, G.qn, k _ _ G.pl (.inr (by simp [GA.muts])), G.nd, G.rn, G.rs, fun s b h => ?_⟩
  obtain ⟨ns, h1, h2⟩ := G.ro s b h
  refine ⟨ns, k _ _ h1 (.inr ?_), h2⟩
  unfold GA.muts
  exact List.mem_append_right _ (List.mem_cons_of_mem _ (List.mem_map_of_mem (f := fun sa : Int × Addr => sa.2) h))
theorem GAt.same {C : Addr} {H H' : Hp} {a : GA} {rows : List (Int × Addr)} {q : List Sq} (G : GAt C H a rows q) (s : Same H H') : GAt C H' a rows q := G.keep fun b o e _ => s b o e
/-- a new object is laid -/
theorem same_upd {H : Hp} {p : Addr} {o : HO} (h : H p = none) : Same H (upd H p o) := fun b u e => by rw [upd_ne (ne_of_none e h)]; exact e
/-- a list, a dict of the asker's own is changed -/
theorem GAt.upd {C : Addr} {H : Hp} {a : GA} {rows : List (Int × Addr)} {q : List Sq} {p : Addr} {o : HO} (G : GAt C H a rows q) (hp : ∀ u, H p = some u → ¬ HO.still u) (hn : p ∉ a.muts rows) : GAt C (upd H p o) a rows q :=
  G.keep fun b u e h => by
    rw [upd_ne]
    · exact e
    · rintro rfl
      rcases h with h | h
      · exact hp u e h
      · exact hn h
/-- a grove goes on: what was is as it was, squares were added -/
structure GStep (C : Addr) (H : Hp) (a : GA) (rows : List (Int × Addr)) (q : List Sq) (H' : Hp) (rows' : List (Int × Addr)) (q' : List Sq) : Prop where
  gat : GAt C H' a rows' q'
  pre : q <+: q'
  fr : Fr (a.muts rows) H H'
  new : ∀ b ∈ a.muts rows', b ∈ a.muts rows ∨ H b = none
theorem GStep.refl {C : Addr} {H : Hp} {a : GA} {rows : List (Int × Addr)} {q : List Sq} (G : GAt C H a rows q) : GStep C H a rows q H rows q := ⟨G, List.prefix_refl _, Fr.refl _ _, fun _ h => .inl h⟩
theorem GStep.trans {C : Addr} {H H1 H2 : Hp} {a : GA} {rows r1 r2 : List (Int × Addr)} {q q1 q2 : List Sq} (x : GStep C H a rows q H1 r1 q1) (y : GStep C H1 a r1 q1 H2 r2 q2) : GStep C H a rows q H2 r2 q2 := by
  refine ⟨y.gat, x.pre.trans y.pre, fun b o e n => ?_, fun b h => ?_⟩
  · refine y.fr b o (x.fr b o e n) fun z => ?_
    rcases x.new b z with z | z
    · exact n z
    · rw [e] at z; cases z
  · rcases y.new b h with z | z
    · exact x.new b z
    · by_cases hb : b ∈ a.muts rows
      · exact .inl hb
      · right
        cases q : H b with
        | none => rfl
        | some o =>
          rw [x.fr b o q hb] at z
          cases z
/-- the asker's own things are kept, and stay the asker's own -/
theorem GStep.own {C : Addr} {H H1 : Hp} {a : GA} {rows r1 : List (Int × Addr)} {q q1 : List Sq} (x : GStep C H a rows q H1 r1 q1) {b : Addr} {o : HO} (h : H b = some o) (n : b ∉ a.muts rows) : H1 b = some o ∧ b ∉ a.muts r1 :=
  ⟨x.fr b o h n, fun z => (x.new b z).elim n fun z => by rw [h] at z; cases z⟩
theorem pre_get {q q' : List Sq} (h : q <+: q') {n : Nat} {S : Sq} (e : q[n]? = some S) : q'[n]? = some S := by
  obtain ⟨t, rfl⟩ := h
  exact getElem?_app e t
theorem ne_app {H : Hp} {b : Addr} {o : HO} {S : List Addr} (h : H b = some o) (hs : ∀ c ∈ S, ∀ u, H c = some u → o ≠ u) (hn : ∀ c ∈ S, ∃ u, H c = some u) : b ∉ S := fun z => by
  obtain ⟨u, e⟩ := hn b z
  refine hs b z u e ?_
  rw [h] at e
  exact Option.some.inj e
/-- a tuple is none of a grove's own lists -/
theorem GAt.tup_out {C : Addr} {H : Hp} {a : GA} {rows : List (Int × Addr)} {q : List Sq} (G : GAt C H a rows q) {b : Addr} {xs : List V} (h : H b = some (.tup xs)) : b ∉ a.muts rows := by
  obtain ⟨tups, mk, spt, D⟩ := G.da
  intro z
  unfold GA.muts GA.m5 at z
  simp only [List.cons_append, List.nil_append, List.mem_cons, List.mem_map] at z
  rcases z with rfl | rfl | rfl | rfl | rfl | rfl | ⟨sa, hm, rfl⟩
  · rw [D.hn] at h; cases h
  · rw [D.hm] at h; cases h
  · rw [D.hl] at h; cases h
  · rw [D.hv] at h; cases h
  · rw [D.hs] at h; cases h
  · rw [G.pl] at h; cases h
  · obtain ⟨ns, e, _⟩ := G.ro sa.1 sa.2 hm
    rw [e] at h; cases h
/-- what is new is none of them -/
theorem GAt.new_out {C : Addr} {H : Hp} {a : GA} {rows : List (Int × Addr)} {q : List Sq} (G : GAt C H a rows q) {b : Addr} (h : H b = none) : b ∉ a.muts rows := by
  obtain ⟨tups, mk, spt, D⟩ := G.da
  intro z
  unfold GA.muts GA.m5 at z
  simp only [List.cons_append, List.nil_append, List.mem_cons, List.mem_map] at z
  rcases z with rfl | rfl | rfl | rfl | rfl | rfl | ⟨sa, hm, rfl⟩
  · rw [D.hn] at h; cases h
  · rw [D.hm] at h; cases h
  · rw [D.hl] at h; cases h
  · rw [D.hv] at h; cases h
  · rw [D.hs] at h; cases h
  · rw [G.pl] at h; cases h
  · obtain ⟨ns, e, _⟩ := G.ro sa.1 sa.2 hm
    rw [e] at h; cases h
end JF

/-! ### the grove's small defs -/
namespace JF
open PySem PySem.Spec PyProof.Rows L2
section
variable {P : Program} {w : World} {K : PySem.W.Frag} {mg : Str → Option Value} {base : Heap}
/-- is_whole of a whole number, a truth, a text, None -/
def wholeV : V → Bool
  | .int _ => true
  | _ => false
def sp_is_whole : Sp := fun vs H Q _ => ∃ x : V, vs = [x] ∧ ((∃ i, x = .int i) ∨ (∃ b, x = .bl b) ∨ (∃ z, x = .str z) ∨ x = .non) ∧ Q (.bl (wholeV x)) H
theorem isi_ty {H : Hp} {Q : VK} {x : V} {a b : String} {r : Bool} (h : TyX K H x (.type a)) (k : kitB a b = some r) (q : Q (.bl r) H) : rIsi K [x, .ty b] H Q :=
  ⟨x, .ty b, _, _, r, rfl, .ty b, h, kit_ty k, q⟩
theorem ok_is_whole (T : Env fa fn K mg) : Good P w K mg base CX0 1 ("is_whole", none) ["thing"] sp_is_whole := by
  refine good_mk T 2 (d := d_is_whole) (N := ["thing"]) (ps := ["thing"]) rfl rfl sc_is_whole (fun _ _ _ _ _ _ us hl => match us, hl with | [_], _ => rfl) (fun vs H Q E h => ?_) (fun f cdv A outer s H vs Q E hr h => ?_)
  · obtain ⟨x, rfl, _⟩ := h; rfl
  · obtain ⟨x, rfl, hx, k⟩ := h
    refine ⟨_, (pss_one (ps_ret (pe_and (pe_callB (call_isiK K rfl) (by rfl) (T.free 4) (by decide +kernel) (pa_cons (pv 0) (pa_cons (pe_bltn (v := V.ty "int") rfl (T.free 5) (by decide +kernel) rfl) pa_nil))) (pe_one (pe_not (pe_callB (call_isiK K rfl) (by rfl) (T.free 4) (by decide +kernel) (pa_cons (pv 0) (pa_cons (pe_bltn (v := V.ty "bool") rfl (T.free 3) (by decide +kernel) rfl) pa_nil)))))))), ?_⟩
    walk_at "rd"
    rcases hx with ⟨i, rfl⟩ | ⟨b, rfl⟩ | ⟨z, rfl⟩ | rfl
    · refine isi_ty (.base (.int i)) (by decide +kernel : kitB "int" "int" = some true) ?_
      walk_at "rd"
      refine isi_ty (.base (.int i)) (by decide +kernel : kitB "int" "bool" = some false) ?_
      walk_at "rd"
      exact k
    · refine isi_ty (.base (.bl b)) (by decide +kernel : kitB "bool" "int" = some true) ?_
      walk_at "rd"
      refine isi_ty (.base (.bl b)) (by decide +kernel : kitB "bool" "bool" = some true) ?_
      walk_at "rd"
      exact k
    · refine isi_ty (.base (.str z)) (by decide +kernel : kitB "str" "int" = some false) ?_
      walk_at "rd"
      exact k
    · refine isi_ty (.base .non) (by decide +kernel : kitB "NoneType" "int" = some false) ?_
      walk_at "rd"
      exact k
/-! ### a state -/
def stateV : V → Bool
  | .int i => decide (0 ≤ i) && decide (i ≤ 7)
  | _ => false
theorem stateV_ok {s : Int} (h0 : 0 ≤ s) (h7 : s ≤ 7) : stateV (.int s) = true := by show (decide (0 ≤ s) && decide (s ≤ 7)) = true; rw [decide_eq_true h0, decide_eq_true h7]; rfl
def sp_is_state : Sp := fun vs H Q _ => ∃ x : V, vs = [x] ∧ ((∃ i, x = .int i) ∨ (∃ b, x = .bl b) ∨ (∃ z, x = .str z) ∨ x = .non) ∧ Q (.bl (stateV x)) H
theorem ok_is_state (T : Env fa fn K mg) : Good P w K mg base CX0 2 ("is_state", none) ["thing"] sp_is_state := by
  have G_is_whole := ok_is_whole (P := P) (w := w) (base := base) T
  refine good_mk T 5 (d := d_is_state) (N := ["thing"]) (ps := ["thing"]) rfl rfl sc_is_state (fun _ _ _ _ _ _ us hl => match us, hl with | [_], _ => rfl) (fun vs H Q E h => ?_) (fun f cdv A outer s H vs Q E hr h => ?_)
  · obtain ⟨x, rfl, _⟩ := h; rfl
  · obtain ⟨x, rfl, hx, k⟩ := h
    refine ⟨_, (pss_one (ps_ret (pe_and (pe_cgK K rfl G_is_whole (hr.mono (by decide)) (T.glo 10) (pa_cons (pv 0) pa_nil)) (pe_one (pe_chain op_le op_le pe_int (pv 0) pe_int))))), ?_⟩
    walk_at "rd"
    refine ⟨x, rfl, hx, ?_⟩
    walk_at "rd"
    rcases hx with ⟨i, rfl⟩ | ⟨b, rfl⟩ | ⟨z, rfl⟩ | rfl
    · refine iteT ?_
      walk_at "rd"
      have k' : Q (.bl (decide (0 ≤ i) && decide (i ≤ 7))) H := k
      by_cases h0 : 0 ≤ i
      · rw [decide_eq_true h0] at k' ⊢
        walk_at "rd"
        exact k'
      · rw [decide_eq_false h0] at k' ⊢
        walk_at "rd"
        exact k'
    · refine iteF ?_
      exact k
    · refine iteF ?_
      exact k
    · refine iteF ?_
      exact k
/-! ### boxes -/
def sp_round_both : Sp := fun vs H Q _ => ∃ (v : V) (o : Option Box) (p : Addr) (b : Box), vs = [v, .ref p] ∧ SpanV H v o ∧ SpanV H (.ref p) (some b) ∧ ∀ H' u, Same H H' → SpanV H' u (some (rb o b)) → Q u H'
theorem min_if (a b : Int) : (if b < a then b else a) = min a b := by rw [Int.min_def]; split <;> split <;> omega
theorem max_if (a b : Int) : (if b > a then b else a) = max a b := by rw [Int.max_def]; split <;> split <;> omega
theorem ok_round_both (T : Env fa fn K mg) : Good P w K mg base CX0 1 ("round_both", none) ["one", "other"] sp_round_both := by
  refine good_mk T 3 (d := d_round_both) (N := ["one", "other", "left", "top", "right", "low"]) (ps := ["one", "other"]) rfl rfl sc_round_both (fun _ _ _ _ _ _ us hl => match us, hl with | [_, _], _ => rfl) (fun vs H Q E h => ?_) (fun f cdv A outer s H vs Q E hr h => ?_)
  · obtain ⟨v, o, p, b, rfl, _⟩ := h; rfl
  · obtain ⟨v, o, p, b, rfl, hv, ⟨p', e, hp⟩, k⟩ := h
    cases e
    refine ⟨_, (pss_cons (ps_if (pt_cmpR op_isN (pv 0) pe_non (nomark _)) (pss_one (ps_ret (pv 1))) pss_nil)
      (pss_cons (ps_set (i := 2) sc_round_both.nd rfl (Or.inl rfl) (pe_callB (call_min2 rfl) (by rfl) (T.free 6) (by decide +kernel) (pa_cons (pe_ix (ix_tupK K rfl) (pv 0) pe_int (fun _ _ => rfl)) (pa_cons (pe_ix (ix_tupK K rfl) (pv 1) pe_int (fun _ _ => rfl)) pa_nil))))
      (pss_cons (ps_set (i := 3) sc_round_both.nd rfl (Or.inl rfl) (pe_callB (call_min2 rfl) (by rfl) (T.free 6) (by decide +kernel) (pa_cons (pe_ix (ix_tupK K rfl) (pv 0) pe_int (fun _ _ => rfl)) (pa_cons (pe_ix (ix_tupK K rfl) (pv 1) pe_int (fun _ _ => rfl)) pa_nil))))
      (pss_cons (ps_set (i := 4) sc_round_both.nd rfl (Or.inl rfl) (pe_callB (call_max2 rfl) (by rfl) (T.free 7) (by decide +kernel) (pa_cons (pe_op op_add (pe_ix (ix_tupK K rfl) (pv 0) pe_int (fun _ _ => rfl)) (pe_ix (ix_tupK K rfl) (pv 0) pe_int (fun _ _ => rfl))) (pa_cons (pe_op op_add (pe_ix (ix_tupK K rfl) (pv 1) pe_int (fun _ _ => rfl)) (pe_ix (ix_tupK K rfl) (pv 1) pe_int (fun _ _ => rfl))) pa_nil))))
      (pss_cons (ps_set (i := 5) sc_round_both.nd rfl (Or.inl rfl) (pe_callB (call_max2 rfl) (by rfl) (T.free 7) (by decide +kernel) (pa_cons (pe_op op_add (pe_ix (ix_tupK K rfl) (pv 0) pe_int (fun _ _ => rfl)) (pe_ix (ix_tupK K rfl) (pv 0) pe_int (fun _ _ => rfl))) (pa_cons (pe_op op_add (pe_ix (ix_tupK K rfl) (pv 1) pe_int (fun _ _ => rfl)) (pe_ix (ix_tupK K rfl) (pv 1) pe_int (fun _ _ => rfl))) pa_nil))))
      (pss_one (ps_ret (pe_tup (pa_cons (pv 2) (pa_cons (pv 3) (pa_cons (pe_op op_sub (pv 4) (pv 2)) (pa_cons (pe_op op_sub (pv 5) (pv 3)) pa_nil)))))))))))), ?_⟩
    walk_at "rd"
    cases o with
    | none =>
      have e : v = .non := hv
      subst e
      refine iteT ?_
      walk_at "rd"
      exact k H _ (Same.refl H) ⟨p, rfl, hp⟩
    | some a =>
      obtain ⟨q, rfl, hq⟩ := hv
      refine iteF ?_
      walk_at "rd"
      refine rd_new (hn := by show 4 ≤ sizeLine; decide) fun t ht => ?_
      walk_at "rd"
      refine k _ _ (fun b o e => by rw [upd_ne (ne_of_none e ht)]; exact e) ⟨t, rfl, ?_⟩
      rw [upd_same]
      simp only [rb, min_if, max_if]
/-! ### the span of four -/
def acc4 (half : Int) (os : List (Option Box)) : Nat → Option Box
  | 0 => none
  | k + 1 => r4step half (k : Int) (acc4 half os k) (os.getD k none)
def sp_round_four : Sp := fun vs H Q _ => ∃ (p : Addr) (us : List V) (os : List (Option Box)) (half : Int), vs = [.ref p, .int half] ∧ H p = some (.lst us) ∧ us.length = 4 ∧ os.length = 4 ∧ (∀ (i : Nat) v o, us[i]? = some v → os[i]? = some o → SpanV H v o) ∧
  0 ≤ half ∧ half < 2 ^ 64 ∧ ∀ H' u, Same H H' → SpanV H' u (acc4 half os 4) → Q u H'
theorem half_ok {h x : Int} (h0 : 0 ≤ h) (h1 : h < 2 ^ 64) (x0 : 0 ≤ x) (x1 : x < 4) : CMulW h x := by
  have e1 : (2 : Int) ^ 64 ≤ 2 ^ 2000 := by decide +kernel
  have e2 : (4 : Int) ≤ 2 ^ 2000 := by decide +kernel
  exact mulW_of (by omega) (by omega) (by omega) (by omega)
theorem ok_round_four (T : Env fa fn K mg) : Good P w K mg base CX0 2 ("round_four", none) ["spans", "half"] sp_round_four := by
  have G_round_both := ok_round_both (P := P) (w := w) (base := base) T
  refine good_mk T 4 (d := d_round_four) (N := ["spans", "half", "found", "at", "span", "left", "top"]) (ps := ["spans", "half"]) rfl rfl sc_round_four (fun _ _ _ _ _ _ us hl => match us, hl with | [_, _], _ => rfl) (fun vs H Q E h => ?_) (fun f cdv A outer s H vs Q E hr h => ?_)
  · obtain ⟨p, us, os, half, rfl, _⟩ := h; rfl
  · obtain ⟨p, us, os, half, rfl, hp, hu, ho, hs, h0, h1, k⟩ := h
    refine ⟨_, (pss_cons (ps_set (i := 2) sc_round_four.nd rfl (Or.inl rfl) pe_non)
      (pss_cons (ps_for PassesOwn.never rfl (pi_enum (by rfl) (T.free 8) (pa_cons (pv 0) pa_nil)) (pg_tup rfl (pgs_cons (pg_name (i := 3) sc_round_four.nd rfl (Or.inl rfl)) (pgs_cons (pg_name (i := 4) sc_round_four.nd rfl (Or.inl rfl)) pgs_nil))) (pss_one (ps_if (pt_cmpR op_notN (pv 4) pe_non (nomark _)) (pss_cons (ps_set (i := 5) sc_round_four.nd rfl (Or.inl rfl) (pe_op op_add (pe_ix (ix_tupK K rfl) (pv 4) pe_int (fun _ _ => rfl)) (pe_op op_mulW (pv 1) (pe_op op_mod (pv 3) pe_int))))
      (pss_cons (ps_set (i := 6) sc_round_four.nd rfl (Or.inl rfl) (pe_op op_add (pe_ix (ix_tupK K rfl) (pv 4) pe_int (fun _ _ => rfl)) (pe_op op_mulW (pv 1) (pe_op op_fdivW (pv 3) pe_int))))
      (pss_one (ps_set (i := 2) sc_round_four.nd rfl (Or.inl rfl) (pe_cgK K rfl G_round_both (hr.mono (by decide)) (T.glo 9) (pa_cons (pv 2) (pa_cons (pe_tup (pa_cons (pv 5) (pa_cons (pv 6) (pa_cons (pe_ix (ix_tupK K rfl) (pv 4) pe_int (fun _ _ => rfl)) (pa_cons (pe_ix (ix_tupK K rfl) (pv 4) pe_int (fun _ _ => rfl)) pa_nil))))) pa_nil))))))) pss_nil)))
      (pss_one (ps_ret (pv 2))))), ?_⟩
    walk_at "rd"
    refine ⟨p, us, rfl, SqL.of hp, ?_⟩
    refine for_it (walk_enum (xs := us)) (fun i σ H' => ∃ f x1 x2 x3 x4, σ = [some (.ref p), some (.int half), some f, x1, x2, x3, x4] ∧ Same H H' ∧ SpanV H' f (acc4 half os i)) ?_ ?_ ?_ ?_
    · exact ⟨.non, none, none, none, none, rfl, Same.refl H, rfl⟩
    · rintro i σ H' _ ⟨_, _, _, _, _, _, s1, _⟩
      exact SqL.of (s1 _ _ hp)
    · rintro i x σ H1 H2 hi ⟨f, x1, x2, x3, x4, rfl, s1, hf⟩ ⟨t, x, y, rfl, ht, rfl, ex, ey⟩
      cases ex
      have hu2 : us[i]? = some y := ey
      have s2 : Same H1 (upd H1 t (.tup [V.int (i : Nat), y])) := fun b o e => by rw [upd_ne (ne_of_none e ht)]; exact e
      have hT : (upd H1 t (.tup [V.int (i : Nat), y])) t = some (.tup [V.int (i : Nat), y]) := upd_same
      walk_at "rd"
      have hi4 : i < 4 := by omega
      obtain ⟨o, ho2⟩ : ∃ o, os[i]? = some o := ⟨os[i], by simp [ho, hi4]⟩
      have eo : os.getD i none = o := by simp [List.getD, ho2]
      have hy := hs i y o hu2 ho2
      cases o with
      | none =>
        have e : y = .non := hy
        subst e
        refine iteF ?_
        walk_at "rd"
        refine ⟨f, _, _, x3, x4, rfl, s1.trans s2, ?_⟩
        show SpanV _ f (r4step half (i : Int) (acc4 half os i) (os.getD i none))
        rw [eo]
        exact hf.keep fun b xs e => s2 _ _ e
      | some b =>
        obtain ⟨q, rfl, hq⟩ := hy
        have hq2 := s2 _ _ (s1 _ _ hq)
        refine iteT ?_
        walk_at "rd"
        refine rd_I (half_ok h0 h1 (by omega) (by omega)) ?_
        walk_at "rd"
        refine rd_I (half_ok h0 h1 (by omega) (by omega)) ?_
        walk_at "rd"
        refine rd_new (hn := by show 4 ≤ sizeLine; decide) fun t2 ht2 => ?_
        have s3 : ∀ o, Same (upd H1 t (.tup [V.int (i : Nat), .ref q])) (upd (upd H1 t (.tup [V.int (i : Nat), .ref q])) t2 o) := fun o b' o' e => by rw [upd_ne (ne_of_none e ht2)]; exact e
        walk_at "rd"
        refine ⟨f, acc4 half os i, t2, (b.1 + half * ((i : Int) % 2), b.2.1 + half * ((i : Int) / 2), b.2.2.1, b.2.2.2), rfl, (hf.keep fun b xs e => s3 _ _ _ (s2 _ _ e)), ⟨t2, rfl, upd_same⟩, fun H3 u s4 hu3 => ?_⟩
        walk_at "rd"
        refine ⟨u, _, _, _, _, rfl, (s1.trans s2).trans ((s3 _).trans s4), ?_⟩
        show SpanV _ u (r4step half (i : Int) (acc4 half os i) (os.getD i none))
        rw [eo]
        exact hu3
    · rintro σ H' ⟨f, x1, x2, x3, x4, rfl, s1, hf⟩
      rw [hu] at hf
      walk_at "rd"
      exact k _ _ s1 hf
end
end JF

/-! ### the grove's methods: kept, cell, knit -/
namespace JF
open PySem PySem.Spec PyProof.Rows L2
/-- the class stands at -/
abbrev CG (K : PySem.W.Frag) : Addr := He.ga K "Grove"
theorem nd_of {a : GA} {rows : List (Int × Addr)} (h : (a.g :: a.muts rows).Nodup) :
    (a.g ≠ a.dn ∧ a.g ≠ a.dm ∧ a.g ≠ a.dl ∧ a.g ≠ a.dv ∧ a.g ≠ a.ds ∧ a.g ≠ a.dp) ∧ (a.dn ≠ a.dm ∧ a.dn ≠ a.dl ∧ a.dn ≠ a.dv ∧ a.dn ≠ a.ds ∧ a.dn ≠ a.dp) ∧ (a.dm ≠ a.dl ∧ a.dm ≠ a.dv ∧ a.dm ≠ a.ds ∧ a.dm ≠ a.dp) ∧ (a.dl ≠ a.dv ∧ a.dl ≠ a.ds ∧ a.dl ≠ a.dp) ∧ (a.dv ≠ a.ds ∧ a.dv ≠ a.dp) ∧ a.ds ≠ a.dp ∧
      ∀ s b, (s, b) ∈ rows → b ≠ a.g ∧ b ≠ a.dn ∧ b ≠ a.dm ∧ b ≠ a.dl ∧ b ≠ a.dv ∧ b ≠ a.ds ∧ b ≠ a.dp := by
  simp only [GA.muts, GA.m5, List.cons_append, List.nil_append, List.nodup_cons, List.mem_cons, not_or] at h
  obtain ⟨⟨g1, g2, g3, g4, g5, g6, g7⟩, ⟨n1, n2, n3, n4, n5, n6⟩, ⟨m1, m2, m3, m4, m5⟩, ⟨l1, l2, l3, l4⟩, ⟨v1, v2, v3⟩, ⟨s1, s2⟩, p1, _⟩ := h
  refine ⟨⟨g1, g2, g3, g4, g5, g6⟩, ⟨n1, n2, n3, n4, n5⟩, ⟨m1, m2, m3, m4⟩, ⟨l1, l2, l3⟩, ⟨v1, v2⟩, s1, fun s b hb => ?_⟩
  have hm : b ∈ rows.map (·.2) := List.mem_map_of_mem (f := fun sa : Int × Addr => sa.2) hb
  exact ⟨fun z => g7 (z ▸ hm), fun z => n6 (z ▸ hm), fun z => m5 (z ▸ hm), fun z => l4 (z ▸ hm), fun z => v3 (z ▸ hm), fun z => s2 (z ▸ hm), fun z => p1 (z ▸ hm)⟩
theorem inl_kV (m : List Int) : (m.map (Sum.inl : Int → Key)).map kV = m.map V.int := by
  rw [List.map_map]; rfl
theorem snoc_get {α β : Type} {l : List α} {x : α} {l' : List β} {y : β} (hl : l.length = l'.length) {i : Nat} {u : α} {v : β} (h1 : (l ++ [x])[i]? = some u) (h2 : (l' ++ [y])[i]? = some v) : (l[i]? = some u ∧ l'[i]? = some v) ∨ (i = l.length ∧ u = x ∧ v = y) := by
  by_cases h : i < l.length
  · rw [List.getElem?_append_left h] at h1
    rw [List.getElem?_append_left (by omega)] at h2
    exact .inl ⟨h1, h2⟩
  · have hi : i < (l ++ [x]).length := (List.getElem?_eq_some_iff.mp h1).1
    have e : i = l.length := by simp at hi; omega
    subst e
    simp at h1
    rw [hl] at h2
    simp at h2
    exact .inr ⟨rfl, h1.symm, h2.symm⟩
/-- a square that is there stands in the dict by its own number; one that is not there does not -/
theorem look_of {q : List Sq} {mk : List (List Int)} (qn : q.Nodup) (lm : mk.length = q.length) (md : ∀ (i : Nat) m S, mk[i]? = some m → q[i]? = some S → Made q S m) {S : Sq} {m : List Int} (hm : Made q S m) :
    (∀ n, lookI mk m 0 = some n → q[n]? = some S) ∧ (lookI mk m 0 = none → S ∉ q) := by
  constructor
  · intro n h
    obtain ⟨_, h2⟩ := lookI_some h
    simp only [Nat.sub_zero] at h2
    have hn : n < q.length := by rw [← lm]; exact (List.getElem?_eq_some_iff.mp h2).1
    have e : q[n]? = some q[n] := by simp [hn]
    rw [e]
    exact congrArg some (made_same (md n m _ h2 e) hm)
  · intro h hS
    obtain ⟨n, hn, e⟩ := List.mem_iff_getElem.mp hS
    have hn' : n < mk.length := by omega
    have e1 : mk[n]? = some mk[n] := by simp [hn']
    have e2 : q[n]? = some S := by simp [hn, e]
    refine lookI_none h ?_
    rw [made_inj qn hm (md n _ S e1 e2)]
    exact List.getElem_mem hn'
theorem noats {K : PySem.W.Frag} {mg : Str → Option Value} (T : Env fa fn K mg) : NoAttr K (CG K) "numbers" ∧ NoAttr K (CG K) "made" ∧ NoAttr K (CG K) "levels" ∧ NoAttr K (CG K) "lives" ∧ NoAttr K (CG K) "spans" ∧ NoAttr K (CG K) "plain" :=
  ⟨T.noat 49, T.noat 48, T.noat 46, T.noat 47, T.noat 51, T.noat 50⟩
/-- the heap behind kept -/
theorem gat_kept {C : Addr} {H H' : Hp} {a : GA} {rows : List (Int × Addr)} {q : List Sq} {tups : List Addr} {mk : List (List Int)} {spt : List V} {S : Sq} {t : Addr} {m : List Int} {v : V} (G : GAt C H a rows q) (D : GData H a q tups mk spt)
    (ht : H t = some (.tup (m.map V.int))) (hm : Made q S m) (hw : S.wf) (hS : S ∉ q) (hv : SpanV H v S.span)
    (h1 : H' a.dn = some (.dT (kvsOf (mk ++ [m]) 0))) (h2 : H' a.dm = some (.lst ((tups ++ [t]).map V.ref))) (h3 : H' a.dl = some (.lst ((q ++ [S]).map fun S => V.int (S.level : Int)))) (h4 : H' a.dv = some (.lst ((q ++ [S]).map fun S => V.int S.lives))) (h5 : H' a.ds = some (.lst (spt ++ [v])))
    (fr : Fr a.m5 H H') : GAt C H' a rows (q ++ [S]) := by
  obtain ⟨⟨g1, g2, g3, g4, g5, g6⟩, ⟨n1, n2, n3, n4, n5⟩, ⟨m1, m2, m3, m4⟩, ⟨l1, l2, l3⟩, ⟨v1, v2⟩, s1, hr⟩ := nd_of G.nd
  have out : ∀ b xs, H b = some (.tup xs) → H' b = some (.tup xs) := fun b xs e => fr b _ e fun z => G.tup_out e (List.mem_append_left _ z)
  refine ⟨fr _ _ G.ob (by simp [GA.m5, g1, g2, g3, g4, g5]), ⟨tups ++ [t], mk ++ [m], spt ++ [v], h1, h2, h3, h4, h5, by simp [D.lt], by simp [D.lm], by simp [D.ls], fun i t' m' e1 e2 => ?_, fun i v' S' e1 e2 => ?_, fun i m' S' e1 e2 => ?_⟩, fun S' h => ?_, ?_, fr _ _ G.pl (by simp [GA.m5, Ne.symm n5, Ne.symm m4, Ne.symm l3, Ne.symm v2, Ne.symm s1]), G.nd, G.rn, G.rs, fun s b hb => ?_⟩
  · rcases snoc_get (by rw [D.lt, D.lm]) e1 e2 with ⟨e1, e2⟩ | ⟨_, rfl, rfl⟩
    · exact out _ _ (D.tu i t' m' e1 e2)
    · exact out _ _ ht
  · rcases snoc_get D.ls e1 e2 with ⟨e1, e2⟩ | ⟨_, rfl, rfl⟩
    · exact (D.sp i v' S' e1 e2).keep out
    · exact hv.keep out
  · rcases snoc_get D.lm e1 e2 with ⟨e1, e2⟩ | ⟨_, rfl, rfl⟩
    · exact (D.md i m' S' e1 e2).app _
    · exact hm.app _
  · rcases List.mem_append.mp h with h | h
    · exact G.wf S' h
    · simp only [List.mem_singleton] at h; subst h; exact hw
  · rw [List.nodup_append]
    refine ⟨G.qn, by simp, fun x hx y hy e => ?_⟩
    simp only [List.mem_singleton] at hy
    subst hy
    exact hS (e ▸ hx)
  · obtain ⟨ns, e, k⟩ := G.ro s b hb
    obtain ⟨_, b1, b2, b3, b4, b5, _⟩ := hr s b hb
    refine ⟨ns, fr _ _ e (by simp [GA.m5, b1, b2, b3, b4, b5]), fun i n hn => getElem?_app (k i n hn) _⟩
section
variable {P : Program} {w : World} {K : PySem.W.Frag} {mg : Str → Option Value} {base : Heap}
def sp_kept (C : Addr) : Sp := fun vs H Q _ => ∃ (a : GA) (rows : List (Int × Addr)) (q : List Sq) (S : Sq) (t : Addr) (m : List Int) (v : V), vs = [.ref a.g, .ref t, .int (S.level : Int), .int S.lives, v] ∧ GAt C H a rows q ∧ H t = some (.tup (m.map V.int)) ∧ Made q S m ∧ S.wf ∧ S ∉ q ∧ SpanV H v S.span ∧ q.length < 16000000 ∧
  ∀ H', GAt C H' a rows (q ++ [S]) → Fr a.m5 H H' → Q (.int (q.length : Int)) H'
theorem sizeBig : 16000000 < sizeLine := by decide
theorem ok_kept (T : Env fa fn K mg) : Good P w K mg base CX0 1 ("Grove", some "kept") ["self", "made", "level", "lives", "span"] (sp_kept (CG K)) := by
  refine good_mk T 7 (d := d_Grove_kept) (N := ["self", "made", "level", "lives", "span", "number"]) (ps := ["self", "made", "level", "lives", "span"]) rfl rfl sc_Grove_kept (fun _ _ _ _ _ _ us hl => match us, hl with | [_, _, _, _, _], _ => rfl) (fun vs H Q E h => ?_) (fun f cdv A outer s H vs Q E hr h => ?_)
  · obtain ⟨a, rows, q, S, t, m, v, rfl, _⟩ := h; rfl
  · obtain ⟨a, rows, q, S, t, m, v, rfl, G, ht, hm, hw, hS, hv, hlen, k⟩ := h
    have hu := hu_of hr
    have cl : Cls K (CG K) := T.cls 0
    have hsz := sizeBig
    obtain ⟨tups, mk, spt, D⟩ := id G.da
    obtain ⟨⟨g1, g2, g3, g4, g5, g6⟩, ⟨n1, n2, n3, n4, n5⟩, ⟨m1, m2, m3, m4⟩, ⟨l1, l2, l3⟩, ⟨v1, v2⟩, s1, _⟩ := nd_of G.nd
    have hob := G.ob
    have hn := D.hn
    have hm' := D.hm
    have hl := D.hl
    have hv' := D.hv
    have hs := D.hs
    have ne : ∀ b o, H b = some o → (∀ xs, o ≠ .tup xs) → b ≠ t := fun b o e h => ne_of e ht (h _)
    refine ⟨_, (pss_cons (ps_set (i := 5) sc_Grove_kept.nd rfl (Or.inl rfl) (pe_callB (call_lenK K rfl) (by rfl) (T.free 11) (by decide +kernel) (pa_cons (pe_fldK K rfl (pv 0) rfl) pa_nil)))
      (pss_cons (ps_dput hu (pe_fldK K rfl (pv 0) rfl) (pv 1) (pv 5) rfl)
      (pss_cons (ps_expr (pe_bm PySem.F.plainAttrs_list PySem.F.slot_list_append PySem.F.type_list_append mt_append (pe_fldK K rfl (pv 0) rfl) (pa_cons (pv 1) pa_nil)))
      (pss_cons (ps_expr (pe_bm PySem.F.plainAttrs_list PySem.F.slot_list_append PySem.F.type_list_append mt_append (pe_fldK K rfl (pv 0) rfl) (pa_cons (pv 2) pa_nil)))
      (pss_cons (ps_expr (pe_bm PySem.F.plainAttrs_list PySem.F.slot_list_append PySem.F.type_list_append mt_append (pe_fldK K rfl (pv 0) rfl) (pa_cons (pv 3) pa_nil)))
      (pss_cons (ps_expr (pe_bm PySem.F.plainAttrs_list PySem.F.slot_list_append PySem.F.type_list_append mt_append (pe_fldK K rfl (pv 0) rfl) (pa_cons (pv 4) pa_nil)))
      (pss_one (ps_ret (pv 5))))))))), ?_⟩
    walk_at "rd"
    refine rd_fldR hob cl (T.noat 48) (by rfl) ?_
    walk_at "rd"
    refine rd_len (SqL.of hm') ?_
    walk_at "rd"
    refine rd_fldR hob cl (T.noat 49) (by rfl) ?_
    walk_at "rd"
    refine ⟨a.dn, _, rfl, DPut.t (k := m.map Sum.inl) hn (by rw [inl_kV]; exact ht) (by rw [kvsOf_len, D.lm]; omega), ?_⟩
    have hnone : valV (kvsOf mk 0) (m.map Sum.inl) = none := by
      rw [valV_kvsOf]
      cases e : lookI mk m 0 with
      | none => rfl
      | some n => exact (hS (List.mem_of_getElem? ((look_of G.qn D.lm D.md hm).1 n e))).elim
    rw [putK_new _ hnone]
    have e1 : kvsOf mk 0 ++ [(m.map Sum.inl, V.int (((tups.map V.ref).length : Nat) : Int))] = kvsOf (mk ++ [m]) 0 := by
      rw [kvsOf_app, Nat.zero_add, D.lm, List.length_map, D.lt]
    rw [e1]
    walk_at "rd"
    refine rd_fldR (by walk_at "hp") cl (T.noat 48) (by rfl) ?_
    refine rd_tyL (by walk_at "hp") ?_
    walk_at "rd"
    refine rd_append (xs := tups.map V.ref) (by walk_at "hp") (by rw [List.length_map, D.lt]; omega) ?_
    walk_at "rd"
    refine rd_fldR (by walk_at "hp") cl (T.noat 46) (by rfl) ?_
    refine rd_tyL (xs := q.map fun S => V.int (S.level : Int)) (by walk_at "hp") ?_
    walk_at "rd"
    refine rd_append (xs := q.map fun S => V.int (S.level : Int)) (by walk_at "hp") (by rw [List.length_map]; omega) ?_
    walk_at "rd"
    refine rd_fldR (by walk_at "hp") cl (T.noat 47) (by rfl) ?_
    refine rd_tyL (xs := q.map fun S => V.int S.lives) (by walk_at "hp") ?_
    walk_at "rd"
    refine rd_append (xs := q.map fun S => V.int S.lives) (by walk_at "hp") (by rw [List.length_map]; omega) ?_
    walk_at "rd"
    refine rd_fldR (by walk_at "hp") cl (T.noat 51) (by rfl) ?_
    refine rd_tyL (xs := spt) (by walk_at "hp") ?_
    walk_at "rd"
    refine rd_append (xs := spt) (by walk_at "hp") (by rw [D.ls]; omega) ?_
    walk_at "rd"
    rw [List.length_map, D.lt]
    refine k _ (gat_kept G D ht hm hw hS hv (by walk_at "hp") ((by walk_at "hp" : _ = some (HO.lst (tups.map V.ref ++ [V.ref t]))).trans (by simp)) ((by walk_at "hp" : _ = some (HO.lst ((q.map fun S => V.int (S.level : Int)) ++ [V.int (S.level : Int)]))).trans (by simp)) ((by walk_at "hp" : _ = some (HO.lst ((q.map fun S => V.int S.lives) ++ [V.int S.lives]))).trans (by simp)) (by walk_at "hp") ?fr) ?fr
    case fr =>
      intro b o e hb
      simp only [GA.m5, List.mem_cons, List.not_mem_nil, or_false, not_or] at hb
      obtain ⟨b1, b2, b3, b4, b5⟩ := hb
      walk_at "hp"
/-! ### cell and knit -/
theorem take_snoc {α : Type} {l : List α} {i : Nat} {v : α} (h : l[i]? = some v) : l.take (i + 1) = l.take i ++ [v] := by
  rw [List.take_add_one, h]; rfl
def sp_cell (C : Addr) : Sp := fun vs H Q _ => ∃ (a : GA) (rows : List (Int × Addr)) (q : List Sq) (s : Int), vs = [.ref a.g, .int s] ∧ GAt C H a rows q ∧ 0 ≤ s ∧ s ≤ 7 ∧ q.length < 16000000 ∧
  ∀ H' q' (n : Nat), GAt C H' a rows q' → q <+: q' → q'.length ≤ q.length + 1 → q'[n]? = some (.leaf s) → Fr a.m5 H H' → Q (.int (n : Int)) H'
theorem ok_cell (T : Env fa fn K mg) : Good P w K mg base CX0 2 ("Grove", some "cell") ["self", "state"] (sp_cell (CG K)) := by
  have G_Grove_kept := ok_kept (P := P) (w := w) (base := base) T
  refine good_mk T 8 (d := d_Grove_cell) (N := ["self", "state", "made"]) (ps := ["self", "state"]) rfl rfl sc_Grove_cell (fun _ _ _ _ _ _ us hl => match us, hl with | [_, _], _ => rfl) (fun vs H Q E h => ?_) (fun f cdv A outer s H vs Q E hr h => ?_)
  · obtain ⟨a, rows, q, s, rfl, _⟩ := h; rfl
  · obtain ⟨a, rows, q, s, rfl, G, h0, h7, hlen, k⟩ := h
    have hu := hu_of hr
    have cl : Cls K (CG K) := T.cls 0
    obtain ⟨na1, na2, na3, na4, na5, na6⟩ := noats T
    refine ⟨_, (pss_cons (ps_set (i := 2) sc_Grove_cell.nd rfl (Or.inl rfl) (pe_tup (pa_cons (pv 1) pa_nil)))
      (pss_cons (ps_if (pt_cmp (pc_din hu (pv 2) (pe_fldK K rfl (pv 0) rfl))) (pss_one (ps_ret (pe_dget hu (pe_fldK K rfl (pv 0) rfl) (pv 2) (fun _ _ => rfl)))) pss_nil)
      (pss_cons (ps_if (pt_cmpR op_eq (pv 1) pe_int (nomark _)) (pss_one (ps_ret (pe_mgK K rfl (pv 0) (T.cls 0) (T.meth 12) G_Grove_kept (hr.mono (by decide)) (pa_cons (pv 2) (pa_cons pe_int (pa_cons pe_int (pa_cons pe_non pa_nil))))))) pss_nil)
      (pss_one (ps_ret (pe_mgK K rfl (pv 0) (T.cls 0) (T.meth 12) G_Grove_kept (hr.mono (by decide)) (pa_cons (pv 2) (pa_cons pe_int (pa_cons pe_int (pa_cons (pe_tup (pa_cons pe_int (pa_cons pe_int (pa_cons pe_int (pa_cons pe_int pa_nil))))) pa_nil)))))))))), ?_⟩
    walk_at "rd"
    refine rd_new (hn := by show 1 ≤ sizeLine; decide) fun t ht => ?_
    walk_at "rd"
    have sm := same_upd (o := HO.tup [V.int s]) ht
    have G1 := G.same sm
    have ob1 := G1.ob
    obtain ⟨tups, mk, spt, D⟩ := G1.da
    have hT : (upd H t (HO.tup [V.int s])) t = some (.tup ([s].map V.int)) := upd_same
    have hT' : (upd H t (HO.tup [V.int s])) t = some (.tup (([s].map (Sum.inl : Int → Key)).map kV)) := upd_same
    walk_at "rd"
    refine ⟨a.dn, _, rfl, DGet.t (k := [s].map Sum.inl) D.hn hT', ?_⟩
    rw [valV_kvsOf]
    obtain ⟨L1, L2⟩ := look_of G.qn D.lm D.md (S := .leaf s) (m := [s]) rfl
    cases e : lookI mk [s] 0 with
    | some n =>
      walk_at "rd"
      refine iteT ?_
      walk_at "rd"
      refine ⟨a.dn, .int (n : Int), rfl, ?_, ?_⟩
      · have z := DGet.t (k := [s].map Sum.inl) D.hn hT'
        rw [valV_kvsOf, e] at z
        exact z
      · exact k _ q n G1 (List.prefix_refl _) (by omega) (L1 n e) (fr_of sm)
    | none =>
      walk_at "rd"
      refine iteF ?_
      walk_at "rd"
      have hS := L2 e
      have fin : ∀ H', GAt (CG K) H' a rows (q ++ [Sq.leaf s]) → Fr a.m5 (upd H t (HO.tup [V.int s])) H' → Q (.int (q.length : Int)) H' := fun H' g fr =>
        k H' _ q.length g (List.prefix_append _ _) (by simp) (by simp) ((fr_of sm).trans fr)
      refine ite_d (fun hs => ?_) (fun hs => ?_)
      · walk_at "rd"
        refine rd_methR G1.ob (by rfl) ?_
        walk_at "rd"
        exact ⟨a, rows, q, .leaf s, t, [s], .non, by simp [Sq.level, Sq.lives, hs], G1, hT, rfl, ⟨h0, h7⟩, hS, by simp [Sq.span, hs, SpanV], hlen, fin⟩
      · walk_at "rd"
        refine rd_methR G1.ob (by rfl) ?_
        walk_at "rd"
        refine rd_new (hn := by show 4 ≤ sizeLine; decide) fun t2 ht2 => ?_
        walk_at "rd"
        have sm2 := same_upd (o := HO.tup [V.int 0, V.int 0, V.int 1, V.int 1]) ht2
        exact ⟨a, rows, q, .leaf s, t, [s], .ref t2, by simp [Sq.level, Sq.lives, hs], G1.same sm2, sm2 _ _ hT, rfl, ⟨h0, h7⟩, hS, by simp only [Sq.span, hs, if_false]; exact ⟨t2, rfl, upd_same⟩, hlen, fun H' g fr => fin H' g ((fr_of sm2).trans fr)⟩
def sp_knit (C : Addr) : Sp := fun vs H Q _ => ∃ (a : GA) (rows : List (Int × Addr)) (q : List Sq) (A B C' D : Sq) (na nb nc nd : Nat), vs = [.ref a.g, .int (na : Int), .int (nb : Int), .int (nc : Int), .int (nd : Int)] ∧ GAt C H a rows q ∧
  q[na]? = some A ∧ q[nb]? = some B ∧ q[nc]? = some C' ∧ q[nd]? = some D ∧ (Sq.node A B C' D).wf ∧ A.level ≤ 60 ∧ q.length < 16000000 ∧
  ∀ H' q' (n : Nat), GAt C H' a rows q' → q <+: q' → q'.length ≤ q.length + 1 → q'[n]? = some (.node A B C' D) → Fr a.m5 H H' → Q (.int (n : Int)) H'
theorem map_get {α β : Type} {l : List α} {n : Nat} {x : α} (f : α → β) (h : l[n]? = some x) : (l.map f)[n]? = some (f x) := by
  rw [List.getElem?_map, h]; rfl
theorem acc4_r4 (half : Int) (a b c d : Option Box) : acc4 half [a, b, c, d] 4 = r4 half a b c d := rfl
theorem ok_knit (T : Env fa fn K mg) : Good P w K mg base CX0 3 ("Grove", some "knit") ["self", "a", "b", "c", "d"] (sp_knit (CG K)) := by
  have G_Grove_kept := ok_kept (P := P) (w := w) (base := base) T
  have G_round_four := ok_round_four (P := P) (w := w) (base := base) T
  refine good_mk T 9 (d := d_Grove_knit) (N := ["self", "a", "b", "c", "d", "made", "level", "lives", "span", "one"]) (ps := ["self", "a", "b", "c", "d"]) rfl rfl sc_Grove_knit (fun _ _ _ _ _ _ us hl => match us, hl with | [_, _, _, _, _], _ => rfl) (fun vs H Q E h => ?_) (fun f cdv A outer s H vs Q E hr h => ?_)
  · obtain ⟨a, rows, q, A, B, C', D, na, nb, nc, nd, rfl, _⟩ := h; rfl
  · obtain ⟨a, rows, q, A, B, C', D, na, nb, nc, nd, rfl, G, ha, hb, hc, hd, hwf, hlv, hlen, k⟩ := h
    have hu := hu_of hr
    have cl : Cls K (CG K) := T.cls 0
    obtain ⟨na1, na2, na3, na4, na5, na6⟩ := noats T
    refine ⟨_, (pss_cons (ps_set (i := 5) sc_Grove_knit.nd rfl (Or.inl rfl) (pe_tup (pa_cons (pv 1) (pa_cons (pv 2) (pa_cons (pv 3) (pa_cons (pv 4) pa_nil))))))
      (pss_cons (ps_if (pt_cmp (pc_din hu (pv 5) (pe_fldK K rfl (pv 0) rfl))) (pss_one (ps_ret (pe_dget hu (pe_fldK K rfl (pv 0) rfl) (pv 5) (fun _ _ => rfl)))) pss_nil)
      (pss_cons (ps_set (i := 6) sc_Grove_knit.nd rfl (Or.inl rfl) (pe_ix (ix_listK K rfl) (pe_fldK K rfl (pv 0) rfl) (pv 1) (fun _ _ => rfl)))
      (pss_cons (ps_set (i := 7) sc_Grove_knit.nd rfl (Or.inl rfl) (pe_op op_add (pe_op op_add (pe_op op_add (pe_ix (ix_listK K rfl) (pe_fldK K rfl (pv 0) rfl) (pv 1) (fun _ _ => rfl)) (pe_ix (ix_listK K rfl) (pe_fldK K rfl (pv 0) rfl) (pv 2) (fun _ _ => rfl))) (pe_ix (ix_listK K rfl) (pe_fldK K rfl (pv 0) rfl) (pv 3) (fun _ _ => rfl))) (pe_ix (ix_listK K rfl) (pe_fldK K rfl (pv 0) rfl) (pv 4) (fun _ _ => rfl))))
      (pss_cons (ps_set (i := 8) sc_Grove_knit.nd rfl (Or.inl rfl) (pe_cgK K rfl G_round_four (hr.mono (by decide)) (T.glo 13) (pa_cons (pe_lc (own := [("one", 9)]) (tt := tYes) rfl sc_Grove_knit.nd (pi_tupK K rfl (pv 5)) (blkOk_by (own := [("one", 9)]) (N := ["self", "a", "b", "c", "d", "made", "level", "lives", "span", "one"]) (sc := defScope st_Grove_knit) (by decide +kernel)) (fun _ _ _ _ _ => by exact (pg_name (i := 9) sc_Grove_knit.nd rfl (Or.inl rfl))) (fun _ _ _ _ _ => by exact pts_nil) (fun _ _ _ _ _ => by exact (pe_ix (ix_listK K rfl) (pe_fldK K rfl (pv 0) rfl) (pv 9) (fun _ _ => rfl)))) (pa_cons (pe_op op_shl pe_int (pv 6)) pa_nil))))
      (pss_one (ps_ret (pe_mgK K rfl (pv 0) (T.cls 0) (T.meth 12) G_Grove_kept (hr.mono (by decide)) (pa_cons (pv 5) (pa_cons (pe_op op_add (pv 6) pe_int) (pa_cons (pv 7) (pa_cons (pv 8) pa_nil)))))))))))), ?_⟩
    walk_at "rd"
    refine rd_new (hn := by show 4 ≤ sizeLine; decide) fun t ht => ?_
    walk_at "rd"
    have sm := same_upd (o := HO.tup [V.int (na : Int), V.int (nb : Int), V.int (nc : Int), V.int (nd : Int)]) ht
    have G1 := G.same sm
    have ob1 := G1.ob
    have hT : (upd H t (HO.tup [V.int (na : Int), V.int (nb : Int), V.int (nc : Int), V.int (nd : Int)])) t = some (.tup [V.int (na : Int), V.int (nb : Int), V.int (nc : Int), V.int (nd : Int)]) := upd_same
    generalize hH1 : upd H t (HO.tup [V.int (na : Int), V.int (nb : Int), V.int (nc : Int), V.int (nd : Int)]) = H1 at sm G1 ob1 hT ⊢
    obtain ⟨tups, mk, spt, Dt⟩ := G1.da
    have hT' : H1 t = some (.tup (([(na : Int), (nb : Int), (nc : Int), (nd : Int)].map (Sum.inl : Int → Key)).map kV)) := hT
    walk_at "rd"
    refine ⟨a.dn, _, rfl, DGet.t (k := [(na : Int), (nb : Int), (nc : Int), (nd : Int)].map Sum.inl) Dt.hn hT', ?_⟩
    rw [valV_kvsOf]
    have hM : Made q (.node A B C' D) [(na : Int), (nb : Int), (nc : Int), (nd : Int)] := ⟨na, nb, nc, nd, rfl, ha, hb, hc, hd⟩
    obtain ⟨L1, L2⟩ := look_of G.qn Dt.lm Dt.md hM
    cases e : lookI mk [(na : Int), (nb : Int), (nc : Int), (nd : Int)] 0 with
    | some n =>
      walk_at "rd"
      refine iteT ?_
      walk_at "rd"
      refine ⟨a.dn, .int (n : Int), rfl, ?_, ?_⟩
      · have z := DGet.t (k := [(na : Int), (nb : Int), (nc : Int), (nd : Int)].map Sum.inl) Dt.hn hT'
        rw [valV_kvsOf, e] at z
        exact z
      · exact k _ q n G1 (List.prefix_refl _) (by omega) (L1 n e) (fr_of sm)
    | none =>
      walk_at "rd"
      refine iteF ?_
      walk_at "rd"
      have hS := L2 e
      obtain ⟨wa, wb, wc, wd, l1, l2, l3⟩ := id hwf
      walk_at "rd"
      refine rd_ixL (SqL.of Dt.hl) (atI_nat (map_get (fun S : Sq => V.int (S.level : Int)) ha)) ?_
      walk_at "rd"
      refine rd_ixL (SqL.of Dt.hv) (atI_nat (map_get (fun S : Sq => V.int S.lives) ha)) ?_
      walk_at "rd"
      refine rd_ixL (SqL.of Dt.hv) (atI_nat (map_get (fun S : Sq => V.int S.lives) hb)) ?_
      walk_at "rd"
      refine rd_ixL (SqL.of Dt.hv) (atI_nat (map_get (fun S : Sq => V.int S.lives) hc)) ?_
      walk_at "rd"
      refine rd_ixL (SqL.of Dt.hv) (atI_nat (map_get (fun S : Sq => V.int S.lives) hd)) ?_
      walk_at "rd"
      have sv : ∀ (n : Nat) S, q[n]? = some S → ∃ v, spt[n]? = some v ∧ SpanV H1 v S.span := fun n S h => by
        have hn : n < spt.length := by rw [Dt.ls]; exact (List.getElem?_eq_some_iff.mp h).1
        exact ⟨spt[n], by simp [hn], Dt.sp n _ S (by simp [hn]) h⟩
      obtain ⟨va, ea, pa⟩ := sv _ _ ha
      obtain ⟨vb, eb, pb⟩ := sv _ _ hb
      obtain ⟨vc, ec, pc⟩ := sv _ _ hc
      obtain ⟨vd, ed, pd⟩ := sv _ _ hd
      refine ⟨t, rfl, ⟨_, SqT.of hT⟩, fun dl hdl => ?_⟩
      have ndl : ∀ b o, H1 b = some o → b ≠ dl := fun b o e => ne_of_none e hdl
      refine lc_tup (K := K) (xs := [V.int (na : Int), V.int (nb : Int), V.int (nc : Int), V.int (nd : Int)]) (fun i H' => H' = upd H1 dl (.lst ([va, vb, vc, vd].take i))) rfl (fun i H' _ e => SqT.of (by rw [e, upd_ne (ndl _ _ hT)]; exact hT)) ?_ ?_
      · rintro i x H' hx rfl
        obtain ⟨n, v, rfl, e1, e2⟩ : ∃ (n : Nat) (v : V), x = .int (n : Int) ∧ spt[n]? = some v ∧ [va, vb, vc, vd][i]? = some v := by
          match i, hx with
          | 0, hx => exact ⟨na, va, (Option.some.inj hx).symm, ea, rfl⟩
          | 1, hx => exact ⟨nb, vb, (Option.some.inj hx).symm, eb, rfl⟩
          | 2, hx => exact ⟨nc, vc, (Option.some.inj hx).symm, ec, rfl⟩
          | 3, hx => exact ⟨nd, vd, (Option.some.inj hx).symm, ed, rfl⟩
        walk_at "rd"
        refine ⟨rfl, ?_⟩
        walk_at "rd"
        refine rd_fldR (by rw [upd_ne (ndl _ _ G1.ob)]; exact G1.ob) cl na5 (by rfl) ?_
        walk_at "rd"
        refine rd_ixL (SqL.of (by rw [upd_ne (ndl _ _ Dt.hs)]; exact Dt.hs)) (atI_nat e1) ?_
        refine ⟨_, upd_same, ?_, ?_⟩
        · have : (([va, vb, vc, vd] : List V).take i).length ≤ 4 := by rw [List.length_take]; exact Nat.min_le_right _ _
          exact small1000 (by omega)
        · rw [upd_upd, take_snoc e2]
      · rintro H' rfl
        have s2 := same_upd (o := HO.lst [va, vb, vc, vd]) hdl
        walk_at "rd"
        refine rd_I (by refine ⟨by omega, by omega, by decide⟩) ?_
        walk_at "rd"
        have eh : (1 : Int) * 2 ^ ((A.level : Int)).toNat = 2 ^ A.level := by rw [Int.one_mul, Int.toNat_natCast]
        refine ⟨dl, [va, vb, vc, vd], [A.span, B.span, C'.span, D.span], _, rfl, upd_same, rfl, rfl, ?_, ?_, ?_, fun H2 u s3 hu2 => ?_⟩
        · intro i v o h1 h2
          match i, h1, h2 with
          | 0, h1, h2 => cases h1; cases h2; exact pa.keep fun b xs e => s2 _ _ e
          | 1, h1, h2 => cases h1; cases h2; exact pb.keep fun b xs e => s2 _ _ e
          | 2, h1, h2 => cases h1; cases h2; exact pc.keep fun b xs e => s2 _ _ e
          | 3, h1, h2 => cases h1; cases h2; exact pd.keep fun b xs e => s2 _ _ e
        · have e2 : (0 : Int) < 2 ^ A.level := Int.pow_pos (by decide)
          rw [eh]; omega
        · have e2 : 2 ^ A.level < 2 ^ 64 := Nat.pow_lt_pow_right (by decide) (by omega)
          rw [eh]
          exact_mod_cast e2
        · rw [eh, acc4_r4] at hu2
          have s13 : Same H1 H2 := fun b o e => s3 b o (by rw [upd_ne (ndl _ _ e)]; exact e)
          walk_at "rd"
          refine rd_methR (s13 _ _ G1.ob) (by rfl) ?_
          walk_at "rd"
          refine ⟨a, rows, q, .node A B C' D, t, [(na : Int), (nb : Int), (nc : Int), (nd : Int)], u, ?_, G1.same s13, s13 _ _ hT, hM, hwf, hS, ?_, hlen, fun H' g fr => k H' _ q.length g (List.prefix_append _ _) (by simp) (by simp) (((fr_of sm).trans (fr_of s13)).trans fr)⟩
          · have e1 : (V.int ((A.level : Int) + 1)) = V.int (((Sq.node A B C' D).level : Nat) : Int) := rfl
            rw [← e1]; rfl
          · exact hu2
theorem mp_kept {C : Addr} : MonP (sp_kept C) := fun vs H Q Q' E h ⟨a, rows, q, S, t, m, v, x1, x2, x3, x4, x5, x6, x7, x8, k⟩ => ⟨a, rows, q, S, t, m, v, x1, x2, x3, x4, x5, x6, x7, x8, fun H' g f => h _ _ (k H' g f)⟩
theorem mp_cell {C : Addr} : MonP (sp_cell C) := fun vs H Q Q' E h ⟨a, rows, q, s, x1, x2, x3, x4, x5, k⟩ => ⟨a, rows, q, s, x1, x2, x3, x4, x5, fun H' q' n g p l e f => h _ _ (k H' q' n g p l e f)⟩
theorem mp_knit {C : Addr} : MonP (sp_knit C) := fun vs H Q Q' E h ⟨a, rows, q, A, B, C', D, na, nb, nc, nd, x1, x2, x3, x4, x5, x6, x7, x8, x9, k⟩ => ⟨a, rows, q, A, B, C', D, na, nb, nc, nd, x1, x2, x3, x4, x5, x6, x7, x8, x9, fun H' q' n g p l e f => h _ _ (k H' q' n g p l e f)⟩
end
end JF

/-! ### the grove's methods: __init__, even -/
namespace JF
open PySem PySem.Spec PyProof.Rows L2
section
variable {P : Program} {w : World} {K : PySem.W.Frag} {mg : Str → Option Value} {base : Heap}
def sp_ginit (C : Addr) : Sp := fun vs H Q _ => ∃ (p dx : Addr), vs = [.ref p] ∧ H p = some (.ins C dx []) ∧ ∀ (a : GA) (H' : Hp), a.g = p → GAt C H' a [] [] → (∀ b ∈ a.muts [], H b = none) → (∀ b o, H b = some o → b ≠ p → H' b = some o) → Q .non H'
theorem ok_ginit (T : Env fa fn K mg) : Good P w K mg base CX0 1 ("Grove", some "__init__") ["self"] (sp_ginit (CG K)) := by
  refine good_mk T 6 (d := d_Grove_init) (N := ["self"]) (ps := ["self"]) rfl rfl sc_Grove_init (fun _ _ _ _ _ _ us hl => match us, hl with | [_], _ => rfl) (fun vs H Q E h => ?_) (fun f cdv A outer s H vs Q E hr h => ?_)
  · obtain ⟨p, dx, rfl, _⟩ := h; rfl
  · obtain ⟨p, dx, rfl, hp, k⟩ := h
    have cl : Cls K (CG K) := T.cls 0
    obtain ⟨na1, na2, na3, na4, na5, na6⟩ := noats T
    refine ⟨_, (pss_cons (ps_fld (pv 0) pe_dnewT rfl)
      (pss_cons (ps_fld (pv 0) (pe_lst pa_nil) rfl)
      (pss_cons (ps_fld (pv 0) (pe_lst pa_nil) rfl)
      (pss_cons (ps_fld (pv 0) (pe_lst pa_nil) rfl)
      (pss_cons (ps_fld (pv 0) (pe_lst pa_nil) rfl)
      (pss_one (ps_fld (pv 0) pe_dnewK rfl))))))), ?_⟩
    walk_at "rd"
    intro dn hdn
    have p1 : p ≠ dn := ne_of_none hp hdn
    walk_at "rd"
    refine ⟨p, CG K, dx, [], rfl, by walk_at "hp", cl, na1, by decide, ?_⟩
    walk_at "rd"
    refine rd_new (hn := by show 0 ≤ sizeLine; decide) fun dm hdm => ?_
    have p2 : p ≠ dm := ne_of_none upd_same hdm
    have e1 : dn ≠ dm := ne_of_none (by rw [upd_ne p1.symm, upd_same]) hdm
    walk_at "rd"
    refine ⟨p, CG K, dx, _, rfl, by walk_at "hp", cl, na2, (by show 1 < 1000; decide), ?_⟩
    walk_at "rd"
    refine rd_new (hn := by show 0 ≤ sizeLine; decide) fun dl hdl => ?_
    have p3 : p ≠ dl := ne_of_none upd_same hdl
    have e2 : dn ≠ dl := ne_of_none (o := .dT []) (by walk_at "hp") hdl
    have e3 : dm ≠ dl := ne_of_none (o := .lst []) (by walk_at "hp") hdl
    walk_at "rd"
    refine ⟨p, CG K, dx, _, rfl, by walk_at "hp", cl, na3, (by show 2 < 1000; decide), ?_⟩
    walk_at "rd"
    refine rd_new (hn := by show 0 ≤ sizeLine; decide) fun dv hdv => ?_
    have p4 : p ≠ dv := ne_of_none upd_same hdv
    have f1 : dn ≠ dv := ne_of_none (o := .dT []) (by walk_at "hp") hdv
    have f2 : dm ≠ dv := ne_of_none (o := .lst []) (by walk_at "hp") hdv
    have f3 : dl ≠ dv := ne_of_none (o := .lst []) (by walk_at "hp") hdv
    walk_at "rd"
    refine ⟨p, CG K, dx, _, rfl, by walk_at "hp", cl, na4, (by show 3 < 1000; decide), ?_⟩
    walk_at "rd"
    refine rd_new (hn := by show 0 ≤ sizeLine; decide) fun ds hds => ?_
    have p5 : p ≠ ds := ne_of_none upd_same hds
    have g1 : dn ≠ ds := ne_of_none (o := .dT []) (by walk_at "hp") hds
    have g2 : dm ≠ ds := ne_of_none (o := .lst []) (by walk_at "hp") hds
    have g3 : dl ≠ ds := ne_of_none (o := .lst []) (by walk_at "hp") hds
    have g4 : dv ≠ ds := ne_of_none (o := .lst []) (by walk_at "hp") hds
    walk_at "rd"
    refine ⟨p, CG K, dx, _, rfl, by walk_at "hp", cl, na5, (by show 4 < 1000; decide), ?_⟩
    walk_at "rd"
    intro dp hdp
    have p6 : p ≠ dp := ne_of_none upd_same hdp
    have h1 : dn ≠ dp := ne_of_none (o := .dT []) (by walk_at "hp") hdp
    have h2 : dm ≠ dp := ne_of_none (o := .lst []) (by walk_at "hp") hdp
    have h3 : dl ≠ dp := ne_of_none (o := .lst []) (by walk_at "hp") hdp
    have h4 : dv ≠ dp := ne_of_none (o := .lst []) (by walk_at "hp") hdp
    have h5 : ds ≠ dp := ne_of_none (o := .lst []) (by walk_at "hp") hdp
    walk_at "rd"
    refine ⟨p, CG K, dx, _, rfl, by walk_at "hp", cl, na6, (by show 5 < 1000; decide), ?_⟩
    have emp : ∀ (i : Nat) {α : Type} (x : α), ([] : List α)[i]? = some x → False := fun i α x e => by simp at e
    have out : ∀ (b u : Addr) (Hx : Hp) (o : HO), upd Hx u o b = none → Hx b = none := fun b u Hx o e => by
      by_cases z : b = u
      · subst z; rw [upd_same] at e; cases e
      · rw [upd_ne z] at e; exact e
    refine k ⟨p, dx, dn, dm, dl, dv, ds, dp⟩ _ rfl ⟨upd_same, ⟨[], [], [], by walk_at "hp", by walk_at "hp", by walk_at "hp", by walk_at "hp", by walk_at "hp", rfl, rfl, rfl, fun i t m e => (emp i _ e).elim, fun i t m e => (emp i _ e).elim, fun i t m e => (emp i _ e).elim⟩, by simp, by simp, by walk_at "hp", by simp [GA.muts, GA.m5, *], by simp, by simp, by simp⟩ ?_ ?_
    · intro b hb
      simp only [GA.muts, GA.m5, List.cons_append, List.nil_append, List.mem_cons, List.map_nil, List.not_mem_nil, or_false] at hb
      rcases hb with rfl | rfl | rfl | rfl | rfl | rfl
      · exact hdn
      · exact out _ _ _ _ (out _ _ _ _ hdm)
      · exact out _ _ _ _ (out _ _ _ _ (out _ _ _ _ (out _ _ _ _ hdl)))
      · exact out _ _ _ _ (out _ _ _ _ (out _ _ _ _ (out _ _ _ _ (out _ _ _ _ (out _ _ _ _ hdv)))))
      · exact out _ _ _ _ (out _ _ _ _ (out _ _ _ _ (out _ _ _ _ (out _ _ _ _ (out _ _ _ _ (out _ _ _ _ (out _ _ _ _ hds)))))))
      · exact out _ _ _ _ (out _ _ _ _ (out _ _ _ _ (out _ _ _ _ (out _ _ _ _ (out _ _ _ _ (out _ _ _ _ (out _ _ _ _ (out _ _ _ _ (out _ _ _ _ hdp)))))))))
    · intro b o e hb
      have b1 : b ≠ dn := ne_of_none e hdn
      have b2 : b ≠ dm := ne_of_none e (out _ _ _ _ (out _ _ _ _ hdm))
      have b3 : b ≠ dl := ne_of_none e (out _ _ _ _ (out _ _ _ _ (out _ _ _ _ (out _ _ _ _ hdl))))
      have b4 : b ≠ dv := ne_of_none e (out _ _ _ _ (out _ _ _ _ (out _ _ _ _ (out _ _ _ _ (out _ _ _ _ (out _ _ _ _ hdv))))))
      have b5 : b ≠ ds := ne_of_none e (out _ _ _ _ (out _ _ _ _ (out _ _ _ _ (out _ _ _ _ (out _ _ _ _ (out _ _ _ _ (out _ _ _ _ (out _ _ _ _ hds))))))))
      have b6 : b ≠ dp := ne_of_none e (out _ _ _ _ (out _ _ _ _ (out _ _ _ _ (out _ _ _ _ (out _ _ _ _ (out _ _ _ _ (out _ _ _ _ (out _ _ _ _ (out _ _ _ _ (out _ _ _ _ hdp))))))))))
      walk_at "hp"
end
end JF

/-! ### even, and the asking methods -/
namespace JF
open PySem PySem.Spec PyProof.Rows L2
/-- a row of plain squares grows -/
theorem GAt.row {C : Addr} {H : Hp} {a : GA} {rows : List (Int × Addr)} {q : List Sq} {s : Int} {b : Addr} {ns : List Nat} (G : GAt C H a rows q) (h : (s, b) ∈ rows) (hv : ∀ (i : Nat) n, ns[i]? = some n → q[n]? = some (Sq.even i s)) :
    GAt C (L2.upd H b (.lst (ns.map fun (n : Nat) => V.int (n : Int)))) a rows q := by
  obtain ⟨tups, mk, spt, D⟩ := G.da
  obtain ⟨⟨g1, g2, g3, g4, g5, g6⟩, _, _, _, _, _, hr⟩ := nd_of G.nd
  obtain ⟨r1, r2, r3, r4', r5, r6, r7⟩ := hr s b h
  obtain ⟨ns0, hb0, _⟩ := G.ro s b h
  have out : ∀ c xs, H c = some (.tup xs) → L2.upd H b (.lst (ns.map fun (n : Nat) => V.int (n : Int))) c = some (.tup xs) := fun c xs e => by
    rw [upd_ne (by rintro rfl; rw [hb0] at e; cases e)]; exact e
  refine ⟨by rw [upd_ne r1.symm]; exact G.ob, ⟨tups, mk, spt, by rw [upd_ne r2.symm]; exact D.hn, by rw [upd_ne r3.symm]; exact D.hm, by rw [upd_ne r4'.symm]; exact D.hl, by rw [upd_ne r5.symm]; exact D.hv, by rw [upd_ne r6.symm]; exact D.hs, D.lt, D.lm, D.ls,
    fun i t m h1 h2 => out _ _ (D.tu i t m h1 h2), fun i v S h1 h2 => (D.sp i v S h1 h2).keep out, D.md⟩, G.wf, G.qn, by rw [upd_ne r7.symm]; exact G.pl, G.nd, G.rn, G.rs, fun s' b' h' => ?_⟩
  by_cases e : b' = b
  · subst e
    have hs : s' = s := by
      have nd2 : (rows.map (·.2)).Nodup := by
        have z := (List.nodup_cons.mp G.nd).2
        unfold GA.muts at z
        exact (List.nodup_cons.mp (List.nodup_append.mp z).2.1).2
      obtain ⟨i, hi, e1⟩ := List.mem_iff_getElem.mp h
      obtain ⟨j, hj, e2⟩ := List.mem_iff_getElem.mp h'
      have e3 : i = j := (List.getElem_inj (xs := rows.map (·.2)) (h₀ := by simpa using hi) (h₁ := by simpa using hj) nd2).mp (by simp [e1, e2])
      subst e3
      rw [e1] at e2
      exact (congrArg Prod.fst e2).symm
    subst hs
    exact ⟨ns, upd_same, hv⟩
  · obtain ⟨ns', e1, e2⟩ := G.ro s' b' h'
    exact ⟨ns', by rw [upd_ne e]; exact e1, e2⟩
theorem rows_look {rows : List (Int × Addr)} {s : Int} : (∀ v, valV (rows.map fun sa => ((Sum.inl sa.1 : Key), V.ref sa.2)) (Sum.inl s) = some v → ∃ b, (s, b) ∈ rows ∧ v = .ref b) ∧ (valV (rows.map fun sa => ((Sum.inl sa.1 : Key), V.ref sa.2)) (Sum.inl s) = none → s ∉ rows.map (·.1)) := by
  induction rows with
  | nil => exact ⟨fun v h => (by cases h), fun _ => by simp⟩
  | cons x r ih =>
    by_cases e : x.1 = s
    · constructor
      · intro v h
        have h' : some (V.ref x.2) = some v := by rw [← h]; simp [valV, e]
        exact ⟨x.2, by rw [← e]; exact List.mem_cons_self, (Option.some.inj h').symm⟩
      · intro h
        have h' : valV (((x :: r).map fun sa => ((Sum.inl sa.1 : Key), V.ref sa.2))) (Sum.inl s) = some (V.ref x.2) := by simp [valV, e]
        rw [h'] at h; cases h
    · have e' : ¬ ((Sum.inl x.1 : Key) = Sum.inl s) := fun z => e (Sum.inl.inj z)
      have eq : valV (((x :: r).map fun sa => ((Sum.inl sa.1 : Key), V.ref sa.2))) (Sum.inl s) = valV ((r.map fun sa => ((Sum.inl sa.1 : Key), V.ref sa.2))) (Sum.inl s) := by
        simp [valV, e]
      rw [eq]
      refine ⟨fun v h => ?_, fun h => ?_⟩
      · obtain ⟨b, h1, h2⟩ := ih.1 v h
        exact ⟨b, List.mem_cons_of_mem _ h1, h2⟩
      · simp only [List.map_cons, List.mem_cons, not_or]
        exact ⟨fun z => e z.symm, ih.2 h⟩
/-- a new row -/
theorem GAt.addrow {C : Addr} {H : Hp} {a : GA} {rows : List (Int × Addr)} {q : List Sq} {s : Int} {p : Addr} (G : GAt C H a rows q) (hp : H p = none) (hs : s ∉ rows.map (·.1)) (h0 : 0 ≤ s) (h7 : s ≤ 7) :
    GAt C (L2.upd (L2.upd H p (.lst [])) a.dp (.dK ((rows.map fun sa => ((Sum.inl sa.1 : Key), V.ref sa.2)) ++ [((Sum.inl s : Key), V.ref p)]))) a (rows ++ [(s, p)]) q := by
  have G1 := G.same (same_upd (o := .lst []) hp)
  obtain ⟨tups, mk, spt, D⟩ := G1.da
  obtain ⟨⟨g1, g2, g3, g4, g5, g6⟩, ⟨n1, n2, n3, n4, n5⟩, ⟨m1, m2, m3, m4⟩, ⟨l1, l2, l3⟩, ⟨v1, v2⟩, s1, hr⟩ := nd_of G.nd
  have hdp : ∀ xs, L2.upd H p (.lst []) a.dp ≠ some (.tup xs) := fun xs e => by rw [G1.pl] at e; cases e
  have out : ∀ c xs o, L2.upd H p (.lst []) c = some (.tup xs) → L2.upd (L2.upd H p (.lst [])) a.dp o c = some (.tup xs) := fun c xs o e => by
    rw [upd_ne (by rintro rfl; exact hdp _ e)]; exact e
  refine ⟨by rw [upd_ne g6]; exact G1.ob, ⟨tups, mk, spt, by rw [upd_ne n5]; exact D.hn, by rw [upd_ne m4]; exact D.hm, by rw [upd_ne l3]; exact D.hl, by rw [upd_ne v2]; exact D.hv, by rw [upd_ne s1]; exact D.hs, D.lt, D.lm, D.ls,
    fun i t m h1 h2 => out _ _ _ (D.tu i t m h1 h2), fun i v S h1 h2 => (D.sp i v S h1 h2).keep fun b xs e => out _ _ _ e, D.md⟩, G1.wf, G1.qn, by rw [upd_same, List.map_append]; rfl, ?_, ?_, fun s' h' => ?_, fun s' b' h' => ?_⟩
  · have hout := G.new_out hp
    have hg : a.g ≠ p := ne_of_none G.ob hp
    have z := G.nd
    rw [List.nodup_cons] at z ⊢
    have em : a.muts (rows ++ [(s, p)]) = a.muts rows ++ [p] := by simp [GA.muts]
    rw [em]
    refine ⟨fun h => ?_, ?_⟩
    · rcases List.mem_append.mp h with h | h
      · exact z.1 h
      · simp only [List.mem_singleton] at h; exact hg h
    · rw [List.nodup_append]
      refine ⟨z.2, by simp, fun x hx y hy e => ?_⟩
      simp only [List.mem_singleton] at hy
      subst hy
      exact hout (e ▸ hx)
  · rw [List.map_append, List.nodup_append]
    refine ⟨G.rn, by simp, fun x hx y hy e => ?_⟩
    simp only [List.map_cons, List.map_nil, List.mem_singleton] at hy
    subst hy
    exact hs (e ▸ hx)
  · rw [List.map_append] at h'
    rcases List.mem_append.mp h' with h' | h'
    · exact G.rs s' h'
    · simp only [List.map_cons, List.map_nil, List.mem_singleton] at h'
      subst h'; exact ⟨h0, h7⟩
  · rcases List.mem_append.mp h' with h' | h'
    · obtain ⟨ns, e1, e2⟩ := G1.ro s' b' h'
      obtain ⟨_, _, _, _, _, _, r7⟩ := hr s' b' h'
      exact ⟨ns, by rw [upd_ne r7]; exact e1, e2⟩
    · simp only [List.mem_singleton, Prod.mk.injEq] at h'
      obtain ⟨rfl, rfl⟩ := h'
      have : b' ≠ a.dp := (ne_of_none G.pl hp).symm
      exact ⟨[], by rw [upd_ne this, upd_same]; rfl, fun i n h => by simp at h⟩
theorem fr_muts {a : GA} {rows : List (Int × Addr)} {H H' : Hp} (h : Fr a.m5 H H') : Fr (a.muts rows) H H' := h.mono fun b hb => List.mem_append_left _ hb
theorem row_mem {a : GA} {rows : List (Int × Addr)} {s : Int} {b : Addr} (h : (s, b) ∈ rows) : b ∈ a.muts rows :=
  List.mem_append_right _ (List.mem_cons_of_mem _ (List.mem_map_of_mem (f := fun sa : Int × Addr => sa.2) h))
/-- knit's and cell's way: the rows stay -/
theorem GStep.m5 {C : Addr} {H H1 H2 : Hp} {a : GA} {rows r1 : List (Int × Addr)} {q q1 q2 : List Sq} (x : GStep C H a rows q H1 r1 q1) (G : GAt C H2 a r1 q2) (p : q1 <+: q2) (f : Fr a.m5 H1 H2) : GStep C H a rows q H2 r1 q2 :=
  x.trans ⟨G, p, fr_muts f, fun _ h => .inl h⟩
theorem GStep.row {C : Addr} {H H1 : Hp} {a : GA} {rows r1 : List (Int × Addr)} {q q1 : List Sq} {s : Int} {b : Addr} {ns : List Nat} (x : GStep C H a rows q H1 r1 q1) (h : (s, b) ∈ r1) (hv : ∀ (i : Nat) n, ns[i]? = some n → q1[n]? = some (Sq.even i s)) :
    GStep C H a rows q (L2.upd H1 b (.lst (ns.map fun (n : Nat) => V.int (n : Int)))) r1 q1 :=
  x.trans ⟨x.gat.row h hv, List.prefix_refl _, fun c o e n => by rw [upd_ne (by rintro rfl; exact n (row_mem h))]; exact e, fun _ h => .inl h⟩
theorem GStep.same {C : Addr} {H H1 H2 : Hp} {a : GA} {rows r1 : List (Int × Addr)} {q q1 : List Sq} (x : GStep C H a rows q H1 r1 q1) (s : Same H1 H2) : GStep C H a rows q H2 r1 q1 :=
  x.trans ⟨x.gat.same s, List.prefix_refl _, fr_of s, fun _ h => .inl h⟩
theorem row_not5 {C : Addr} {H : Hp} {a : GA} {rows : List (Int × Addr)} {q : List Sq} {s : Int} {b : Addr} (G : GAt C H a rows q) (h : (s, b) ∈ rows) : b ∉ a.m5 := by
  obtain ⟨_, _, _, _, _, _, hr⟩ := nd_of G.nd
  obtain ⟨r1, r2, r3, r4', r5, r6, r7⟩ := hr s b h
  simp [GA.m5, r2, r3, r4', r5, r6]
theorem map_int_len (ns : List Nat) : (ns.map fun (n : Nat) => V.int (n : Int)).length = ns.length := List.length_map _
section
variable {P : Program} {w : World} {K : PySem.W.Frag} {mg : Str → Option Value} {base : Heap}
def sp_even (C : Addr) : Sp := fun vs H Q _ => ∃ (a : GA) (rows : List (Int × Addr)) (q : List Sq) (l : Nat) (s : Int), vs = [.ref a.g, .int (l : Int), .int s] ∧ GAt C H a rows q ∧ l ≤ 60 ∧ 0 ≤ s ∧ s ≤ 7 ∧ q.length + 100 < 16000000 ∧
  ∀ H' rows' q' (n : Nat), GStep C H a rows q H' rows' q' → q'.length ≤ q.length + l + 1 → q'[n]? = some (Sq.even l s) → Q (.int (n : Int)) H'
theorem ok_even (T : Env fa fn K mg) : Good P w K mg base CX0 4 ("Grove", some "even") ["self", "level", "state"] (sp_even (CG K)) := by
  have G_Grove_cell := ok_cell (P := P) (w := w) (base := base) T
  have G_Grove_knit := ok_knit (P := P) (w := w) (base := base) T
  refine good_mk T 10 (d := d_Grove_even) (N := ["self", "level", "state", "row", "one"]) (ps := ["self", "level", "state"]) rfl rfl sc_Grove_even (fun _ _ _ _ _ _ us hl => match us, hl with | [_, _, _], _ => rfl) (fun vs H Q E h => ?_) (fun f cdv A outer σ0 H vs Q E hr h => ?_)
  · obtain ⟨a, rows, q, l, s, rfl, _⟩ := h; rfl
  · obtain ⟨a, rows, q, l, s, rfl, G, hl, h0, h7, hlen, k⟩ := h
    have hu := hu_of hr
    have cl : Cls K (CG K) := T.cls 0
    obtain ⟨na1, na2, na3, na4, na5, na6⟩ := noats T
    have ob := G.ob
    have hsz := sizeBig
    have mp1 := mp_cell (C := CG K)
    have mp2 := mp_knit (C := CG K)
    refine ⟨_, (pss_cons (ps_set (i := 3) sc_Grove_even.nd rfl (Or.inl rfl) (pe_dsetd (pe_fldK K rfl (pv 0) rfl) (pv 2) (pe_lst pa_nil) ⟨rfl, rfl, rfl, rfl⟩))
      (pss_cons (ps_if (pt_cmpR op_eq (pe_callB (call_lenK K rfl) (by rfl) (T.free 11) (by decide +kernel) (pa_cons (pv 3) pa_nil)) pe_int (nomark _)) (pss_one (ps_expr (pe_bm PySem.F.plainAttrs_list PySem.F.slot_list_append PySem.F.type_list_append mt_append (pv 3) (pa_cons (pe_mgK K rfl (pv 0) (T.cls 0) (T.meth 14) G_Grove_cell (hr.mono (by decide)) (pa_cons (pv 2) pa_nil)) pa_nil)))) pss_nil)
      (pss_cons (ps_while PassesOwn.never (pt_cmpR op_le (pe_callB (call_lenK K rfl) (by rfl) (T.free 11) (by decide +kernel) (pa_cons (pv 3) pa_nil)) (pv 1) (nomark _)) (pss_cons (ps_set (i := 4) sc_Grove_even.nd rfl (Or.inl rfl) (pe_ix (ix_listK K rfl) (pv 3) (pe_un un_neg pe_int) (fun _ _ => rfl)))
      (pss_one (ps_expr (pe_bm PySem.F.plainAttrs_list PySem.F.slot_list_append PySem.F.type_list_append mt_append (pv 3) (pa_cons (pe_mgK K rfl (pv 0) (T.cls 0) (T.meth 15) G_Grove_knit (hr.mono (by decide)) (pa_cons (pv 4) (pa_cons (pv 4) (pa_cons (pv 4) (pa_cons (pv 4) pa_nil))))) pa_nil))))))
      (pss_one (ps_ret (pe_ix (ix_listK K rfl) (pv 3) (pv 1) (fun _ _ => rfl))))))), ?_⟩
    -- row = self.plain.setdefault(state, [])
    refine rd_cut (fun σ H1 => ∃ (r1 : List (Int × Addr)) (b : Addr) (ns : List Nat), σ = [some (.ref a.g), some (.int (l : Int)), some (.int s), some (.ref b), none] ∧ GStep (CG K) H a rows q H1 r1 q ∧ (s, b) ∈ r1 ∧
      H1 b = some (.lst (ns.map fun (n : Nat) => V.int (n : Int))) ∧ ∀ (i : Nat) n, ns[i]? = some n → q[n]? = some (Sq.even i s)) (by walk_at "mono") ?_ ?_
    · walk_at "rd"
      refine rd_isD G.pl ?_
      walk_at "rd"
      refine rd_new (hn := by show 0 ≤ sizeLine; decide) fun p hp => ?_
      have sm := same_upd (o := .lst []) hp
      have G1 := G.same sm
      have S1 := (GStep.refl G).same sm
      have rl : rows.length ≤ 8 := by have z := states_len G.rn G.rs; rw [List.length_map] at z; exact z
      refine ⟨_, Sum.inl s, G1.pl, rfl, by rw [List.length_map]; exact small1000 (by omega), fun v hv => ?_, fun hv => ?_⟩
      · obtain ⟨b, hb, rfl⟩ := rows_look.1 v hv
        obtain ⟨ns, e1, e2⟩ := G1.ro s b hb
        walk_at "rd"
        exact ⟨rows, b, ns, rfl, S1, hb, e1, e2⟩
      · rw [putK_new _ hv]
        walk_at "rd"
        have G2 := G.addrow hp (rows_look.2 hv) h0 h7
        refine ⟨_, p, [], rfl, ⟨G2, List.prefix_refl _, fun b o e n => ?_, fun b hb => ?_⟩, List.mem_append_right _ (List.mem_singleton_self _), ?_, fun i n h => by simp at h⟩
        · rw [upd_ne (fun z => n (by rw [z]; simp [GA.muts])), upd_ne (ne_of_none e hp)]; exact e
        · have em : a.muts (rows ++ [(s, p)]) = a.muts rows ++ [p] := by simp [GA.muts]
          rw [em] at hb
          rcases List.mem_append.mp hb with hb | hb
          · exact .inl hb
          · simp only [List.mem_singleton] at hb; subst hb; exact .inr hp
        · rw [upd_ne (ne_of_none G.pl hp).symm, upd_same]; rfl
    rintro σ H1 ⟨r1, b, ns, rfl, S1, hb, e1, e2⟩
    -- if len(row) == 0: row.append(self.cell(state))
    refine rd_cut (fun σ H2 => ∃ (q2 : List Sq) (ns2 : List Nat), σ = [some (.ref a.g), some (.int (l : Int)), some (.int s), some (.ref b), none] ∧ GStep (CG K) H a rows q H2 r1 q2 ∧
      H2 b = some (.lst (ns2.map fun (n : Nat) => V.int (n : Int))) ∧ (∀ (i : Nat) n, ns2[i]? = some n → q2[n]? = some (Sq.even i s)) ∧ 0 < ns2.length ∧ (q2.length ≤ q.length ∨ q2.length ≤ q.length + ns2.length ∧ ns2.length ≤ l + 1)) (by walk_at "mono") ?_ ?_
    · have ob1 := S1.gat.ob
      walk_at "rd"
      refine rd_len (SqL.of e1) ?_
      walk_at "rd"
      rw [map_int_len]
      refine ite_d (fun hz => ?_) (fun hz => ?_)
      · have hns : ns = [] := List.length_eq_zero_iff.mp (by omega)
        subst hns
        walk_at "rd"
        refine rd_tyL e1 ?_
        walk_at "rd"
        refine rd_methR S1.gat.ob (by rfl) ?_
        walk_at "rd"
        refine ⟨a, r1, q, s, rfl, S1.gat, h0, h7, by omega, fun H2 q2 n G2 pre len en fr => ?_⟩
        walk_at "rd"
        have eb : H2 b = some (.lst []) := fr _ _ e1 (row_not5 S1.gat hb)
        refine rd_append eb (by show 0 < sizeLine; decide) ?_
        walk_at "rd"
        have S2 := S1.m5 G2 pre fr
        have hv : ∀ (i : Nat) m, [n][i]? = some m → q2[m]? = some (Sq.even i s) := fun i m h => by
          cases i with
          | zero => cases h; exact en
          | succ i => simp at h
        exact ⟨q2, [n], rfl, S2.row hb hv, upd_same, hv, by simp, .inr ⟨by simp; omega, by simp⟩⟩
      · walk_at "rd"
        exact ⟨q, ns, rfl, S1, e1, e2, by omega, .inl (Nat.le_refl _)⟩
    rintro σ H2 ⟨q2, ns2, rfl, S2, e3, e4, hpos, hcnt⟩
    -- while len(row) <= level
    refine rd_cut (fun σ H3 => ∃ (q3 : List Sq) (ns3 : List Nat) (x : Option V), σ = [some (.ref a.g), some (.int (l : Int)), some (.int s), some (.ref b), x] ∧ GStep (CG K) H a rows q H3 r1 q3 ∧
      H3 b = some (.lst (ns3.map fun (n : Nat) => V.int (n : Int))) ∧ (∀ (i : Nat) n, ns3[i]? = some n → q3[n]? = some (Sq.even i s)) ∧ l < ns3.length ∧ q3.length ≤ q.length + l + 1) (by walk_at "mono") ?_ ?_
    · refine while_by (fun σ H3 => ∃ (q3 : List Sq) (ns3 : List Nat) (x : Option V), σ = [some (.ref a.g), some (.int (l : Int)), some (.int s), some (.ref b), x] ∧ GStep (CG K) H a rows q H3 r1 q3 ∧
        H3 b = some (.lst (ns3.map fun (n : Nat) => V.int (n : Int))) ∧ (∀ (i : Nat) n, ns3[i]? = some n → q3[n]? = some (Sq.even i s)) ∧ 0 < ns3.length ∧ q3.length + ns2.length ≤ q2.length + ns3.length ∧ (ns3.length ≤ ns2.length ∨ ns3.length ≤ l + 1) ∧ ns2.length ≤ ns3.length)
        (fun σ H3 => match H3 b with | some (.lst xs) => l + 1 - xs.length | _ => 0) ?_ ?_ (by
          have z : MonT (tTest (tOp (rI0 fun i j => V.bl (decide (i ≤ j))) (tCB (rLenS K) (tCons (tVar 3) tNil)) (tVar 1))) := by walk_at "mono"
          exact z)
      · exact ⟨q2, ns2, none, rfl, S2, e3, e4, hpos, Nat.le_refl _, .inl (Nat.le_refl _), Nat.le_refl _⟩
      · rintro σ H3 ⟨q3, ns3, x, rfl, S3, f3, f4, pos3, cnt3, le3, ge3⟩
        have ob3 := S3.gat.ob
        walk_at "rd"
        refine rd_len (SqL.of f3) ?_
        walk_at "rd"
        rw [map_int_len]
        refine ite_d (fun hz => ?_) (fun hz => ?_)
        · walk_at "rd"
          obtain ⟨init, last, rfl⟩ : ∃ init last, ns3 = init ++ [last] := ⟨ns3.dropLast, ns3.getLast (by intro z; simp [z] at pos3), (List.dropLast_concat_getLast _).symm⟩
          have hl1 : q3[last]? = some (Sq.even init.length s) := f4 init.length last (by simp)
          refine rd_ixL (SqL.of f3) (by rw [List.map_append]; exact atI_last _ _) ?_
          walk_at "rd"
          refine rd_tyL f3 ?_
          walk_at "rd"
          refine rd_methR S3.gat.ob (by rfl) ?_
          walk_at "rd"
          have hlen3 : init.length + 1 ≤ l := by simp at hz; omega
          refine ⟨a, r1, q3, Sq.even init.length s, Sq.even init.length s, Sq.even init.length s, Sq.even init.length s, last, last, last, last, rfl, S3.gat, hl1, hl1, hl1, hl1, Sq.wf_even h0 h7 (init.length + 1), by rw [Sq.level_even]; omega, ?_, fun H4 q4 n G4 pre len en fr => ?_⟩
          · simp only [List.length_append, List.length_cons, List.length_nil] at cnt3 le3 ge3
            omega
          walk_at "rd"
          have eb : H4 b = some (.lst ((init ++ [last]).map fun (n : Nat) => V.int (n : Int))) := fr _ _ f3 (row_not5 S3.gat hb)
          refine rd_append eb (by rw [map_int_len]; simp; exact small1000 (by omega)) ?_
          walk_at "rd"
          have S4 := S3.m5 G4 pre fr
          have hv : ∀ (i : Nat) m, ((init ++ [last]) ++ [n])[i]? = some m → q4[m]? = some (Sq.even i s) := fun i m h => by
            by_cases hi : i < (init ++ [last]).length
            · rw [List.getElem?_append_left hi] at h
              exact pre_get pre (f4 i m h)
            · have hi2 := (List.getElem?_eq_some_iff.mp h).1
              have e : i = init.length + 1 := by simp at hi hi2; omega
              subst e
              simp at h
              subst h
              exact en
          have S5 := S4.row hb hv
          simp only [List.length_append, List.length_cons, List.length_nil] at cnt3 le3 ge3
          refine ⟨⟨q4, (init ++ [last]) ++ [n], _, rfl, ?_, ?_, hv, by simp, by simp; omega, by simp; omega, by simp; omega⟩, ?_⟩
          · rw [List.map_append] at S5; exact S5
          · rw [upd_same, List.map_append (l₂ := [n])]; rfl
          · have e1' : ∀ (xs : List V), H3 b = some (.lst xs) → (match H3 b with | some (.lst xs) => l + 1 - xs.length | _ => 0) = l + 1 - xs.length := fun xs e => by rw [e]
            rw [e1' _ f3]
            simp only [upd_same]
            simp
            omega
        · refine ⟨q3, ns3, x, rfl, S3, f3, f4, by omega, ?_⟩
          rcases hcnt with h | ⟨h, h'⟩
          · rcases le3 with h2 | h2 <;> omega
          · rcases le3 with h2 | h2 <;> omega
    rintro σ H3 ⟨q3, ns3, x, rfl, S3, f3, f4, hlt, hq⟩
    obtain ⟨n, hn⟩ : ∃ n, ns3[l]? = some n := ⟨ns3[l], by simp [hlt]⟩
    walk_at "rd"
    refine rd_ixL (SqL.of f3) (atI_nat (map_get (fun (n : Nat) => V.int (n : Int)) hn)) ?_
    exact k H3 r1 q3 n S3 hq (f4 l n hn)
end
end JF

/-! ### the asking methods (no refusal) -/
namespace JF
open PySem PySem.Spec PyProof.Rows L2
section
variable {P : Program} {w : World} {K : PySem.W.Frag} {mg : Str → Option Value} {base : Heap}
theorem at_lt {q : List Sq} {n : Nat} {S : Sq} (h : q[n]? = some S) : n < q.length := (List.getElem?_eq_some_iff.mp h).1
def sp_asked (C : Addr) : Sp := fun vs H Q _ => ∃ (a : GA) (rows : List (Int × Addr)) (q : List Sq) (n : Nat) (S : Sq), vs = [.ref a.g, .int (n : Int)] ∧ GAt C H a rows q ∧ q[n]? = some S ∧ q.length ≤ 16000000 ∧ Q (.int (S.level : Int)) H
theorem mp_asked {C : Addr} : MonP (sp_asked C) := fun vs H Q Q' E h ⟨a, rows, q, n, S, x1, x2, x3, x4, k⟩ => ⟨a, rows, q, n, S, x1, x2, x3, x4, h _ _ k⟩
theorem ok_asked (T : Env fa fn K mg) : Good P w K mg base CX0 2 ("Grove", some "asked") ["self", "square"] (sp_asked (CG K)) := by
  have G_is_whole := ok_is_whole (P := P) (w := w) (base := base) T
  refine good_mk T 11 (d := d_Grove_asked) (N := ["self", "square"]) (ps := ["self", "square"]) rfl rfl sc_Grove_asked (fun _ _ _ _ _ _ us hl => match us, hl with | [_, _], _ => rfl) (fun vs H Q E h => ?_) (fun f cdv A outer s H vs Q E hr h => ?_)
  · obtain ⟨a, rows, q, n, S, rfl, _⟩ := h; rfl
  · obtain ⟨a, rows, q, n, S, rfl, G, hn, hlen, k⟩ := h
    have cl : Cls K (CG K) := T.cls 0
    obtain ⟨na1, na2, na3, na4, na5, na6⟩ := noats T
    have ob := G.ob
    have hlt := at_lt hn
    obtain ⟨tups, mk, spt, D⟩ := G.da
    refine ⟨_, (pss_cons (ps_if (PW.pt (pw_or (pt_not (pt_val (pe_cgK K rfl G_is_whole (hr.mono (by decide)) (T.glo 10) (pa_cons (pv 1) pa_nil)))) (pw_or1 (pt_not (pt_chain op_le op_lt pe_int (pv 1) (pe_gint (T.int 16) rfl)))))) pss_never pss_nil)
      (pss_one (ps_ret (pe_ix (ix_listK K rfl) (pe_fldK K rfl (pv 0) rfl) (pv 1) (fun _ _ => rfl))))), ?_⟩
    walk_at "rd"
    refine ⟨_, rfl, .inl ⟨_, rfl⟩, ?_⟩
    walk_at "rd"
    refine iteF ?_
    walk_at "rd"
    rw [decide_eq_true (show (0 : Int) ≤ (n : Int) by omega)]
    walk_at "rd"
    rw [decide_eq_true (show (n : Int) < 1000000000 by omega)]
    walk_at "rd"
    exact rd_ixL (SqL.of D.hl) (atI_nat (map_get (fun S : Sq => V.int (S.level : Int)) hn)) k
/-- what asks one square, and tells a value: the level and so on -/
def sp_level_of (C : Addr) : Sp := sp_asked C
theorem ok_level_of (T : Env fa fn K mg) : Good P w K mg base CX0 3 ("Grove", some "level_of") ["self", "square"] (sp_level_of (CG K)) := by
  have G_Grove_asked := ok_asked (P := P) (w := w) (base := base) T
  refine good_mk T 15 (d := d_Grove_level_of) (N := ["self", "square"]) (ps := ["self", "square"]) rfl rfl sc_Grove_level_of (fun _ _ _ _ _ _ us hl => match us, hl with | [_, _], _ => rfl) (fun vs H Q E h => ?_) (fun f cdv A outer s H vs Q E hr h => ?_)
  · obtain ⟨a, rows, q, n, S, rfl, _⟩ := h; rfl
  · obtain ⟨a, rows, q, n, S, rfl, G, hn, hlen, k⟩ := h
    have cl : Cls K (CG K) := T.cls 0
    refine ⟨_, (pss_one (ps_ret (pe_mgK K rfl (pv 0) (T.cls 0) (T.meth 21) G_Grove_asked (hr.mono (by decide)) (pa_cons (pv 1) pa_nil)))), ?_⟩
    walk_at "rd"
    refine rd_methR G.ob (by rfl) ?_
    walk_at "rd"
    exact ⟨a, rows, q, n, S, rfl, G, hn, hlen, k⟩
def sp_living (C : Addr) : Sp := fun vs H Q _ => ∃ (a : GA) (rows : List (Int × Addr)) (q : List Sq) (n : Nat) (S : Sq), vs = [.ref a.g, .int (n : Int)] ∧ GAt C H a rows q ∧ q[n]? = some S ∧ q.length ≤ 16000000 ∧ Q (.int S.lives) H
theorem mp_living {C : Addr} : MonP (sp_living C) := fun vs H Q Q' E h ⟨a, rows, q, n, S, x1, x2, x3, x4, k⟩ => ⟨a, rows, q, n, S, x1, x2, x3, x4, h _ _ k⟩
theorem ok_living (T : Env fa fn K mg) : Good P w K mg base CX0 3 ("Grove", some "living") ["self", "square"] (sp_living (CG K)) := by
  have G_Grove_asked := ok_asked (P := P) (w := w) (base := base) T
  refine good_mk T 18 (d := d_Grove_living) (N := ["self", "square"]) (ps := ["self", "square"]) rfl rfl sc_Grove_living (fun _ _ _ _ _ _ us hl => match us, hl with | [_, _], _ => rfl) (fun vs H Q E h => ?_) (fun f cdv A outer s H vs Q E hr h => ?_)
  · obtain ⟨a, rows, q, n, S, rfl, _⟩ := h; rfl
  · obtain ⟨a, rows, q, n, S, rfl, G, hn, hlen, k⟩ := h
    have cl : Cls K (CG K) := T.cls 0
    obtain ⟨na1, na2, na3, na4, na5, na6⟩ := noats T
    have ob := G.ob
    obtain ⟨tups, mk, spt, D⟩ := id G.da
    refine ⟨_, (pss_cons (ps_expr (pe_mgK K rfl (pv 0) (T.cls 0) (T.meth 21) G_Grove_asked (hr.mono (by decide)) (pa_cons (pv 1) pa_nil)))
      (pss_one (ps_ret (pe_ix (ix_listK K rfl) (pe_fldK K rfl (pv 0) rfl) (pv 1) (fun _ _ => rfl))))), ?_⟩
    walk_at "rd"
    refine rd_methR G.ob (by rfl) ?_
    walk_at "rd"
    refine ⟨a, rows, q, n, S, rfl, G, hn, hlen, ?_⟩
    walk_at "rd"
    exact rd_ixL (SqL.of D.hv) (atI_nat (map_get (fun S : Sq => V.int S.lives) hn)) k
def sp_span (C : Addr) : Sp := fun vs H Q _ => ∃ (a : GA) (rows : List (Int × Addr)) (q : List Sq) (n : Nat) (S : Sq), vs = [.ref a.g, .int (n : Int)] ∧ GAt C H a rows q ∧ q[n]? = some S ∧ q.length ≤ 16000000 ∧ ∀ v, SpanV H v S.span → Q v H
theorem mp_span {C : Addr} : MonP (sp_span C) := fun vs H Q Q' E h ⟨a, rows, q, n, S, x1, x2, x3, x4, k⟩ => ⟨a, rows, q, n, S, x1, x2, x3, x4, fun v hv => h _ _ (k v hv)⟩
theorem ok_span (T : Env fa fn K mg) : Good P w K mg base CX0 3 ("Grove", some "span") ["self", "square"] (sp_span (CG K)) := by
  have G_Grove_asked := ok_asked (P := P) (w := w) (base := base) T
  refine good_mk T 19 (d := d_Grove_span) (N := ["self", "square"]) (ps := ["self", "square"]) rfl rfl sc_Grove_span (fun _ _ _ _ _ _ us hl => match us, hl with | [_, _], _ => rfl) (fun vs H Q E h => ?_) (fun f cdv A outer s H vs Q E hr h => ?_)
  · obtain ⟨a, rows, q, n, S, rfl, _⟩ := h; rfl
  · obtain ⟨a, rows, q, n, S, rfl, G, hn, hlen, k⟩ := h
    have cl : Cls K (CG K) := T.cls 0
    obtain ⟨na1, na2, na3, na4, na5, na6⟩ := noats T
    have ob := G.ob
    obtain ⟨tups, mk, spt, D⟩ := id G.da
    refine ⟨_, (pss_cons (ps_expr (pe_mgK K rfl (pv 0) (T.cls 0) (T.meth 21) G_Grove_asked (hr.mono (by decide)) (pa_cons (pv 1) pa_nil)))
      (pss_one (ps_ret (pe_ix (ix_listK K rfl) (pe_fldK K rfl (pv 0) rfl) (pv 1) (fun _ _ => rfl))))), ?_⟩
    walk_at "rd"
    refine rd_methR G.ob (by rfl) ?_
    walk_at "rd"
    refine ⟨a, rows, q, n, S, rfl, G, hn, hlen, ?_⟩
    walk_at "rd"
    have hl : n < spt.length := by rw [D.ls]; exact at_lt hn
    exact rd_ixL (SqL.of D.hs) (atI_nat (by simp [hl] : spt[n]? = some spt[n])) (k _ (D.sp n _ S (by simp [hl]) hn))
/-- the quarters, as the tuple that stands there -/
def sp_quarters (C : Addr) : Sp := fun vs H Q _ => ∃ (a : GA) (rows : List (Int × Addr)) (q : List Sq) (n : Nat) (A B C' D : Sq), vs = [.ref a.g, .int (n : Int)] ∧ GAt C H a rows q ∧ q[n]? = some (.node A B C' D) ∧ q.length ≤ 16000000 ∧
  ∀ (t : Addr) (x y z u : Nat), H t = some (.tup [.int (x : Int), .int (y : Int), .int (z : Int), .int (u : Int)]) → q[x]? = some A → q[y]? = some B → q[z]? = some C' → q[u]? = some D → Q (.ref t) H
theorem mp_quarters {C : Addr} : MonP (sp_quarters C) := fun vs H Q Q' E h ⟨a, rows, q, n, A, B, C', D, x1, x2, x3, x4, k⟩ => ⟨a, rows, q, n, A, B, C', D, x1, x2, x3, x4, fun t x y z u e1 e2 e3 e4 e5 => h _ _ (k t x y z u e1 e2 e3 e4 e5)⟩
theorem ok_quarters (T : Env fa fn K mg) : Good P w K mg base CX0 3 ("Grove", some "quarters") ["self", "square"] (sp_quarters (CG K)) := by
  have G_Grove_asked := ok_asked (P := P) (w := w) (base := base) T
  refine good_mk T 16 (d := d_Grove_quarters) (N := ["self", "square"]) (ps := ["self", "square"]) rfl rfl sc_Grove_quarters (fun _ _ _ _ _ _ us hl => match us, hl with | [_, _], _ => rfl) (fun vs H Q E h => ?_) (fun f cdv A outer s H vs Q E hr h => ?_)
  · obtain ⟨a, rows, q, n, A, B, C', D, rfl, _⟩ := h; rfl
  · obtain ⟨a, rows, q, n, S1, S2, S3, S4, rfl, G, hn, hlen, k⟩ := h
    have cl : Cls K (CG K) := T.cls 0
    obtain ⟨na1, na2, na3, na4, na5, na6⟩ := noats T
    have ob := G.ob
    obtain ⟨tups, mk, spt, D⟩ := id G.da
    refine ⟨_, (pss_cons (ps_if (pt_cmpR op_eq (pe_mgK K rfl (pv 0) (T.cls 0) (T.meth 21) G_Grove_asked (hr.mono (by decide)) (pa_cons (pv 1) pa_nil)) pe_int (nomark _)) pss_never pss_nil)
      (pss_one (ps_ret (pe_ix (ix_listK K rfl) (pe_fldK K rfl (pv 0) rfl) (pv 1) (fun _ _ => rfl))))), ?_⟩
    walk_at "rd"
    refine rd_methR G.ob (by rfl) ?_
    walk_at "rd"
    refine ⟨a, rows, q, n, _, rfl, G, hn, hlen, ?_⟩
    walk_at "rd"
    refine ite_d (fun h => ?_) (fun h => ?_)
    · have : (Sq.node S1 S2 S3 S4).level = S1.level + 1 := rfl
      omega
    walk_at "rd"
    have hl : n < tups.length := by rw [D.lt]; exact at_lt hn
    have hm : n < mk.length := by rw [D.lm]; exact at_lt hn
    obtain ⟨x, y, z, u, e, h1, h2, h3, h4⟩ := D.md n mk[n] _ (by simp [hm]) hn
    have ht := D.tu n tups[n] mk[n] (by simp [hl]) (by simp [hm])
    rw [e] at ht
    refine rd_ixL (SqL.of D.hm) (atI_nat (map_get V.ref (by simp [hl] : tups[n]? = some tups[n]))) ?_
    exact k _ x y z u ht h1 h2 h3 h4
def sp_state_of (C : Addr) : Sp := fun vs H Q _ => ∃ (a : GA) (rows : List (Int × Addr)) (q : List Sq) (n : Nat) (s : Int), vs = [.ref a.g, .int (n : Int)] ∧ GAt C H a rows q ∧ q[n]? = some (.leaf s) ∧ q.length ≤ 16000000 ∧ Q (.int s) H
theorem mp_state_of {C : Addr} : MonP (sp_state_of C) := fun vs H Q Q' E h ⟨a, rows, q, n, S, x1, x2, x3, x4, k⟩ => ⟨a, rows, q, n, S, x1, x2, x3, x4, h _ _ k⟩
def sp_leaf (C : Addr) : Sp := sp_cell C
theorem ok_leaf (T : Env fa fn K mg) : Good P w K mg base CX0 3 ("Grove", some "leaf") ["self", "state"] (sp_leaf (CG K)) := by
  have G_Grove_cell := ok_cell (P := P) (w := w) (base := base) T
  have G_is_state := ok_is_state (P := P) (w := w) (base := base) T
  refine good_mk T 12 (d := d_Grove_leaf) (N := ["self", "state"]) (ps := ["self", "state"]) rfl rfl sc_Grove_leaf (fun _ _ _ _ _ _ us hl => match us, hl with | [_, _], _ => rfl) (fun vs H Q E h => ?_) (fun f cdv A outer s H vs Q E hr h => ?_)
  · obtain ⟨a, rows, q, s, rfl, _⟩ := h; rfl
  · obtain ⟨a, rows, q, s, rfl, G, h0, h7, hlen, k⟩ := h
    have cl : Cls K (CG K) := T.cls 0
    refine ⟨_, (pss_cons (ps_if (pt_not (pt_val (pe_cgK K rfl G_is_state (hr.mono (by decide)) (T.glo 17) (pa_cons (pv 1) pa_nil)))) pss_never pss_nil)
      (pss_one (ps_ret (pe_mgK K rfl (pv 0) (T.cls 0) (T.meth 14) G_Grove_cell (hr.mono (by decide)) (pa_cons (pv 1) pa_nil))))), ?_⟩
    walk_at "rd"
    refine ⟨_, rfl, .inl ⟨_, rfl⟩, ?_⟩
    walk_at "rd"
    rw [stateV_ok h0 h7]
    walk_at "rd"
    walk_at "rd"
    refine rd_methR G.ob (by rfl) ?_
    walk_at "rd"
    exact ⟨a, rows, q, s, rfl, G, h0, h7, hlen, k⟩
def sp_solid (C : Addr) : Sp := fun vs H Q _ => ∃ (a : GA) (rows : List (Int × Addr)) (q : List Sq) (l : Nat) (s : Int), vs = [.ref a.g, .int (l : Int), .int s] ∧ GAt C H a rows q ∧ l ≤ 48 ∧ 0 ≤ s ∧ s ≤ 7 ∧ q.length + 100 < 16000000 ∧
  ∀ H' rows' q' (n : Nat), GStep C H a rows q H' rows' q' → q'.length ≤ q.length + l + 1 → q'[n]? = some (Sq.even l s) → Q (.int (n : Int)) H'
theorem mp_even {C : Addr} : MonP (sp_even C) := fun vs H Q Q' E h ⟨a, rows, q, l, s, x1, x2, x3, x4, x5, x6, k⟩ => ⟨a, rows, q, l, s, x1, x2, x3, x4, x5, x6, fun H' r' q' n g p l => h _ _ (k H' r' q' n g p l)⟩
theorem mp_solid {C : Addr} : MonP (sp_solid C) := fun vs H Q Q' E h ⟨a, rows, q, l, s, x1, x2, x3, x4, x5, x6, k⟩ => ⟨a, rows, q, l, s, x1, x2, x3, x4, x5, x6, fun H' r' q' n g p l => h _ _ (k H' r' q' n g p l)⟩
theorem ok_solid (T : Env fa fn K mg) : Good P w K mg base CX0 5 ("Grove", some "solid") ["self", "level", "state"] (sp_solid (CG K)) := by
  have G_Grove_even := ok_even (P := P) (w := w) (base := base) T
  have G_is_state := ok_is_state (P := P) (w := w) (base := base) T
  have G_is_whole := ok_is_whole (P := P) (w := w) (base := base) T
  refine good_mk T 14 (d := d_Grove_solid) (N := ["self", "level", "state"]) (ps := ["self", "level", "state"]) rfl rfl sc_Grove_solid (fun _ _ _ _ _ _ us hl => match us, hl with | [_, _, _], _ => rfl) (fun vs H Q E h => ?_) (fun f cdv A outer σ0 H vs Q E hr h => ?_)
  · obtain ⟨a, rows, q, l, s, rfl, _⟩ := h; rfl
  · obtain ⟨a, rows, q, l, s, rfl, G, hl, h0, h7, hlen, k⟩ := h
    have cl : Cls K (CG K) := T.cls 0
    refine ⟨_, (pss_cons (ps_if (PW.pt (pw_or (pt_not (pt_val (pe_cgK K rfl G_is_whole (hr.mono (by decide)) (T.glo 10) (pa_cons (pv 1) pa_nil)))) (pw_or1 (pt_not (pt_chain op_le op_le pe_int (pv 1) (pe_gint (T.int 19) rfl)))))) pss_never pss_nil)
      (pss_cons (ps_if (pt_not (pt_val (pe_cgK K rfl G_is_state (hr.mono (by decide)) (T.glo 17) (pa_cons (pv 2) pa_nil)))) pss_never pss_nil)
      (pss_one (ps_ret (pe_mgK K rfl (pv 0) (T.cls 0) (T.meth 20) G_Grove_even (hr.mono (by decide)) (pa_cons (pv 1) (pa_cons (pv 2) pa_nil))))))), ?_⟩
    walk_at "rd"
    refine ⟨_, rfl, .inl ⟨_, rfl⟩, ?_⟩
    walk_at "rd"
    refine iteF ?_
    walk_at "rd"
    rw [decide_eq_true (show (0 : Int) ≤ (l : Int) by omega)]
    walk_at "rd"
    rw [decide_eq_true (show (l : Int) ≤ 48 by omega)]
    walk_at "rd"
    refine ⟨_, rfl, .inl ⟨_, rfl⟩, ?_⟩
    walk_at "rd"
    rw [stateV_ok h0 h7]
    walk_at "rd"
    walk_at "rd"
    refine rd_methR G.ob (by rfl) ?_
    walk_at "rd"
    exact ⟨a, rows, q, l, s, rfl, G, by omega, h0, h7, hlen, k⟩
/-- four are joined -/
def sp_joined (C : Addr) : Sp := fun vs H Q _ => ∃ (a : GA) (rows : List (Int × Addr)) (q : List Sq) (A B C' D : Sq) (na nb nc nd : Nat), vs = [.ref a.g, .int (na : Int), .int (nb : Int), .int (nc : Int), .int (nd : Int)] ∧ GAt C H a rows q ∧
  q[na]? = some A ∧ q[nb]? = some B ∧ q[nc]? = some C' ∧ q[nd]? = some D ∧ B.level = A.level ∧ C'.level = A.level ∧ D.level = A.level ∧ A.level ≤ 47 ∧ q.length < 16000000 ∧
  ∀ H' q' (n : Nat), GStep C H a rows q H' rows q' → q'.length ≤ q.length + 1 → q'[n]? = some (.node A B C' D) → Fr a.m5 H H' → Q (.int (n : Int)) H'
theorem mp_joined {C : Addr} : MonP (sp_joined C) := fun vs H Q Q' E h ⟨a, rows, q, A, B, C', D, na, nb, nc, nd, x1, x2, x3, x4, x5, x6, x7, x8, x9, y1, y2, k⟩ => ⟨a, rows, q, A, B, C', D, na, nb, nc, nd, x1, x2, x3, x4, x5, x6, x7, x8, x9, y1, y2, fun H' q' n g p l f => h _ _ (k H' q' n g p l f)⟩
end
end JF

/-! ### helpers of the laws: the script's numbers, lists of tuples of numbers -/
namespace JF
open PySem PySem.Spec PyProof.Rows L2
/-- tuples of whole numbers, one by one -/
def TR (H : Hp) : List Addr → List (List Int) → Prop
  | [], [] => True
  | r :: rs, x :: xs => H r = some (.tup (x.map V.int)) ∧ TR H rs xs
  | _, _ => False
theorem TR.len {H : Hp} : ∀ {rs : List Addr} {xs : List (List Int)}, TR H rs xs → rs.length = xs.length
  | [], [], _ => rfl
  | r :: rs, x :: xs, h => congrArg (· + 1) (TR.len h.2)
  | [], _ :: _, h => h.elim
  | _ :: _, [], h => h.elim
theorem TR.keep {H H' : Hp} (k : ∀ b ys, H b = some (.tup ys) → H' b = some (.tup ys)) : ∀ {rs : List Addr} {xs : List (List Int)}, TR H rs xs → TR H' rs xs
  | [], [], _ => trivial
  | r :: rs, x :: xs, h => ⟨k _ _ h.1, TR.keep k h.2⟩
  | [], _ :: _, h => h.elim
  | _ :: _, [], h => h.elim
theorem TR.app {H : Hp} {r : Addr} {x : List Int} (hr : H r = some (.tup (x.map V.int))) : ∀ {rs : List Addr} {xs : List (List Int)}, TR H rs xs → TR H (rs ++ [r]) (xs ++ [x])
  | [], [], _ => ⟨hr, trivial⟩
  | _ :: _, _ :: _, h => ⟨h.1, TR.app hr h.2⟩
  | [], _ :: _, h => h.elim
  | _ :: _, [], h => h.elim
theorem TR.get {H : Hp} : ∀ {rs : List Addr} {xs : List (List Int)} {i : Nat} {r : Addr}, TR H rs xs → rs[i]? = some r → ∃ x, xs[i]? = some x ∧ H r = some (.tup (x.map V.int))
  | [], [], _, _, _, e => by simp at e
  | r :: rs, x :: xs, 0, _, h, e => by
    simp only [List.getElem?_cons_zero, Option.some.injEq] at e
    subst e
    exact ⟨x, rfl, h.1⟩
  | r :: rs, x :: xs, i + 1, _, h, e => by
    simp only [List.getElem?_cons_succ] at e ⊢
    exact TR.get h.2 e
  | [], _ :: _, _, _, h, _ => h.elim
  | _ :: _, [], _, _, h, _ => h.elim
/-- a list of tuples of whole numbers -/
def TL (H : Hp) (p : Addr) (xs : List (List Int)) : Prop := ∃ rs : List Addr, H p = some (.lst (rs.map V.ref)) ∧ TR H rs xs
theorem at_get {α : Type} {l : List α} {i : Nat} (h : i < l.length) : l[i]? = some l[i] := by simp [h]
section
variable {K : PySem.W.Frag} {σ : L2.St} {H : Hp} {Q : VK}
/-- [x[c] for x in list] of tuples of numbers -/
theorem rd_colT {L i n : Nat} {c : Int} {p : Addr} {xs : List (List Int)} (hi : i < σ.length) (hv : σ[L]? = some (some (.ref p))) (h : TL H p xs) (hx : ∀ x ∈ xs, x.length = n) (hc0 : 0 ≤ c) (hcn : c.toNat < n) (hz : xs.length ≤ sizeLine)
    (hd : ∀ D, H D = none → Q (.ref D) (upd H D (.lst ((xs.map fun x => x.getD c.toNat 0).map V.int)))) : tLc (iList K (tVar L)) (gName i) tYes (tOp (rIxT K) (tVar i) (tC (.int c))) [i] σ H Q := by
  obtain ⟨rs, hp, ht⟩ := h
  refine ⟨_, hv, p, rfl, ⟨_, SqL.of hp⟩, fun D hD => ?_⟩
  have sm : ∀ o, Same H (upd H D o) := fun o => same_upd hD
  refine lc_list (K := K) (xs := rs.map V.ref) (fun i H' => H' = upd H D (.lst (((xs.take i).map fun x => x.getD c.toNat 0).map V.int))) (by simp) (fun i H' _ e => SqL.of (by rw [e]; exact sm _ _ _ hp)) ?_ ?_
  · rintro j x H' hj rfl
    obtain ⟨r, hr, rfl⟩ : ∃ r, rs[j]? = some r ∧ x = .ref r := by
      rw [List.getElem?_map] at hj
      cases e : rs[j]? with
      | none => rw [e] at hj; cases hj
      | some r => rw [e] at hj; exact ⟨r, rfl, (Option.some.inj hj).symm⟩
    obtain ⟨x, hx1, hx2⟩ := ht.get hr
    have hl := hx x (List.mem_of_getElem? hx1)
    have hlt : c.toNat < x.length := by omega
    have hset : (((wipe σ [i]).set i (some (.ref r)))[i]? : Option (Option V)) = some (some (.ref r)) := by
      rw [List.getElem?_set_self (by rw [wipe_length]; exact hi)]
    refine ⟨by simp only [wipe, List.set_set], ?_⟩
    refine rd_yes (iteT' (rd_op (rd_var hset (rd_c ?_))))
    have e1 : atI (x.map V.int) c = some (V.int (x.getD c.toNat 0)) := by
      obtain ⟨m, rfl⟩ : ∃ m : Nat, c = m := ⟨c.toNat, by omega⟩
      refine atI_nat ?_
      rw [Int.toNat_natCast] at hlt ⊢
      rw [List.getElem?_map, at_get hlt]
      simp [List.getD, hlt]
    refine rd_ixT (SqT.of (sm _ _ _ hx2)) e1 ?_
    refine ⟨_, upd_same, ?_, ?_⟩
    · have hj2 : j < xs.length := (List.getElem?_eq_some_iff.mp hx1).1
      simp only [List.length_map, List.length_take]
      omega
    · rw [upd_upd]
      have : xs.take (j + 1) = xs.take j ++ [x] := by rw [List.take_succ, hx1]; rfl
      rw [this, List.map_append, List.map_append]; rfl
  · rintro H' rfl
    have e : xs.take (rs.map V.ref).length = xs := by rw [List.length_map, ht.len, List.take_length]
    rw [e]
    exact hd D hD
/-- min, max, of a list of numbers -/
theorem rd_min {p : Addr} {ns : List Int} (m0 : Int) (h : H p = some (.lst (ns.map V.int))) (hm : m0 ∈ ns) (hle : ∀ y ∈ ns, m0 ≤ y) (q : Q (.int m0) H) : rMin K [.ref p] H Q :=
  ⟨p, ns, rfl, SqL.of h, List.length_pos_of_mem hm, fun m h1 h2 => by
    have e : m = m0 := Int.le_antisymm (h2 m0 hm) (hle m h1)
    rw [e]; exact q⟩
theorem rd_max {p : Addr} {ns : List Int} (m0 : Int) (h : H p = some (.lst (ns.map V.int))) (hm : m0 ∈ ns) (hle : ∀ y ∈ ns, y ≤ m0) (q : Q (.int m0) H) : rMax K [.ref p] H Q :=
  ⟨p, ns, rfl, SqL.of h, List.length_pos_of_mem hm, fun m h1 h2 => by
    have e : m = m0 := Int.le_antisymm (hle m h1) (h2 m0 hm)
    rw [e]; exact q⟩
/-! lists of tuples, compared -/
theorem dp_tr : ∀ {rs : List Addr} {xs : List (List Int)}, TR H rs xs → DpAll K H (rs.map V.ref) (xs.map fun x => PyData.tuple (x.map PyData.int))
  | [], [], _ => .nil
  | r :: rs, x :: xs, h => .cons (.tup (SqT.of h.1) dp_ints) (dp_tr h.2)
  | [], _ :: _, h => h.elim
  | _ :: _, [], h => h.elim
theorem lay_ints : ∀ x : List Int, PyData.canLayAll0 (x.map PyData.int) = true
  | [] => by simp [PyData.canLayAll0]
  | i :: x => by simp [PyData.canLayAll0, PyData.canLay0, lay_ints x]
theorem depth_ints : ∀ x : List Int, PyData.depthAll (x.map PyData.int) ≤ 1
  | [] => by simp [PyData.depthAll]
  | i :: x => by simp [PyData.depthAll, PyData.depth, depth_ints x]
theorem lay_tr : ∀ xs : List (List Int), PyData.canLayAll0 (xs.map fun x => PyData.tuple (x.map PyData.int)) = true
  | [] => by simp [PyData.canLayAll0]
  | x :: xs => by simp [PyData.canLayAll0, PyData.canLay0, lay_tr xs, lay_ints x]
theorem depth_tr : ∀ xs : List (List Int), PyData.depthAll (xs.map fun x => PyData.tuple (x.map PyData.int)) ≤ 2
  | [] => by simp [PyData.depthAll]
  | x :: xs => by
    have h1 := depth_tr xs
    have h2 := depth_ints x
    simp only [List.map_cons, PyData.depthAll, PyData.depth]
    omega
theorem shaped_tr (xs : List (List Int)) : SeqAt.shaped (.list (xs.map fun x => PyData.tuple (x.map PyData.int))) = true := by
  have h1 := depth_tr xs
  have h2 := lay_tr xs
  have h3 : PyData.depth (.list (xs.map fun x => PyData.tuple (x.map PyData.int))) ≤ 64 := by
    simp only [PyData.depth]
    omega
  unfold SeqAt.shaped
  rw [decide_eq_true h3, Bool.and_true]
  simp only [PyData.canLay0, h2]
theorem TL.same {H H' : Hp} {p : Addr} {xs : List (List Int)} (h : TL H p xs) (s : Same H H') : TL H' p xs := by
  obtain ⟨rs, h1, h2⟩ := h
  exact ⟨rs, s _ _ h1, h2.keep fun _ _ e => s _ _ e⟩
/-- rows == [] -/
theorem rd_eqTL0 {p pe : Addr} {xs : List (List Int)} (h : TL H p xs) (he : H pe = some (.lst [])) (q : Q (.bl (decide (xs = []))) H) : rEqD K (.ref p) (.ref pe) H Q := by
  obtain ⟨rs, h1, h2⟩ := h
  refine ⟨_, _, .lst (SqL.of h1) (dp_tr h2), .lst (SqL.of he) .nil, shaped_tr xs, rfl, ?_⟩
  cases xs with
  | nil => exact q
  | cons x xs => exact q
/-- isinstance(tuple of the law's, tuple) -/
theorem rd_isiT {p : Addr} {xs : List V} (h : H p = some (.tup xs)) (q : Q (.bl true) H) : rIsi K [.ref p, .ty "tuple"] H Q :=
  isi_ty (.base (.tup h)) (by decide +kernel : kitB "tuple" "tuple" = some true) q
theorem rd_isiI {i : Int} (q : Q (.bl true) H) : rIsi K [.int i, .ty "int"] H Q := isi_ty (.base (.int i)) (by decide +kernel : kitB "int" "int" = some true) q
theorem rd_isiB {i : Int} (q : Q (.bl false) H) : rIsi K [.int i, .ty "bool"] H Q := isi_ty (.base (.int i)) (by decide +kernel : kitB "int" "bool" = some false) q
end
theorem sqL_on {K : PySem.W.Frag} {H H' : Hp} {a : Addr} {xs : List V} (h : SqL K H a xs) (e : ∀ o, H a = some o → H' a = some o) : SqL K H' a xs :=
  h.elim (fun h => .inl (h.elim (fun h => .inl (e _ h)) fun ⟨o, h⟩ => .inr ⟨o, e _ h⟩)) fun h => .inr h
theorem walk_r0 {n : Nat} : Walk (Itr 0 n) n (fun _ => True) (YFn fun i => .int (i : Int)) :=
  walk_range.mono (fun _ h => h) fun i H x H' _ _ y => ⟨y.1, y.2.trans (by show V.int (0 + (i : Int)) = V.int (i : Int); rw [Int.zero_add])⟩
def cutI (ns : List Int) (lo hi : Option Int) : List Int := (ns.drop (HT.sIx ns.length 0 lo)).take (HT.sIx ns.length ns.length hi - HT.sIx ns.length 0 lo)
theorem cutV_ints (ns : List Int) (lo hi : Option Int) : cutV (ns.map V.int) lo hi = (cutI ns lo hi).map V.int := by
  unfold cutV cutI
  rw [List.length_map, List.map_take, List.map_drop]
/-- Grove() -/
theorem rd_grove {K : PySem.W.Frag} {σ : L2.St} {H : Hp} {Q : VK} (h : ∀ (a : GA) H', GAt (CG K) H' a [] [] → (∀ b ∈ a.muts [], H b = none) → Same H H' → Q (.ref a.g) H') : tMake (CG K) (sp_ginit (CG K)) [] E0 tNil σ H Q := by
  intro x dx hx hdx hne
  refine ⟨x, dx, rfl, upd_same, fun a H' e G hn hk => ⟨rfl, ?_⟩⟩
  subst e
  have out : ∀ (b u : Addr) (Hx : Hp) (o : HO), upd Hx u o b = none → Hx b = none := fun b u Hx o e => by
    by_cases z : b = u
    · subst z; rw [upd_same] at e; cases e
    · rw [upd_ne z] at e; exact e
  refine h a H' G (fun b hb => out _ _ _ _ (out _ _ _ _ (hn b hb))) fun b o e => ?_
  have b1 : b ≠ a.g := ne_of_none e hx
  have b2 : b ≠ dx := ne_of_none e hdx
  exact hk b o (by rw [upd_ne b1, upd_ne b2]; exact e) b1
/-! #### the asker's own lists beside a grove -/
/-- tuples stay -/
def Tup (H H' : Hp) : Prop := ∀ b ys, H b = some (.tup ys) → H' b = some (.tup ys)
theorem Tup.refl (H : Hp) : Tup H H := fun _ _ h => h
theorem Tup.trans {H H1 H2 : Hp} (x : Tup H H1) (y : Tup H1 H2) : Tup H H2 := fun b ys h => y b ys (x b ys h)
theorem Tup.of {H H' : Hp} (x : Same H H') : Tup H H' := fun b ys h => x b _ h
theorem Tup.put {H : Hp} {p : Addr} {xs : List V} (h : H p = some (.lst xs)) (o : HO) : Tup H (upd H p o) := fun b ys e => by
  rw [upd_ne (by rintro rfl; rw [h] at e; cases e)]; exact e
theorem GStep.tup {C : Addr} {H H1 : Hp} {a : GA} {rows r1 : List (Int × Addr)} {q q1 : List Sq} (x : GStep C H a rows q H1 r1 q1) (G : GAt C H a rows q) : Tup H H1 := fun b ys e => x.fr b _ e (G.tup_out e)
/-- own lists, by their addresses -/
structure OwnL (a : GA) (rows : List (Int × Addr)) (H : Hp) (l : List (Addr × List V)) : Prop where
  nd : (l.map (·.1)).Nodup
  at_ : ∀ p xs, (p, xs) ∈ l → H p = some (.lst xs)
  out : ∀ p xs, (p, xs) ∈ l → p ∉ a.muts rows
theorem OwnL.same {a : GA} {rows : List (Int × Addr)} {H H' : Hp} {l : List (Addr × List V)} (h : OwnL a rows H l) (s : Same H H') : OwnL a rows H' l := ⟨h.nd, fun p xs m => s _ _ (h.at_ p xs m), h.out⟩
theorem OwnL.step {C : Addr} {H H1 : Hp} {a : GA} {rows r1 : List (Int × Addr)} {q q1 : List Sq} {l : List (Addr × List V)} (h : OwnL a rows H l) (x : GStep C H a rows q H1 r1 q1) : OwnL a r1 H1 l :=
  ⟨h.nd, fun p xs m => (x.own (h.at_ p xs m) (h.out p xs m)).1, fun p xs m => (x.own (h.at_ p xs m) (h.out p xs m)).2⟩
theorem OwnL.nil {a : GA} {rows : List (Int × Addr)} {H : Hp} : OwnL a rows H [] := ⟨by simp, fun _ _ m => by simp at m, fun _ _ m => by simp at m⟩
theorem OwnL.new {C : Addr} {a : GA} {rows : List (Int × Addr)} {q : List Sq} {H : Hp} {l : List (Addr × List V)} {p : Addr} {xs : List V} (h : OwnL a rows H l) (G : GAt C H a rows q) (hp : H p = none) : OwnL a rows (upd H p (.lst xs)) ((p, xs) :: l) := by
  refine ⟨?_, fun p' ys m => ?_, fun p' ys m => ?_⟩
  · rw [List.map_cons, List.nodup_cons]
    refine ⟨fun z => ?_, h.nd⟩
    obtain ⟨⟨p', ys⟩, m, e⟩ := List.mem_map.mp z
    have e' : p' = p := e
    subst e'
    rw [h.at_ _ _ m] at hp
    cases hp
  · rcases List.mem_cons.mp m with m | m
    · cases m; exact upd_same
    · exact same_upd hp _ _ (h.at_ _ _ m)
  · rcases List.mem_cons.mp m with m | m
    · cases m; exact G.new_out hp
    · exact h.out _ _ m
theorem OwnL.put {a : GA} {rows : List (Int × Addr)} {H : Hp} {p : Addr} {xs : List V} (l1 l2 : List (Addr × List V)) (ys : List V) (h : OwnL a rows H (l1 ++ (p, xs) :: l2)) : OwnL a rows (upd H p (.lst ys)) (l1 ++ (p, ys) :: l2) := by
  have nd := h.nd
  rw [List.map_append, List.map_cons] at nd
  have ne : ∀ p' zs, (p', zs) ∈ l1 ∨ (p', zs) ∈ l2 → p' ≠ p := fun p' zs m e => by
    subst e
    rw [List.nodup_append, List.nodup_cons] at nd
    rcases m with m | m
    · exact nd.2.2 p' (List.mem_map_of_mem (f := fun x : Addr × List V => x.1) (a := (p', zs)) m) p' List.mem_cons_self rfl
    · exact nd.2.1.1 (List.mem_map_of_mem (f := fun x : Addr × List V => x.1) (a := (p', zs)) m)
  refine ⟨by rw [List.map_append, List.map_cons]; exact nd, fun p' zs m => ?_, fun p' zs m => ?_⟩
  · rcases List.mem_append.mp m with m | m
    · rw [upd_ne (ne p' zs (.inl m))]; exact h.at_ _ _ (List.mem_append_left _ m)
    · rcases List.mem_cons.mp m with m | m
      · cases m; exact upd_same
      · rw [upd_ne (ne p' zs (.inr m))]; exact h.at_ _ _ (List.mem_append_right _ (List.mem_cons_of_mem _ m))
  · rcases List.mem_append.mp m with m | m
    · exact h.out _ _ (List.mem_append_left _ m)
    · rcases List.mem_cons.mp m with m | m
      · cases m; exact h.out _ xs (List.mem_append_right _ List.mem_cons_self)
      · exact h.out _ _ (List.mem_append_right _ (List.mem_cons_of_mem _ m))
theorem GAt.own {C : Addr} {H : Hp} {a : GA} {rows : List (Int × Addr)} {q : List Sq} {l : List (Addr × List V)} {p : Addr} {xs : List V} {o : HO} (G : GAt C H a rows q) (h : OwnL a rows H l) (m : (p, xs) ∈ l) : GAt C (L2.upd H p o) a rows q :=
  G.upd (fun u e => by rw [h.at_ _ _ m] at e; cases e; exact fun z => z) (h.out _ _ m)
theorem OwnL.ix {a : GA} {rows : List (Int × Addr)} {H : Hp} {l : List (Addr × List V)} {p : Addr} {xs : List V} (h : OwnL a rows H l) (i : Nat) (e : l[i]? = some (p, xs)) : H p = some (.lst xs) := h.at_ p xs (List.mem_of_getElem? e)
theorem GAt.ownI {C : Addr} {H : Hp} {a : GA} {rows : List (Int × Addr)} {q : List Sq} {l : List (Addr × List V)} {p : Addr} {xs : List V} (G : GAt C H a rows q) (h : OwnL a rows H l) (i : Nat) (e : l[i]? = some (p, xs)) (o : HO) : GAt C (L2.upd H p o) a rows q := G.own h (List.mem_of_getElem? e)
theorem OwnL.putI {a : GA} {rows : List (Int × Addr)} {H : Hp} {l : List (Addr × List V)} {p : Addr} {xs : List V} (h : OwnL a rows H l) (i : Nat) (e : l[i]? = some (p, xs)) (ys : List V) : OwnL a rows (upd H p (.lst ys)) (l.set i (p, ys)) := by
  obtain ⟨hi, e'⟩ := List.getElem?_eq_some_iff.mp e
  have e1 : l = l.take i ++ (p, xs) :: l.drop (i + 1) := by rw [← e']; simp
  rw [List.set_eq_take_append_cons_drop, if_pos hi]
  rw [e1] at h
  exact h.put (l.take i) (l.drop (i + 1)) ys
theorem OwnL.tup {a : GA} {rows : List (Int × Addr)} {H : Hp} {l : List (Addr × List V)} {p : Addr} {xs : List V} (h : OwnL a rows H l) (i : Nat) (e : l[i]? = some (p, xs)) (o : HO) : Tup H (L2.upd H p o) := Tup.put (h.ix i e) o
section
variable {P : Program} {w : World} {K : PySem.W.Frag} {mg : Str → Option Value} {base : Heap}
def atN (ns : List Int) (k : Nat) : Int := (ns[k]?).getD 0
def sp_at (K : PySem.W.Frag) : Sp := fun vs H Q _ => ∃ (a : Addr) (ns : List Int) (k : Int), vs = [.ref a, .int k] ∧ SqL K H a (ns.map V.int) ∧ 0 ≤ k ∧ Q (.int (atN ns k.toNat)) H
theorem mp_at : MonP (sp_at K) := fun vs H Q Q' E h ⟨a, ns, k, x1, x2, x3, q⟩ => ⟨a, ns, k, x1, x2, x3, h _ _ q⟩
theorem ok_at (T : Env fa fn K mg) : Good P w K mg base CX0 1 ("_law_at", none) ["_law_script", "_law_k"] (sp_at K) := by
  refine good_mk T 27 (d := d_w_at) (N := ["_law_script", "_law_k"]) (ps := ["_law_script", "_law_k"]) rfl rfl sc_w_at (fun _ _ _ _ _ _ us hl => match us, hl with | [_, _], _ => rfl) (fun vs H Q E h => ?_) (fun f cdv A outer s H vs Q E hr h => ?_)
  · obtain ⟨a, ns, k, rfl, _⟩ := h; rfl
  · obtain ⟨a, ns, k, rfl, hs, h0, q⟩ := h
    refine ⟨_, (pss_cons (ps_if (pt_cmpR op_lt (pv 1) (pe_callB (call_lenK K rfl) (by rfl) (T.free 11) (by decide +kernel) (pa_cons (pv 0) pa_nil)) (nomark _)) (pss_one (ps_ret (pe_ix (ix_listK K rfl) (pv 0) (pv 1) (fun _ _ => rfl)))) pss_nil)
      (pss_one (ps_ret pe_int))), ?_⟩
    obtain ⟨m, rfl⟩ : ∃ m : Nat, k = m := ⟨k.toNat, by omega⟩
    rw [Int.toNat_natCast] at q
    walk_at "rd"
    refine rd_len hs ?_
    walk_at "rd"
    rw [List.length_map]
    refine ite_d (fun hk => ?_) (fun hk => ?_)
    · walk_at "rd"
      have hlt : m < ns.length := by omega
      refine rd_ixL hs (v := .int (atN ns m)) (atI_nat ?_) q
      rw [List.getElem?_map, at_get hlt]
      simp [atN, hlt]
    · walk_at "rd"
      have e : atN ns m = 0 := by unfold atN; rw [List.getElem?_eq_none (by omega)]; rfl
      rw [e] at q
      exact q
end
end JF

/-! ### helpers of the laws: dicts by tuples, zips of tuples -/
namespace JF
open PySem PySem.Spec PyProof.Rows L2
section
variable {X : Cx}
/-- d.setdefault(tuple, x), the dict by tuples -/
def rSetdT : V → List V → Hp → VK → Prop := fun u us H Q => ∃ (d t : Addr) (k : List Key) (z : V) (tab : List (List Key × V)), u = .ref d ∧ us = [.ref t, z] ∧ H d = some (.dT tab) ∧ H t = some (.tup (k.map kV)) ∧ tab.length < sizeLine ∧
  (∀ v, valV tab k = some v → Q v H) ∧ (valV tab k = none → Q z (upd H d (.dT (putK tab k z))))
theorem mt_setdT (room : X.A.units + 64 < cLine) : MtR X "dict.setdefault" rSetdT := by
  intro pins s σ H u us uv uvs Q I ru rus h
  obtain ⟨d, t, k, z, tab, rfl, rfl, hd, ht, hlt, there, away⟩ := h
  cases ru
  obtain ⟨kv, zv, rfl, rk, rz⟩ := vals2 rus
  cases rk
  obtain ⟨hle, hsys, ys, tie, dict⟩ := dt_of I.hok hd
  have hys : ys.length ≤ sizeLine := Paired.length tie ▸ hle
  have look := tie.val k
  refine call_setdefault_heap (knd := tupleKind (mixKind X.prog X.w)) (k := k) (tupleKind_room_in1 (by omega)) (key_of I.hok ht) hsys dict ?got ?new hys
  case got =>
    intro p hp
    rw [hp] at look
    cases ev : valV tab k with
    | none => rw [ev] at look; exact False.elim look
    | some v =>
      rw [ev] at look
      exact ⟨v, H, I.tok _, look, there v ev⟩
  case new =>
    intro hn h2 dict2 but
    have ev : valV tab k = none := by
      cases ev : valV tab k with
      | none => rfl
      | some v => rw [hn, ev] at look; exact False.elim look
    obtain ⟨o, es, ep, ho, m1, m2, m3, _, m4⟩ := dict2
    have tie2 : KT (upd H d (.dT (putK tab k z))) (putK tab k z) (storedH ys k t zv) := (tie.put k ht rz).keeps fun b items e => by
      rw [upd_ne (ne_of e hd (fun x => nomatch x))]
      exact e
    have hle2 : (putK tab k z).length ≤ sizeLine := by
      rw [putK_new _ ev, List.length_append]
      exact hlt
    have I2 := d_write (t' := s.toks + (tupleKind (mixKind X.prog X.w)).draws k) I (by rw [hd]; exact True.intro) but ⟨o, ho⟩ (ob := .dT (putK tab k z)) ⟨hle2, hsys, _, tie2, o, es, ep, ho, m1, m2, m3, m4⟩
    exact ⟨z, _, I2, rz, away ev⟩
end
section
variable {X : Cx} {p pos tpos : Pos} {e e2 : Expr} {ta : TA} {elts : List Expr} {kk : Nat}
theorem pi_zipAK (K : PySem.W.Frag) (hK : X.K = K) (hg : Gl X "zip") (hm : X.mg "zip" = none) (ha : PA X [e, e2] ta) (hs : starEach [e, e2] X.env = (false, eval e X.env) :: starEach [e2] X.env := by rfl) (hpl : (backTo pos (starEach [e2] X.env)).any (·.1) = false := by rfl) :
    PI X (.Tuple elts kk tpos) (.Call (.Name "zip" p) [e, e2] [] pos) (RZ.iZipA K ta) := by subst hK; exact RZ.pi_zipA hg hm ha hs hpl
end
section
variable {K : PySem.W.Frag} {σ : L2.St} {H : Hp} {Q : VK}
theorem rd_iZA {tr : TA} {R : It → Hp → Prop} (h : tr σ H fun vs H1 => ∃ a b xs ys, vs = [.ref a, .ref b] ∧ ((SqL K H1 a xs ∧ SqL K H1 b ys ∧ R (Itz K a b) H1) ∨ (SqT K H1 a xs ∧ SqT K H1 b ys ∧ R (RZ.ItzT K a b) H1))) : RZ.iZipA K tr σ H R := h
theorem rd_tyD {l : Addr} {xs : List (Key × V)} {R : Prop} (h1 : H l = some (.dK xs)) (q : R) : tyV K "dict" (.ref l) H ∧ R := ⟨Or.inr (Or.inr (Or.inl ⟨rfl, Or.inl ⟨_, h1⟩⟩)), q⟩
theorem rd_tyDT {l : Addr} {xs : List (List Key × V)} {R : Prop} (h1 : H l = some (.dT xs)) (q : R) : tyV K "dict" (.ref l) H ∧ R := ⟨Or.inr (Or.inr (Or.inl ⟨rfl, Or.inr ⟨_, h1⟩⟩)), q⟩
theorem rd_iK {td : TE} {R : It → Hp → Prop} (h : td σ H fun x H1 => ∃ d o, x = .ref d ∧ ((∃ kvs, H1 d = some (.frz o (.dK kvs)) ∧ R (Itk d o kvs) H1) ∨ ∃ kvs, H1 d = some (.frz o (.dT kvs)) ∧ R (Itkt d o kvs) H1)) : iKeys td σ H R := h
theorem shaped_tup {ns : List Int} : SeqAt.shaped (.tuple (ns.map PyData.int)) = true := by
  have h1 := depth_ints ns
  have h2 := lay_ints ns
  have h3 : PyData.depth (.tuple (ns.map PyData.int)) ≤ 64 := by
    simp only [PyData.depth]
    omega
  unfold SeqAt.shaped
  rw [decide_eq_true h3, Bool.and_true]
  simp only [PyData.canLay0, h2]
theorem rd_neDT {p p' : Addr} {ns ms : List Int} (h1 : H p = some (.tup (ns.map V.int))) (h2 : H p' = some (.tup (ms.map V.int)))
    (q : Q (.bl (!PyData.eqv (.tuple (ns.map PyData.int)) (.tuple (ms.map PyData.int)))) H) : rNeD K (.ref p) (.ref p') H Q := ⟨_, _, .tup (SqT.of h1) dp_ints, .tup (SqT.of h2) dp_ints, shaped_tup, shaped_tup, q⟩
theorem eqvT_refl (ns : List Int) : PyData.eqv (.tuple (ns.map PyData.int)) (.tuple (ns.map PyData.int)) = true := SeqAt.eqv_refl _ (by simp only [PyData.canLay0]; exact lay_ints ns)
end
theorem eqvAll_ints : ∀ ns ms : List Int, PyData.eqvAll (ns.map PyData.int) (ms.map PyData.int) = decide (ns = ms)
  | [], [] => by simp [PyData.eqvAll]
  | [], _ :: _ => by simp [PyData.eqvAll]
  | _ :: _, [] => by simp [PyData.eqvAll]
  | n :: ns, m :: ms => by
    simp only [List.map_cons, PyData.eqvAll, PyData.eqv, eqvAll_ints ns ms, List.cons.injEq]
    by_cases a : n = m <;> by_cases b : ns = ms <;> simp [a, b]
theorem shaped_list {ns : List Int} : SeqAt.shaped (.list (ns.map PyData.int)) = true := by
  have h1 := depth_ints ns
  have h2 := lay_ints ns
  have h3 : PyData.depth (.list (ns.map PyData.int)) ≤ 64 := by
    simp only [PyData.depth]
    omega
  unfold SeqAt.shaped
  rw [decide_eq_true h3, Bool.and_true]
  simp only [PyData.canLay0, h2]
/-- lists, tuples of whole numbers, compared -/
theorem rd_eqLI {K : PySem.W.Frag} {H : Hp} {Q : VK} {p p' : Addr} {ns ms : List Int} (h1 : SqL K H p (ns.map V.int)) (h2 : SqL K H p' (ms.map V.int)) (q : Q (.bl (decide (ns = ms))) H) : rEqD K (.ref p) (.ref p') H Q :=
  rd_eqDI h1 h2 shaped_list shaped_list (by
    have e : PyData.eqv (.list (ns.map PyData.int)) (.list (ms.map PyData.int)) = decide (ns = ms) := by rw [← eqvAll_ints]; simp only [PyData.eqv]
    rw [e]; exact q)
theorem rd_neLI {K : PySem.W.Frag} {H : Hp} {Q : VK} {p p' : Addr} {ns ms : List Int} (h1 : SqL K H p (ns.map V.int)) (h2 : SqL K H p' (ms.map V.int)) (q : Q (.bl (!decide (ns = ms))) H) : rNeD K (.ref p) (.ref p') H Q :=
  rd_neDI h1 h2 shaped_list shaped_list (by
    have e : PyData.eqv (.list (ns.map PyData.int)) (.list (ms.map PyData.int)) = decide (ns = ms) := by rw [← eqvAll_ints]; simp only [PyData.eqv]
    rw [e]; exact q)
theorem rd_neTI {K : PySem.W.Frag} {H : Hp} {Q : VK} {p p' : Addr} {ns ms : List Int} (h1 : H p = some (.tup (ns.map V.int))) (h2 : H p' = some (.tup (ms.map V.int))) (q : Q (.bl (!decide (ns = ms))) H) : rNeD K (.ref p) (.ref p') H Q :=
  rd_neDT h1 h2 (by
    have e : PyData.eqv (.tuple (ns.map PyData.int)) (.tuple (ms.map PyData.int)) = decide (ns = ms) := by rw [← eqvAll_ints]; simp only [PyData.eqv]
    rw [e]; exact q)
theorem mm_setdT : MonM rSetdT := fun x y H Q Q' h ⟨d, t, k, z, tab, e1, e2, e3, e4, e5, q1, q2⟩ => ⟨d, t, k, z, tab, e1, e2, e3, e4, e5, fun v hv => h _ _ (q1 v hv), fun hv => h _ _ (q2 hv)⟩
theorem mr_neD {K : PySem.W.Frag} : MonR (rNeD K) := fun x y H Q Q' h ⟨a, b, e1, e2, e3, e4, q⟩ => ⟨a, b, e1, e2, e3, e4, h _ _ q⟩
theorem mr_eqD {K : PySem.W.Frag} : MonR (rEqD K) := fun x y H Q Q' h ⟨a, b, e1, e2, e3, e4, q⟩ => ⟨a, b, e1, e2, e3, e4, h _ _ q⟩
/-! own objects beside a grove: lists, dicts -/
structure OwnO (a : GA) (rows : List (Int × Addr)) (H : Hp) (l : List (Addr × HO)) : Prop where
  nd : (l.map (·.1)).Nodup
  at_ : ∀ p o, (p, o) ∈ l → H p = some o
  mv : ∀ p o, (p, o) ∈ l → ¬ HO.still o
  out : ∀ p o, (p, o) ∈ l → p ∉ a.muts rows
theorem OwnO.same {a : GA} {rows : List (Int × Addr)} {H H' : Hp} {l : List (Addr × HO)} (h : OwnO a rows H l) (s : Same H H') : OwnO a rows H' l := ⟨h.nd, fun p xs m => s _ _ (h.at_ p xs m), h.mv, h.out⟩
theorem OwnO.step {C : Addr} {H H1 : Hp} {a : GA} {rows r1 : List (Int × Addr)} {q q1 : List Sq} {l : List (Addr × HO)} (h : OwnO a rows H l) (x : GStep C H a rows q H1 r1 q1) : OwnO a r1 H1 l :=
  ⟨h.nd, fun p xs m => (x.own (h.at_ p xs m) (h.out p xs m)).1, h.mv, fun p xs m => (x.own (h.at_ p xs m) (h.out p xs m)).2⟩
theorem OwnO.nil {a : GA} {rows : List (Int × Addr)} {H : Hp} : OwnO a rows H [] := ⟨by simp, fun _ _ m => by simp at m, fun _ _ m => by simp at m, fun _ _ m => by simp at m⟩
theorem OwnO.new {C : Addr} {a : GA} {rows : List (Int × Addr)} {q : List Sq} {H : Hp} {l : List (Addr × HO)} {p : Addr} {o : HO} (h : OwnO a rows H l) (G : GAt C H a rows q) (hp : H p = none) (ho : ¬ HO.still o) : OwnO a rows (upd H p o) ((p, o) :: l) := by
  refine ⟨?_, fun p' ys m => ?_, fun p' ys m => ?_, fun p' ys m => ?_⟩
  · rw [List.map_cons, List.nodup_cons]
    refine ⟨fun z => ?_, h.nd⟩
    obtain ⟨⟨p', ys⟩, m, e⟩ := List.mem_map.mp z
    have e' : p' = p := e
    subst e'
    rw [h.at_ _ _ m] at hp
    cases hp
  · rcases List.mem_cons.mp m with m | m
    · cases m; exact upd_same
    · exact same_upd hp _ _ (h.at_ _ _ m)
  · rcases List.mem_cons.mp m with m | m
    · cases m; exact ho
    · exact h.mv _ _ m
  · rcases List.mem_cons.mp m with m | m
    · cases m; exact G.new_out hp
    · exact h.out _ _ m
theorem OwnO.ix {a : GA} {rows : List (Int × Addr)} {H : Hp} {l : List (Addr × HO)} {p : Addr} {o : HO} (h : OwnO a rows H l) (i : Nat) (e : l[i]? = some (p, o)) : H p = some o := h.at_ p o (List.mem_of_getElem? e)
theorem mem_set {α : Type} {l : List α} {i : Nat} {y x : α} (h : x ∈ l.set i y) : x = y ∨ ∃ j, j ≠ i ∧ l[j]? = some x := by
  obtain ⟨j, hj, e⟩ := List.mem_iff_getElem.mp h
  by_cases z : i = j
  · subst z; left; rw [← e, List.getElem_set_self]
  · right
    refine ⟨j, Ne.symm z, ?_⟩
    rw [List.getElem_set_ne z] at e
    rw [List.length_set] at hj
    rw [at_get hj, e]
theorem OwnO.ne {a : GA} {rows : List (Int × Addr)} {H : Hp} {l : List (Addr × HO)} (h : OwnO a rows H l) {i j : Nat} {p p' : Addr} {o o' : HO} (e : l[i]? = some (p, o)) (e' : l[j]? = some (p', o')) (n : j ≠ i) : p' ≠ p := fun z => by
  obtain ⟨hi, ei⟩ := List.getElem?_eq_some_iff.mp e
  obtain ⟨hj, ej⟩ := List.getElem?_eq_some_iff.mp e'
  exact n ((List.getElem_inj (xs := l.map (·.1)) (h₀ := by simpa using hj) (h₁ := by simpa using hi) h.nd).mp (by simp [ei, ej, z]))
theorem OwnO.put {a : GA} {rows : List (Int × Addr)} {H : Hp} {l : List (Addr × HO)} {p : Addr} {o : HO} (h : OwnO a rows H l) (i : Nat) (e : l[i]? = some (p, o)) (o' : HO) (ho : ¬ HO.still o') : OwnO a rows (upd H p o') (l.set i (p, o')) := by
  have nd' : ((l.set i (p, o')).map (·.1)) = l.map (·.1) := by
    rw [List.map_set]
    obtain ⟨hi, ei⟩ := List.getElem?_eq_some_iff.mp e
    refine List.ext_getElem (by simp) fun j h1 h2 => ?_
    by_cases z : i = j
    · subst z; simp [ei]
    · rw [List.getElem_set_ne z]
  have cases_ : ∀ p' u, (p', u) ∈ l.set i (p, o') → (p' = p ∧ u = o') ∨ (p' ≠ p ∧ (p', u) ∈ l) := fun p' u m => by
    rcases mem_set m with m | ⟨j, hj, m⟩
    · cases m; exact .inl ⟨rfl, rfl⟩
    · exact .inr ⟨h.ne e m hj, List.mem_of_getElem? m⟩
  refine ⟨by rw [nd']; exact h.nd, fun p' u m => ?_, fun p' u m => ?_, fun p' u m => ?_⟩
  · rcases cases_ p' u m with ⟨rfl, rfl⟩ | ⟨n, m⟩
    · exact upd_same
    · rw [upd_ne n]; exact h.at_ _ _ m
  · rcases cases_ p' u m with ⟨rfl, rfl⟩ | ⟨n, m⟩
    · exact ho
    · exact h.mv _ _ m
  · rcases cases_ p' u m with ⟨rfl, rfl⟩ | ⟨n, m⟩
    · exact h.out _ o (List.mem_of_getElem? e)
    · exact h.out _ _ m
theorem GAt.ownO {C : Addr} {H : Hp} {a : GA} {rows : List (Int × Addr)} {q : List Sq} {l : List (Addr × HO)} {p : Addr} {o : HO} (G : GAt C H a rows q) (h : OwnO a rows H l) (i : Nat) (e : l[i]? = some (p, o)) (o' : HO) : GAt C (L2.upd H p o') a rows q :=
  G.upd (fun u e' => by rw [h.ix i e] at e'; cases e'; exact h.mv _ _ (List.mem_of_getElem? e)) (h.out _ _ (List.mem_of_getElem? e))
theorem OwnO.tup {a : GA} {rows : List (Int × Addr)} {H : Hp} {l : List (Addr × HO)} {p : Addr} {o : HO} (h : OwnO a rows H l) (i : Nat) (e : l[i]? = some (p, o)) (o' : HO) : Tup H (L2.upd H p o') := fun b ys e' => by
  rw [upd_ne (by rintro rfl; rw [h.ix i e] at e'; cases e'; exact h.mv _ _ (List.mem_of_getElem? e) trivial)]; exact e'
/-! the law's promise -/
def sp_law (K : PySem.W.Frag) : Sp := fun vs H Q _ => ∃ (a : Addr) (ns : List Int), vs = [.ref a] ∧ SqL K H a (ns.map V.int) ∧ ns.length ≤ 63 ∧ Only H ∧ ∀ H', Q (.bl true) H'
theorem sp_law_in {K : PySem.W.Frag} (H : Hp) (a : Addr) (ns : List Int) (hl : ns.length ≤ 63) (hO : Only H) (hS : SqL K H a (ns.map V.int)) : sp_law K [.ref a] H (fun v _ => v = .bl true) (fun _ _ _ => False) := ⟨a, ns, rfl, hS, hl, hO, fun _ => rfl⟩
theorem shl_ok {i : Nat} : (1 : Int) * 2 ^ ((i : Int)).toNat = 2 ^ i := by rw [Int.one_mul, Int.toNat_natCast]
/-! solid squares: what lives, the span -/
theorem even_none : ∀ l : Nat, (Sq.even l 0).lives = 0 ∧ (Sq.even l 0).span = none
  | 0 => ⟨rfl, rfl⟩
  | l + 1 => by
    obtain ⟨h1, h2⟩ := even_none l
    refine ⟨?_, ?_⟩
    · show (Sq.even l 0).lives + (Sq.even l 0).lives + (Sq.even l 0).lives + (Sq.even l 0).lives = 0
      rw [h1]; rfl
    · show r4 _ (Sq.even l 0).span (Sq.even l 0).span (Sq.even l 0).span (Sq.even l 0).span = none
      rw [h2]; rfl
theorem even_some {s : Int} (hs : s ≠ 0) : ∀ l : Nat, (Sq.even l s).lives = 2 ^ l * 2 ^ l ∧ (Sq.even l s).span = some (0, 0, 2 ^ l, 2 ^ l)
  | 0 => by simp [Sq.even, Sq.lives, Sq.span, hs]
  | l + 1 => by
    obtain ⟨h1, h2⟩ := even_some hs l
    have e : (2 : Int) ^ (l + 1) = 2 * 2 ^ l := by rw [Int.pow_succ]; omega
    have h0 : (0 : Int) < 2 ^ l := Int.pow_pos (by decide)
    refine ⟨?_, ?_⟩
    · show (Sq.even l s).lives + (Sq.even l s).lives + (Sq.even l s).lives + (Sq.even l s).lives = _
      rw [h1, e]
      generalize (2 : Int) ^ l = h
      have e2 : 2 * h * (2 * h) = 4 * (h * h) := by rw [Int.mul_assoc, Int.mul_left_comm h 2 h, ← Int.mul_assoc]; rfl
      rw [e2]; omega
    · show r4 (2 ^ (Sq.even l s).level) (Sq.even l s).span (Sq.even l s).span (Sq.even l s).span (Sq.even l s).span = _
      rw [h2, Sq.level_even, e]
      generalize (2 : Int) ^ l = h at h0
      simp only [r4, r4step, rb, Option.some.injEq, Prod.mk.injEq]
      refine ⟨?_, ?_, ?_, ?_⟩ <;> omega
theorem even_inj {s s' : Int} : ∀ {l l' : Nat}, Sq.even l s = Sq.even l' s' → l = l' ∧ s = s'
  | 0, 0, h => by cases h; exact ⟨rfl, rfl⟩
  | 0, _ + 1, h => by cases h
  | _ + 1, 0, h => by cases h
  | l + 1, l' + 1, h => by
    injection h with h1
    obtain ⟨a, b⟩ := even_inj h1
    exact ⟨by rw [a], b⟩
theorem pow64 {i : Nat} (h : i ≤ 60) : (0 : Int) < 2 ^ i ∧ (2 : Int) ^ i < 2 ^ 64 := by
  refine ⟨Int.pow_pos (by decide), ?_⟩
  have e2 : 2 ^ i < 2 ^ 64 := Nat.pow_lt_pow_right (by decide) (by omega)
  exact_mod_cast e2
theorem sq_ok {i : Nat} (h : i ≤ 60) : CMulW ((2 : Int) ^ i) (2 ^ i) := by
  obtain ⟨h1, h2⟩ := pow64 h
  have e1 : (2 : Int) ^ 64 ≤ 2 ^ 2000 := by decide +kernel
  exact mulW_of (by omega) (by omega) (by omega) (by omega)
section
variable {P : Program} {w : World} {K : PySem.W.Frag} {mg : Str → Option Value} {base : Heap}
def sp_same : Sp := fun vs H Q _ => ∃ i d : Int, vs = [.int i, .int d] ∧ Q (.bl (decide (i = d))) H
theorem mp_same : MonP sp_same := fun vs H Q Q' E h ⟨i, d, x1, q⟩ => ⟨i, d, x1, h _ _ q⟩
theorem sp_sameT {i : Int} {H : Hp} {Q : VK} {E : XK} (q : Q (.bl true) H) : sp_same [.int i, .int i] H Q E := ⟨i, i, rfl, by rw [decide_eq_true rfl]; exact q⟩
end
end JF

/-! ### fields: the mathematics of cells in squares, no program in sight -/
namespace JF
open PySem PySem.Spec PyProof.Rows L2
namespace Sq
def get : Sq → Int → Int → Int
  | leaf s, _, _ => s
  | node a b c d, x, y => if y < 2 ^ a.level then (if x < 2 ^ a.level then a.get x y else b.get (x - 2 ^ a.level) y) else (if x < 2 ^ a.level then c.get x (y - 2 ^ a.level) else d.get (x - 2 ^ a.level) (y - 2 ^ a.level))
def put : Sq → Int → Int → Int → Sq
  | leaf _, _, _, s => leaf s
  | node a b c d, x, y, s => if y < 2 ^ a.level then (if x < 2 ^ a.level then node (a.put x y s) b c d else node a (b.put (x - 2 ^ a.level) y s) c d)
      else (if x < 2 ^ a.level then node a b (c.put x (y - 2 ^ a.level) s) d else node a b c (d.put (x - 2 ^ a.level) (y - 2 ^ a.level) s))
theorem level_put (s : Int) : ∀ (S : Sq) (x y : Int), (S.put x y s).level = S.level
  | leaf _, _, _ => rfl
  | node a b c d, x, y => by
    unfold put
    split <;> split
    · exact congrArg (· + 1) (level_put s a x y)
    · rfl
    · rfl
    · rfl
theorem wf_put {s : Int} (h0 : 0 ≤ s) (h7 : s ≤ 7) : ∀ {S : Sq} (x y : Int), S.wf → (S.put x y s).wf
  | leaf _, _, _, _ => ⟨h0, h7⟩
  | node a b c d, x, y, ⟨wa, wb, wc, wd, e1, e2, e3⟩ => by
    unfold put
    split <;> split
    · exact ⟨wf_put h0 h7 _ _ wa, wb, wc, wd, by rw [level_put]; exact e1, by rw [level_put]; exact e2, by rw [level_put]; exact e3⟩
    · exact ⟨wa, wf_put h0 h7 _ _ wb, wc, wd, by rw [level_put]; exact e1, e2, e3⟩
    · exact ⟨wa, wb, wf_put h0 h7 _ _ wc, wd, e1, by rw [level_put]; exact e2, e3⟩
    · exact ⟨wa, wb, wc, wf_put h0 h7 _ _ wd, e1, e2, by rw [level_put]; exact e3⟩
theorem two_succ (n : Nat) : (2 : Int) ^ (n + 1) = 2 * 2 ^ n := by rw [Int.pow_succ]; omega
theorem two_pos (n : Nat) : (0 : Int) < 2 ^ n := Int.pow_pos (by decide)
theorem get_put {s : Int} : ∀ {S : Sq} {x y u v : Int}, S.wf → 0 ≤ x → x < 2 ^ S.level → 0 ≤ y → y < 2 ^ S.level → 0 ≤ u → u < 2 ^ S.level → 0 ≤ v → v < 2 ^ S.level → (S.put x y s).get u v = if u = x ∧ v = y then s else S.get u v
  | leaf r, x, y, u, v, _, h1, h2, h3, h4, h5, h6, h7, h8 => by
    have e : (2 : Int) ^ (leaf r).level = 1 := rfl
    rw [e] at h2 h4 h6 h8
    rw [if_pos (by omega)]; rfl
  | node a b c d, x, y, u, v, ⟨wa, wb, wc, wd, e1, e2, e3⟩, h1, h2, h3, h4, h5, h6, h7, h8 => by
    have e : (2 : Int) ^ (node a b c d).level = 2 * 2 ^ a.level := two_succ _
    rw [e] at h2 h4 h6 h8
    have ia := fun x y u v => @get_put s a x y u v wa
    have ib := fun x y u v => @get_put s b x y u v wb
    have ic := fun x y u v => @get_put s c x y u v wc
    have id_ := fun x y u v => @get_put s d x y u v wd
    rw [e1] at ib; rw [e2] at ic; rw [e3] at id_
    have la := level_put s a x y
    unfold put
    generalize hh : (2 : Int) ^ a.level = h at *
    by_cases cy : y < h <;> by_cases cx : x < h
    · rw [if_pos cy, if_pos cx]
      unfold get
      rw [la, hh]
      by_cases cv : v < h <;> by_cases cu : u < h
      · simp only [cv, cu, if_true, if_false]; rw [ia x y u v h1 cx h3 cy h5 cu h7 cv]
      · simp only [cv, cu, if_true, if_false]; rw [if_neg (by omega)]
      · simp only [cv, cu, if_true, if_false]; rw [if_neg (by omega)]
      · simp only [cv, cu, if_true, if_false]; rw [if_neg (by omega)]
    · rw [if_pos cy, if_neg cx]
      unfold get
      rw [hh]
      by_cases cv : v < h <;> by_cases cu : u < h
      · simp only [cv, cu, if_true, if_false]; rw [if_neg (by omega)]
      · simp only [cv, cu, if_true, if_false]; rw [ib (x - h) y (u - h) v (by omega) (by omega) h3 cy (by omega) (by omega) h7 cv]
        by_cases z : u = x ∧ v = y
        · rw [if_pos z, if_pos (by omega)]
        · rw [if_neg z, if_neg (by omega)]
      · simp only [cv, cu, if_true, if_false]; rw [if_neg (by omega)]
      · simp only [cv, cu, if_true, if_false]; rw [if_neg (by omega)]
    · rw [if_neg cy, if_pos cx]
      unfold get
      rw [hh]
      by_cases cv : v < h <;> by_cases cu : u < h
      · simp only [cv, cu, if_true, if_false]; rw [if_neg (by omega)]
      · simp only [cv, cu, if_true, if_false]; rw [if_neg (by omega)]
      · simp only [cv, cu, if_true, if_false]; rw [ic x (y - h) u (v - h) h1 cx (by omega) (by omega) h5 cu (by omega) (by omega)]
        by_cases z : u = x ∧ v = y
        · rw [if_pos z, if_pos (by omega)]
        · rw [if_neg z, if_neg (by omega)]
      · simp only [cv, cu, if_true, if_false]; rw [if_neg (by omega)]
    · rw [if_neg cy, if_neg cx]
      unfold get
      rw [hh]
      by_cases cv : v < h <;> by_cases cu : u < h
      · simp only [cv, cu, if_true, if_false]; rw [if_neg (by omega)]
      · simp only [cv, cu, if_true, if_false]; rw [if_neg (by omega)]
      · simp only [cv, cu, if_true, if_false]; rw [if_neg (by omega)]
      · simp only [cv, cu, if_true, if_false]; rw [id_ (x - h) (y - h) (u - h) (v - h) (by omega) (by omega) (by omega) (by omega) (by omega) (by omega) (by omega) (by omega)]
        by_cases z : u = x ∧ v = y
        · rw [if_pos z, if_pos (by omega)]
        · rw [if_neg z, if_neg (by omega)]
/-- the cell at a place, the square set about the middle -/
def half (S : Sq) : Int := 2 ^ (S.level - 1)
def val (S : Sq) (x y : Int) : Int := if -S.half ≤ x ∧ x < S.half ∧ -S.half ≤ y ∧ y < S.half then S.get (x + S.half) (y + S.half) else 0
theorem get_even (s : Int) : ∀ (l : Nat) (x y : Int), (even l s).get x y = s
  | 0, _, _ => rfl
  | l + 1, x, y => by
    unfold even get
    split <;> split <;> exact get_even s l _ _
theorem val_even0 (l : Nat) (x y : Int) : (even l 0).val x y = 0 := by
  unfold val
  split
  · exact get_even 0 l _ _
  · rfl
def wide : Sq → Sq
  | leaf s => leaf s
  | node a b c d => node (node (even a.level 0) (even a.level 0) (even a.level 0) a) (node (even a.level 0) (even a.level 0) b (even a.level 0)) (node (even a.level 0) c (even a.level 0) (even a.level 0)) (node d (even a.level 0) (even a.level 0) (even a.level 0))
theorem node_of {S : Sq} (h : 1 ≤ S.level) : ∃ a b c d, S = node a b c d := by
  cases S with
  | leaf s => simp [level] at h
  | node a b c d => exact ⟨a, b, c, d, rfl⟩
theorem level_wide {S : Sq} (h : 1 ≤ S.level) : S.wide.level = S.level + 1 := by
  obtain ⟨a, b, c, d, rfl⟩ := node_of h
  show (even a.level 0).level + 1 + 1 = a.level + 1 + 1
  rw [level_even]
theorem wf_wide {S : Sq} (w : S.wf) : S.wide.wf := by
  cases S with
  | leaf s => exact w
  | node a b c d =>
    obtain ⟨wa, wb, wc, wd, e1, e2, e3⟩ := w
    have we : (even a.level 0).wf := wf_even (by decide) (by decide) _
    have le : (even a.level 0).level = a.level := level_even _ _
    exact ⟨⟨we, we, we, wa, rfl, rfl, le.symm⟩, ⟨we, we, wb, we, rfl, by rw [e1, le], rfl⟩, ⟨we, wc, we, we, by rw [e2, le], rfl, rfl⟩, ⟨wd, we, we, we, by rw [e3, le], by rw [e3, le], by rw [e3, le]⟩, rfl, rfl, by show d.level + 1 = (even a.level 0).level + 1; rw [e3, le]⟩
theorem half_node (a b c d : Sq) : (node a b c d).half = 2 ^ a.level := rfl
set_option maxHeartbeats 4000000 in
theorem val_wide {S : Sq} (w : S.wf) (h : 1 ≤ S.level) (x y : Int) : S.wide.val x y = S.val x y := by
  obtain ⟨a, b, c, d, rfl⟩ := node_of h
  obtain ⟨wa, wb, wc, wd, e1, e2, e3⟩ := w
  have le : (even a.level 0).level = a.level := level_even _ _
  have hw : (wide (node a b c d)).half = 2 * 2 ^ a.level := by
    show (2 : Int) ^ ((even a.level 0).level + 1) = _
    rw [le]; exact two_succ _
  unfold val
  rw [hw, half_node]
  have n1 : (node (even a.level 0) (even a.level 0) (even a.level 0) a).level = a.level + 1 := by show (even a.level 0).level + 1 = _; rw [le]
  have h0 := two_pos a.level
  have e2' := two_succ a.level
  unfold wide
  simp only [get, n1, le, e3, get_even, e2']
  generalize (2 : Int) ^ a.level = h at *
  repeat' split
  all_goals first | rfl | omega | (congr 1 <;> omega)
/-! the middle, what is trimmed -/
def mid : Sq → Sq
  | node (node _ _ _ a) (node _ _ b _) (node _ c _ _) (node d _ _ _) => node a b c d
  | S => S
theorem mid_form {S : Sq} (w : S.wf) (h : 2 ≤ S.level) : ∃ a1 a2 a3 a4 b1 b2 b3 b4 c1 c2 c3 c4 d1 d2 d3 d4, S = node (node a1 a2 a3 a4) (node b1 b2 b3 b4) (node c1 c2 c3 c4) (node d1 d2 d3 d4) := by
  obtain ⟨a, b, c, d, rfl⟩ := node_of (by omega : 1 ≤ S.level)
  obtain ⟨wa, wb, wc, wd, e1, e2, e3⟩ := w
  have h' : 1 ≤ a.level := by have z : (node a b c d).level = a.level + 1 := rfl; omega
  obtain ⟨a1, a2, a3, a4, rfl⟩ := node_of h'
  obtain ⟨b1, b2, b3, b4, rfl⟩ := node_of (by omega : 1 ≤ b.level)
  obtain ⟨c1, c2, c3, c4, rfl⟩ := node_of (by omega : 1 ≤ c.level)
  obtain ⟨d1, d2, d3, d4, rfl⟩ := node_of (by omega : 1 ≤ d.level)
  exact ⟨_, _, _, _, _, _, _, _, _, _, _, _, _, _, _, _, rfl⟩
theorem wf_mid {S : Sq} (w : S.wf) (h : 2 ≤ S.level) : S.mid.wf ∧ S.mid.level + 1 = S.level := by
  obtain ⟨a1, a2, a3, a4, b1, b2, b3, b4, c1, c2, c3, c4, d1, d2, d3, d4, rfl⟩ := mid_form w h
  obtain ⟨wa, wb, wc, wd, e1, e2, e3⟩ := w
  simp only [wf] at wa wb wc wd
  simp only [level] at e1 e2 e3
  refine ⟨⟨wa.2.2.2.1, wb.2.2.1, wc.2.1, wd.1, ?_, ?_, ?_⟩, ?_⟩
  · omega
  · omega
  · omega
  · show a4.level + 1 + 1 = a1.level + 1 + 1
    omega
theorem lives_zero : ∀ {S : Sq}, S.wf → S.lives = 0 → ∀ x y, S.get x y = 0
  | leaf s, _, h, _, _ => by
    unfold lives at h
    split at h
    · assumption
    · cases h
  | node a b c d, ⟨wa, wb, wc, wd, _, _, _⟩, h, x, y => by
    have n1 := a.lives_nonneg; have n2 := b.lives_nonneg; have n3 := c.lives_nonneg; have n4 := d.lives_nonneg
    unfold lives at h
    unfold get
    split <;> split
    · exact lives_zero wa (by omega) _ _
    · exact lives_zero wb (by omega) _ _
    · exact lives_zero wc (by omega) _ _
    · exact lives_zero wd (by omega) _ _
set_option maxHeartbeats 8000000 in
theorem val_mid {S : Sq} (w : S.wf) (h : 2 ≤ S.level) (hl : ¬ S.mid.lives < S.lives) (x y : Int) : S.mid.val x y = S.val x y := by
  obtain ⟨a1, a2, a3, a4, b1, b2, b3, b4, c1, c2, c3, c4, d1, d2, d3, d4, rfl⟩ := mid_form w h
  obtain ⟨wa, wb, wc, wd, e1, e2, e3⟩ := w
  simp only [wf] at wa wb wc wd
  simp only [level] at e1 e2 e3
  simp only [mid, lives] at hl
  have na1 := a1.lives_nonneg; have na2 := a2.lives_nonneg; have na3 := a3.lives_nonneg
  have nb1 := b1.lives_nonneg; have nb2 := b2.lives_nonneg; have nb4 := b4.lives_nonneg
  have nc1 := c1.lives_nonneg; have nc3 := c3.lives_nonneg; have nc4 := c4.lives_nonneg
  have nd2 := d2.lives_nonneg; have nd3 := d3.lives_nonneg; have nd4 := d4.lives_nonneg
  have za1 := lives_zero wa.1 (by omega); have za2 := lives_zero wa.2.1 (by omega); have za3 := lives_zero wa.2.2.1 (by omega)
  have zb1 := lives_zero wb.1 (by omega); have zb2 := lives_zero wb.2.1 (by omega); have zb4 := lives_zero wb.2.2.2.1 (by omega)
  have zc1 := lives_zero wc.1 (by omega); have zc3 := lives_zero wc.2.2.1 (by omega); have zc4 := lives_zero wc.2.2.2.1 (by omega)
  have zd2 := lives_zero wd.2.1 (by omega); have zd3 := lives_zero wd.2.2.1 (by omega); have zd4 := lives_zero wd.2.2.2.1 (by omega)
  have l4 : a4.level = a1.level := by omega
  have lb : b1.level = a1.level := by omega
  have lc : c1.level = a1.level := by omega
  have ld : d1.level = a1.level := by omega
  have h0 := two_pos a1.level
  have e2' := two_succ a1.level
  unfold val
  simp only [mid, half_node, level, get, za1, za2, za3, zb1, zb2, zb4, zc1, zc3, zc4, zd2, zd3, zd4, l4, lb, lc, ld, e2']
  generalize (2 : Int) ^ a1.level = h at *
  repeat' split
  all_goals first | rfl | omega | (congr 1 <;> omega)
def trimN : Nat → Sq → Sq
  | 0, S => S
  | n + 1, S => if S.level ≤ 1 then S else if S.mid.lives < S.lives then S else trimN n S.mid
def trim (S : Sq) : Sq := trimN S.level S
/-- nothing more is to be trimmed -/
def Least (S : Sq) : Prop := S.level = 1 ∨ 2 ≤ S.level ∧ S.mid.lives < S.lives
theorem trimN_ok : ∀ (n : Nat) {S : Sq}, S.wf → 1 ≤ S.level → S.level ≤ n → (trimN n S).wf ∧ 1 ≤ (trimN n S).level ∧ (trimN n S).level ≤ S.level ∧ (trimN n S).Least ∧ ∀ x y, (trimN n S).val x y = S.val x y
  | 0, S, _, h1, h2 => by omega
  | n + 1, S, w, h1, h2 => by
    unfold trimN
    by_cases z : S.level ≤ 1
    · rw [if_pos z]
      exact ⟨w, h1, Nat.le_refl _, .inl (by omega), fun _ _ => rfl⟩
    · rw [if_neg z]
      by_cases y : S.mid.lives < S.lives
      · rw [if_pos y]
        exact ⟨w, h1, Nat.le_refl _, .inr ⟨by omega, y⟩, fun _ _ => rfl⟩
      · rw [if_neg y]
        obtain ⟨wm, lm⟩ := wf_mid w (by omega)
        obtain ⟨g1, g2, g3, g4, g5⟩ := trimN_ok n wm (by omega) (by omega)
        exact ⟨g1, g2, by omega, g4, fun u v => (g5 u v).trans (val_mid w (by omega) y u v)⟩
/-- enough turns are enough -/
theorem trimN_more : ∀ (n m : Nat) {S : Sq}, S.wf → 1 ≤ S.level → S.level ≤ n → S.level ≤ m → trimN n S = trimN m S
  | 0, m, S, _, h1, h2, _ => by omega
  | n + 1, 0, S, _, h1, _, h2 => by omega
  | n + 1, m + 1, S, w, h1, h2, h3 => by
    unfold trimN
    split
    · rfl
    · split
      · rfl
      · rename_i z _
        obtain ⟨wm, lm⟩ := wf_mid w (by omega)
        exact trimN_more n m wm (by omega) (by omega) (by omega)
theorem trim_mid {S : Sq} (w : S.wf) (h : 2 ≤ S.level) (y : ¬ S.mid.lives < S.lives) : S.trim = S.mid.trim := by
  obtain ⟨wm, lm⟩ := wf_mid w h
  unfold trim
  have e : S.level = S.mid.level + 1 := lm.symm
  rw [e]
  show (if S.level ≤ 1 then S else if S.mid.lives < S.lives then S else trimN S.mid.level S.mid) = _
  rw [if_neg (by omega), if_neg y]
theorem trim_self {S : Sq} (h : S.Least) : S.trim = S := by
  unfold trim
  cases e : S.level with
  | zero => rfl
  | succ n =>
    show (if S.level ≤ 1 then S else if S.mid.lives < S.lives then S else trimN n S.mid) = _
    rcases h with h | ⟨h, y⟩
    · rw [if_pos (by omega)]
    · rw [if_neg (by omega), if_pos y]
end Sq
end JF

/-! ### fields: the program's defs -/
namespace JF
open PySem PySem.Spec PyProof.Rows L2
theorem while_m {c : TT} {t : TS} {D : Ends} {σ : L2.St} {H : Hp} (W : Nat → L2.St → Hp → Prop) (m0 : Nat) (h0 : W m0 σ H)
    (hs : ∀ m σ H, W m σ H → c σ H fun k H1 => if k = true then ∃ N : L2.St → Hp → Prop, (∀ σ' H', N σ' H' → ∃ m', m' < m ∧ W m' σ' H') ∧ t { D with nx := N, ct := N, bk := D.nx } σ H1 else D.nx σ H1) : tWhile c t D σ H := ⟨W, ⟨m0, h0⟩, hs⟩
theorem div_lo {y h : Int} (h0 : 0 ≤ y) (h1 : y < h) : y / h = 0 ∧ y % h = y := (Int.ediv_emod_unique (by omega)).mpr ⟨by omega, h0, h1⟩
theorem div_hi {y h : Int} (h0 : h ≤ y) (h1 : y < 2 * h) : y / h = 1 ∧ y % h = y - h := (Int.ediv_emod_unique (by omega)).mpr ⟨by omega, by omega, by omega⟩
theorem small_mul {a b : Int} (h1 : -1000000 < a) (h2 : a < 1000000) (h3 : -(2 ^ 100) < b) (h4 : b < 2 ^ 100) : CMulW a b := by
  have e1 : (2 : Int) ^ 100 ≤ 2 ^ 2000 := by decide +kernel
  have e2 : (1000000 : Int) ≤ 2 ^ 2000 := by decide +kernel
  exact mulW_of (by omega) (by omega) (by omega) (by omega)
theorem pow64' {i : Nat} (h : i ≤ 60) : (0 : Int) < 2 ^ i ∧ (2 : Int) ^ i < 2 ^ 64 := by
  refine ⟨Int.pow_pos (by decide), ?_⟩
  have e2 : 2 ^ i < 2 ^ 64 := Nat.pow_lt_pow_right (by decide) (by omega)
  exact_mod_cast e2
theorem shl_ok' {i : Nat} : (1 : Int) * 2 ^ ((i : Int)).toNat = 2 ^ i := by rw [Int.one_mul, Int.toNat_natCast]
section
variable {P : Program} {w : World} {K : PySem.W.Frag} {mg : Str → Option Value} {base : Heap}
def InGround (x y : Int) : Prop := -1099511627776 ≤ x ∧ x < 1099511627776 ∧ -1099511627776 ≤ y ∧ y < 1099511627776
def sp_in_ground : Sp := fun vs H Q _ => ∃ x y : Int, vs = [.int x, .int y] ∧ InGround x y ∧ Q (.bl true) H
theorem ok_in_ground (T : Env fa fn K mg) : Good P w K mg base CX0 1 ("in_ground", none) ["x", "y"] sp_in_ground := by
  refine good_mk T 20 (d := d_in_ground) (N := ["x", "y"]) (ps := ["x", "y"]) rfl rfl sc_in_ground (fun _ _ _ _ _ _ us hl => match us, hl with | [_, _], _ => rfl) (fun vs H Q E h => ?_) (fun f cdv A outer σ0 H vs Q E hr h => ?_)
  · obtain ⟨x, y, rfl, _⟩ := h; rfl
  · obtain ⟨x, y, rfl, ⟨h1, h2, h3, h4⟩, k⟩ := h
    refine ⟨_, (pss_one (ps_ret (pe_and (pe_chain op_le op_lt (pe_un un_neg (pe_gint (T.int 22) rfl)) (pv 0) (pe_gint (T.int 22) rfl)) (pe_one (pe_chain op_le op_lt (pe_un un_neg (pe_gint (T.int 22) rfl)) (pv 1) (pe_gint (T.int 22) rfl)))))), ?_⟩
    walk_at "rd"
    rw [decide_eq_true h1]
    walk_at "rd"
    rw [decide_eq_true h2]
    walk_at "rd"
    rw [decide_eq_true h3]
    walk_at "rd"
    rw [decide_eq_true h4]
    exact k
/-- one corner of each of four -/
def sp_meeting (C : Addr) : Sp := fun vs H Q _ => ∃ (a : GA) (rows : List (Int × Addr)) (q : List Sq) (na nb nc nd : Nat) (a1 a2 a3 a4 b1 b2 b3 b4 c1 c2 c3 c4 d1 d2 d3 d4 : Sq), vs = [.ref a.g, .int (na : Int), .int (nb : Int), .int (nc : Int), .int (nd : Int)] ∧ GAt C H a rows q ∧
  q[na]? = some (.node a1 a2 a3 a4) ∧ q[nb]? = some (.node b1 b2 b3 b4) ∧ q[nc]? = some (.node c1 c2 c3 c4) ∧ q[nd]? = some (.node d1 d2 d3 d4) ∧ (Sq.node a4 b3 c2 d1).wf ∧ a4.level ≤ 60 ∧ q.length < 16000000 ∧
  ∀ H' q' (n : Nat), GAt C H' a rows q' → q <+: q' → q'.length ≤ q.length + 1 → q'[n]? = some (.node a4 b3 c2 d1) → Fr a.m5 H H' → Q (.int (n : Int)) H'
theorem mp_meeting {C : Addr} : MonP (sp_meeting C) := fun vs H Q Q' E h ⟨a, rows, q, na, nb, nc, nd, a1, a2, a3, a4, b1, b2, b3, b4, c1, c2, c3, c4, d1, d2, d3, d4, x1, x2, x3, x4, x5, x6, x7, x8, x9, k⟩ =>
  ⟨a, rows, q, na, nb, nc, nd, a1, a2, a3, a4, b1, b2, b3, b4, c1, c2, c3, c4, d1, d2, d3, d4, x1, x2, x3, x4, x5, x6, x7, x8, x9, fun H' q' n g p l e f => h _ _ (k H' q' n g p l e f)⟩
theorem ok_meeting (T : Env fa fn K mg) : Good P w K mg base CX0 4 ("meeting", none) ["grove", "a", "b", "c", "d"] (sp_meeting (CG K)) := by
  have G_Grove_quarters := ok_quarters (P := P) (w := w) (base := base) T
  have G_Grove_knit := ok_knit (P := P) (w := w) (base := base) T
  refine good_mk T 21 (d := d_meeting) (N := ["grove", "a", "b", "c", "d", "one", "two", "three", "four"]) (ps := ["grove", "a", "b", "c", "d"]) rfl rfl sc_meeting (fun _ _ _ _ _ _ us hl => match us, hl with | [_, _, _, _, _], _ => rfl) (fun vs H Q E h => ?_) (fun f cdv A outer σ0 H vs Q E hr h => ?_)
  · obtain ⟨a, rows, q, na, nb, nc, nd, a1, a2, a3, a4, b1, b2, b3, b4, c1, c2, c3, c4, d1, d2, d3, d4, rfl, _⟩ := h; rfl
  · obtain ⟨a, rows, q, na, nb, nc, nd, a1, a2, a3, a4, b1, b2, b3, b4, c1, c2, c3, c4, d1, d2, d3, d4, rfl, G, ha, hb, hc, hd, hw, hlv, hlen, k⟩ := h
    refine ⟨_, (pss_cons (ps_set (i := 5) sc_meeting.nd rfl (Or.inl rfl) (pe_ix (ix_tupK K rfl) (pe_mgK K rfl (pv 0) (T.cls 0) (T.meth 23) G_Grove_quarters (hr.mono (by decide)) (pa_cons (pv 1) pa_nil)) pe_int (fun _ _ => rfl)))
      (pss_cons (ps_set (i := 6) sc_meeting.nd rfl (Or.inl rfl) (pe_ix (ix_tupK K rfl) (pe_mgK K rfl (pv 0) (T.cls 0) (T.meth 23) G_Grove_quarters (hr.mono (by decide)) (pa_cons (pv 2) pa_nil)) pe_int (fun _ _ => rfl)))
      (pss_cons (ps_set (i := 7) sc_meeting.nd rfl (Or.inl rfl) (pe_ix (ix_tupK K rfl) (pe_mgK K rfl (pv 0) (T.cls 0) (T.meth 23) G_Grove_quarters (hr.mono (by decide)) (pa_cons (pv 3) pa_nil)) pe_int (fun _ _ => rfl)))
      (pss_cons (ps_set (i := 8) sc_meeting.nd rfl (Or.inl rfl) (pe_ix (ix_tupK K rfl) (pe_mgK K rfl (pv 0) (T.cls 0) (T.meth 23) G_Grove_quarters (hr.mono (by decide)) (pa_cons (pv 4) pa_nil)) pe_int (fun _ _ => rfl)))
      (pss_one (ps_ret (pe_mgK K rfl (pv 0) (T.cls 0) (T.meth 15) G_Grove_knit (hr.mono (by decide)) (pa_cons (pv 5) (pa_cons (pv 6) (pa_cons (pv 7) (pa_cons (pv 8) pa_nil))))))))))), ?_⟩
    walk_at "rd"
    refine rd_methR G.ob (by rfl) ?_
    walk_at "rd"
    refine ⟨a, rows, q, na, _, _, _, _, rfl, G, ha, by omega, fun t x1 x2 x3 x4 ht _ _ _ hx => ?_⟩
    walk_at "rd"
    refine rd_methR G.ob (by rfl) ?_
    walk_at "rd"
    refine ⟨a, rows, q, nb, _, _, _, _, rfl, G, hb, by omega, fun t2 y1 y2 y3 y4 ht2 _ _ hy _ => ?_⟩
    walk_at "rd"
    refine rd_methR G.ob (by rfl) ?_
    walk_at "rd"
    refine ⟨a, rows, q, nc, _, _, _, _, rfl, G, hc, by omega, fun t3 z1 z2 z3 z4 ht3 _ hz _ _ => ?_⟩
    walk_at "rd"
    refine rd_methR G.ob (by rfl) ?_
    walk_at "rd"
    refine ⟨a, rows, q, nd, _, _, _, _, rfl, G, hd, by omega, fun t4 u1 u2 u3 u4 ht4 hu _ _ _ => ?_⟩
    walk_at "rd"
    refine rd_methR G.ob (by rfl) ?_
    walk_at "rd"
    exact ⟨a, rows, q, _, _, _, _, x4, y3, z2, u1, rfl, G, hx, hy, hz, hu, hw, hlv, hlen, k⟩
def sp_middle_of (C : Addr) : Sp := fun vs H Q _ => ∃ (a : GA) (rows : List (Int × Addr)) (q : List Sq) (n : Nat) (S : Sq), vs = [.ref a.g, .int (n : Int)] ∧ GAt C H a rows q ∧ q[n]? = some S ∧ 2 ≤ S.level ∧ S.level ≤ 60 ∧ q.length < 16000000 ∧
  ∀ H' q' (m : Nat), GAt C H' a rows q' → q <+: q' → q'.length ≤ q.length + 1 → q'[m]? = some S.mid → Fr a.m5 H H' → Q (.int (m : Int)) H'
theorem mp_middle_of {C : Addr} : MonP (sp_middle_of C) := fun vs H Q Q' E h ⟨a, rows, q, n, S, x1, x2, x3, x4, x5, x6, k⟩ => ⟨a, rows, q, n, S, x1, x2, x3, x4, x5, x6, fun H' q' m g p l e f => h _ _ (k H' q' m g p l e f)⟩
theorem ok_middle_of (T : Env fa fn K mg) : Good P w K mg base CX0 5 ("middle_of", none) ["grove", "square"] (sp_middle_of (CG K)) := by
  have G_Grove_quarters := ok_quarters (P := P) (w := w) (base := base) T
  have G_meeting := ok_meeting (P := P) (w := w) (base := base) T
  refine good_mk T 22 (d := d_middle_of) (N := ["grove", "square", "four"]) (ps := ["grove", "square"]) rfl rfl sc_middle_of (fun _ _ _ _ _ _ us hl => match us, hl with | [_, _], _ => rfl) (fun vs H Q E h => ?_) (fun f cdv A outer σ0 H vs Q E hr h => ?_)
  · obtain ⟨a, rows, q, n, S, rfl, _⟩ := h; rfl
  · obtain ⟨a, rows, q, n, S, rfl, G, hn, h2, h60, hlen, k⟩ := h
    have hw := G.wf _ (List.mem_of_getElem? hn)
    obtain ⟨wm, lm⟩ := Sq.wf_mid hw h2
    obtain ⟨a1, a2, a3, a4, b1, b2, b3, b4, c1, c2, c3, c4, d1, d2, d3, d4, rfl⟩ := Sq.mid_form hw h2
    refine ⟨_, (pss_cons (ps_set (i := 2) sc_middle_of.nd rfl (Or.inl rfl) (pe_mgK K rfl (pv 0) (T.cls 0) (T.meth 23) G_Grove_quarters (hr.mono (by decide)) (pa_cons (pv 1) pa_nil)))
      (pss_one (ps_ret (pe_cgK K rfl G_meeting (hr.mono (by decide)) (T.glo 24) (pa_cons (pv 0) (pa_cons (pe_ix (ix_tupK K rfl) (pv 2) pe_int (fun _ _ => rfl)) (pa_cons (pe_ix (ix_tupK K rfl) (pv 2) pe_int (fun _ _ => rfl)) (pa_cons (pe_ix (ix_tupK K rfl) (pv 2) pe_int (fun _ _ => rfl)) (pa_cons (pe_ix (ix_tupK K rfl) (pv 2) pe_int (fun _ _ => rfl)) pa_nil))))))))), ?_⟩
    walk_at "rd"
    refine rd_methR G.ob (by rfl) ?_
    walk_at "rd"
    refine ⟨a, rows, q, n, _, _, _, _, rfl, G, hn, by omega, fun t x1 x2 x3 x4 ht e1 e2 e3 e4 => ?_⟩
    walk_at "rd"
    have l4 : a4.level + 1 = (Sq.mid (.node (.node a1 a2 a3 a4) (.node b1 b2 b3 b4) (.node c1 c2 c3 c4) (.node d1 d2 d3 d4))).level := rfl
    exact ⟨a, rows, q, x1, x2, x3, x4, _, _, _, _, _, _, _, _, _, _, _, _, _, _, _, _, rfl, G, e1, e2, e3, e4, wm, by omega, hlen, k⟩
def sp_widened (C : Addr) : Sp := fun vs H Q _ => ∃ (a : GA) (rows : List (Int × Addr)) (q : List Sq) (n : Nat) (S : Sq), vs = [.ref a.g, .int (n : Int)] ∧ GAt C H a rows q ∧ q[n]? = some S ∧ 1 ≤ S.level ∧ S.level ≤ 47 ∧ q.length + 200 < 16000000 ∧
  ∀ H' rows' q' (m : Nat), GStep C H a rows q H' rows' q' → q'.length ≤ q.length + 60 → q'[m]? = some S.wide → Q (.int (m : Int)) H'
theorem mp_widened {C : Addr} : MonP (sp_widened C) := fun vs H Q Q' E h ⟨a, rows, q, n, S, x1, x2, x3, x4, x5, x6, k⟩ => ⟨a, rows, q, n, S, x1, x2, x3, x4, x5, x6, fun H' r' q' m g l e => h _ _ (k H' r' q' m g l e)⟩
set_option maxHeartbeats 8000000 in
theorem ok_widened (T : Env fa fn K mg) : Good P w K mg base CX0 5 ("widened", none) ["grove", "square"] (sp_widened (CG K)) := by
  have G_Grove_quarters := ok_quarters (P := P) (w := w) (base := base) T
  have G_Grove_level_of := ok_level_of (P := P) (w := w) (base := base) T
  have G_Grove_knit := ok_knit (P := P) (w := w) (base := base) T
  have G_Grove_even := ok_even (P := P) (w := w) (base := base) T
  refine good_mk T 23 (d := d_widened) (N := ["grove", "square", "level", "four", "no", "one", "two", "three", "last"]) (ps := ["grove", "square"]) rfl rfl sc_widened (fun _ _ _ _ _ _ us hl => match us, hl with | [_, _], _ => rfl) (fun vs H Q E h => ?_) (fun f cdv A outer σ0 H vs Q E hr h => ?_)
  · obtain ⟨a, rows, q, n, S, rfl, _⟩ := h; rfl
  · obtain ⟨a, rows, q, n, S, rfl, G, hn, h1, h47, hlen, k⟩ := h
    have hw := G.wf _ (List.mem_of_getElem? hn)
    obtain ⟨A', B, C', D, rfl⟩ := Sq.node_of h1
    obtain ⟨wa, wb, wc, wd, ee1, ee2, ee3⟩ := id hw
    have hl : (Sq.node A' B C' D).level = A'.level + 1 := rfl
    have we : (Sq.even A'.level 0).wf := Sq.wf_even (by decide) (by decide) _
    have le : (Sq.even A'.level 0).level = A'.level := Sq.level_even _ _
    refine ⟨_, (pss_cons (ps_set (i := 2) sc_widened.nd rfl (Or.inl rfl) (pe_mgK K rfl (pv 0) (T.cls 0) (T.meth 2) G_Grove_level_of (hr.mono (by decide)) (pa_cons (pv 1) pa_nil)))
      (pss_cons (ps_if (PW.pt (pw_or (pt_cmpR op_eq (pv 2) pe_int (nomark _)) (pw_or1 (pt_cmpR op_ge (pv 2) (pe_gint (T.int 19) rfl) (nomark _))))) pss_never pss_nil)
      (pss_cons (ps_set (i := 3) sc_widened.nd rfl (Or.inl rfl) (pe_mgK K rfl (pv 0) (T.cls 0) (T.meth 23) G_Grove_quarters (hr.mono (by decide)) (pa_cons (pv 1) pa_nil)))
      (pss_cons (ps_set (i := 4) sc_widened.nd rfl (Or.inl rfl) (pe_mgK K rfl (pv 0) (T.cls 0) (T.meth 20) G_Grove_even (hr.mono (by decide)) (pa_cons (pe_op op_sub (pv 2) pe_int) (pa_cons pe_int pa_nil))))
      (pss_cons (ps_set (i := 5) sc_widened.nd rfl (Or.inl rfl) (pe_mgK K rfl (pv 0) (T.cls 0) (T.meth 15) G_Grove_knit (hr.mono (by decide)) (pa_cons (pv 4) (pa_cons (pv 4) (pa_cons (pv 4) (pa_cons (pe_ix (ix_tupK K rfl) (pv 3) pe_int (fun _ _ => rfl)) pa_nil))))))
      (pss_cons (ps_set (i := 6) sc_widened.nd rfl (Or.inl rfl) (pe_mgK K rfl (pv 0) (T.cls 0) (T.meth 15) G_Grove_knit (hr.mono (by decide)) (pa_cons (pv 4) (pa_cons (pv 4) (pa_cons (pe_ix (ix_tupK K rfl) (pv 3) pe_int (fun _ _ => rfl)) (pa_cons (pv 4) pa_nil))))))
      (pss_cons (ps_set (i := 7) sc_widened.nd rfl (Or.inl rfl) (pe_mgK K rfl (pv 0) (T.cls 0) (T.meth 15) G_Grove_knit (hr.mono (by decide)) (pa_cons (pv 4) (pa_cons (pe_ix (ix_tupK K rfl) (pv 3) pe_int (fun _ _ => rfl)) (pa_cons (pv 4) (pa_cons (pv 4) pa_nil))))))
      (pss_cons (ps_set (i := 8) sc_widened.nd rfl (Or.inl rfl) (pe_mgK K rfl (pv 0) (T.cls 0) (T.meth 15) G_Grove_knit (hr.mono (by decide)) (pa_cons (pe_ix (ix_tupK K rfl) (pv 3) pe_int (fun _ _ => rfl)) (pa_cons (pv 4) (pa_cons (pv 4) (pa_cons (pv 4) pa_nil))))))
      (pss_one (ps_ret (pe_mgK K rfl (pv 0) (T.cls 0) (T.meth 15) G_Grove_knit (hr.mono (by decide)) (pa_cons (pv 5) (pa_cons (pv 6) (pa_cons (pv 7) (pa_cons (pv 8) pa_nil))))))))))))))), ?_⟩
    walk_at "rd"
    refine rd_methR G.ob (by rfl) ?_
    walk_at "rd"
    refine ⟨a, rows, q, n, _, rfl, G, hn, by omega, ?_⟩
    walk_at "rd"
    rw [decide_eq_false (by rw [hl]; omega)]
    walk_at "rd"
    rw [decide_eq_false (by omega)]
    walk_at "rd"
    refine rd_methR G.ob (by rfl) ?_
    walk_at "rd"
    refine ⟨a, rows, q, n, _, _, _, _, rfl, G, hn, by omega, fun t x1 x2 x3 x4 ht e1 e2 e3 e4 => ?_⟩
    walk_at "rd"
    refine rd_methR G.ob (by rfl) ?_
    walk_at "rd"
    have el : (((Sq.node A' B C' D).level : Nat) : Int) - 1 = ((A'.level : Nat) : Int) := by rw [hl]; omega
    rw [el]
    refine ⟨a, rows, q, A'.level, 0, rfl, G, by omega, by decide, by decide, by omega, fun H1 r1 q1 m0 S1 len1 hm0 => ?_⟩
    have t1 := S1.tup G _ _ ht
    have P1 := S1.pre
    walk_at "rd"
    refine rd_methR S1.gat.ob (by rfl) ?_
    walk_at "rd"
    refine ⟨a, r1, q1, _, _, _, _, m0, m0, m0, x1, rfl, S1.gat, hm0, hm0, hm0, pre_get P1 e1, ⟨we, we, we, wa, rfl, rfl, le.symm⟩, by omega, by omega, fun H2 q2 n2 G2 p2 l2 f2 fr2 => ?_⟩
    have S2 := S1.m5 G2 p2 fr2
    have t2 := S2.tup G _ _ ht
    walk_at "rd"
    refine rd_methR G2.ob (by rfl) ?_
    walk_at "rd"
    refine ⟨a, r1, q2, _, _, _, _, m0, m0, x2, m0, rfl, G2, pre_get p2 hm0, pre_get p2 hm0, pre_get S2.pre e2, pre_get p2 hm0, ⟨we, we, wb, we, rfl, by rw [ee1, le], rfl⟩, by omega, by omega, fun H3 q3 n3 G3 p3 l3 f3 fr3 => ?_⟩
    have S3 := S2.m5 G3 p3 fr3
    have t3 := S3.tup G _ _ ht
    walk_at "rd"
    refine rd_methR G3.ob (by rfl) ?_
    walk_at "rd"
    refine ⟨a, r1, q3, _, _, _, _, m0, x3, m0, m0, rfl, G3, pre_get (p2.trans p3) hm0, pre_get S3.pre e3, pre_get (p2.trans p3) hm0, pre_get (p2.trans p3) hm0, ⟨we, wc, we, we, by rw [ee2, le], rfl, rfl⟩, by omega, by omega, fun H4 q4 n4 G4 p4 l4 f4 fr4 => ?_⟩
    have S4 := S3.m5 G4 p4 fr4
    have t4 := S4.tup G _ _ ht
    walk_at "rd"
    refine rd_methR G4.ob (by rfl) ?_
    walk_at "rd"
    refine ⟨a, r1, q4, _, _, _, _, x4, m0, m0, m0, rfl, G4, pre_get S4.pre e4, pre_get ((p2.trans p3).trans p4) hm0, pre_get ((p2.trans p3).trans p4) hm0, pre_get ((p2.trans p3).trans p4) hm0, ⟨wd, we, we, we, by rw [ee3, le], by rw [ee3, le], by rw [ee3, le]⟩, by omega, by omega, fun H5 q5 n5 G5 p5 l5 f5 fr5 => ?_⟩
    have S5 := S4.m5 G5 p5 fr5
    walk_at "rd"
    refine rd_methR G5.ob (by rfl) ?_
    walk_at "rd"
    have ww := Sq.wf_wide hw
    have lw : (Sq.node (Sq.even A'.level 0) (Sq.even A'.level 0) (Sq.even A'.level 0) A').level = A'.level + 1 := by show (Sq.even A'.level 0).level + 1 = _; rw [le]
    refine ⟨a, r1, q5, _, _, _, _, n2, n3, n4, n5, rfl, G5, pre_get ((p3.trans p4).trans p5) f2, pre_get (p4.trans p5) f3, pre_get p5 f4, f5, ww, by omega, by omega, fun H6 q6 n6 G6 p6 l6 f6 fr6 => ?_⟩
    exact k _ _ _ _ (S5.m5 G6 p6 fr6) (by omega) f6
def sp_trimmed (C : Addr) : Sp := fun vs H Q _ => ∃ (a : GA) (rows : List (Int × Addr)) (q : List Sq) (n : Nat) (S : Sq), vs = [.ref a.g, .int (n : Int)] ∧ GAt C H a rows q ∧ q[n]? = some S ∧ 1 ≤ S.level ∧ S.level ≤ 60 ∧ q.length + 200 < 16000000 ∧
  ∀ H' q' (m : Nat), GStep C H a rows q H' rows q' → q'.length ≤ q.length + 60 → q'[m]? = some S.trim → Q (.int (m : Int)) H'
theorem mp_trimmed {C : Addr} : MonP (sp_trimmed C) := fun vs H Q Q' E h ⟨a, rows, q, n, S, x1, x2, x3, x4, x5, x6, k⟩ => ⟨a, rows, q, n, S, x1, x2, x3, x4, x5, x6, fun H' q' m g l e => h _ _ (k H' q' m g l e)⟩
theorem ok_trimmed (T : Env fa fn K mg) : Good P w K mg base CX0 6 ("trimmed", none) ["grove", "square"] (sp_trimmed (CG K)) := by
  have G_Grove_level_of := ok_level_of (P := P) (w := w) (base := base) T
  have G_Grove_living := ok_living (P := P) (w := w) (base := base) T
  have G_middle_of := ok_middle_of (P := P) (w := w) (base := base) T
  refine good_mk T 24 (d := d_trimmed) (N := ["grove", "square", "inner"]) (ps := ["grove", "square"]) rfl rfl sc_trimmed (fun _ _ _ _ _ _ us hl => match us, hl with | [_, _], _ => rfl) (fun vs H Q E h => ?_) (fun f cdv A outer σ0 H vs Q E hr h => ?_)
  · obtain ⟨a, rows, q, n, S, rfl, _⟩ := h; rfl
  · obtain ⟨a, rows, q, n, S, rfl, G, hn, h1, h60, hlen, k⟩ := h
    refine ⟨_, (pss_cons (ps_if (pt_cmpR op_eq (pe_mgK K rfl (pv 0) (T.cls 0) (T.meth 2) G_Grove_level_of (hr.mono (by decide)) (pa_cons (pv 1) pa_nil)) pe_int (nomark _)) pss_never pss_nil)
      (pss_cons (ps_while PassesOwn.never (pt_cmpR op_gt (pe_mgK K rfl (pv 0) (T.cls 0) (T.meth 2) G_Grove_level_of (hr.mono (by decide)) (pa_cons (pv 1) pa_nil)) pe_int (nomark _)) (pss_cons (ps_set (i := 2) sc_trimmed.nd rfl (Or.inl rfl) (pe_cgK K rfl G_middle_of (hr.mono (by decide)) (T.glo 25) (pa_cons (pv 0) (pa_cons (pv 1) pa_nil))))
      (pss_cons (ps_if (pt_cmpR op_lt (pe_mgK K rfl (pv 0) (T.cls 0) (T.meth 26) G_Grove_living (hr.mono (by decide)) (pa_cons (pv 2) pa_nil)) (pe_mgK K rfl (pv 0) (T.cls 0) (T.meth 26) G_Grove_living (hr.mono (by decide)) (pa_cons (pv 1) pa_nil)) (nomark _)) (pss_one (ps_ret (pv 1))) pss_nil)
      (pss_one (ps_set (i := 1) sc_trimmed.nd rfl (Or.inl rfl) (pv 2))))))
      (pss_one (ps_ret (pv 1))))), ?_⟩
    walk_at "rd"
    refine rd_methR G.ob (by rfl) ?_
    walk_at "rd"
    refine ⟨a, rows, q, n, _, rfl, G, hn, by omega, ?_⟩
    walk_at "rd"
    rw [decide_eq_false (by omega)]
    walk_at "rd"
    refine while_m (fun m σ H' => ∃ (q1 : List Sq) (n1 : Nat) (S1 : Sq) (x2 : Option V), σ = [some (.ref a.g), some (.int (n1 : Int)), x2] ∧ GStep (CG K) H a rows q H' rows q1 ∧ q1[n1]? = some S1 ∧ m = S1.level ∧ 1 ≤ S1.level ∧ S1.level ≤ S.level ∧ S1.trim = S.trim ∧ q1.length + S1.level ≤ q.length + S.level) S.level
      ⟨q, n, S, none, rfl, GStep.refl G, hn, rfl, h1, Nat.le_refl _, rfl, Nat.le_refl _⟩ ?_
    rintro m σ H1 ⟨q1, n1, S1, x2, rfl, St, hn1, rfl, g1, g2, g3, g4⟩
    have hw := St.gat.wf _ (List.mem_of_getElem? hn1)
    walk_at "rd"
    refine rd_methR St.gat.ob (by rfl) ?_
    walk_at "rd"
    refine ⟨a, rows, q1, n1, _, rfl, St.gat, hn1, by omega, ?_⟩
    walk_at "rd"
    refine ite_d (fun hb => ?_) (fun hb => ?_)
    · refine ⟨fun σ' H' => ∃ m', m' < S1.level ∧ _, fun _ _ h => h, ?_⟩
      walk_at "rd"
      refine ⟨a, rows, q1, n1, S1, rfl, St.gat, hn1, by omega, by omega, by omega, fun H2 q2 m2 G2 p2 l2 e2 fr2 => ?_⟩
      have S2 := St.m5 G2 p2 fr2
      obtain ⟨wm, lm⟩ := Sq.wf_mid hw (by omega)
      have hn2 := pre_get p2 hn1
      walk_at "rd"
      refine rd_methR G2.ob (by rfl) ?_
      walk_at "rd"
      refine ⟨a, rows, q2, m2, _, rfl, G2, e2, by omega, ?_⟩
      walk_at "rd"
      refine rd_methR G2.ob (by rfl) ?_
      walk_at "rd"
      refine ⟨a, rows, q2, n1, _, rfl, G2, hn2, by omega, ?_⟩
      walk_at "rd"
      refine ite_d (fun hc => ?_) (fun hc => ?_)
      · walk_at "rd"
        refine k _ q2 n1 S2 (by omega) ?_
        rw [← g3, Sq.trim_self (.inr ⟨by omega, hc⟩)]
        exact hn2
      · walk_at "rd"
        exact ⟨S1.mid.level, by omega, q2, m2, S1.mid, _, rfl, S2, e2, rfl, by omega, by omega, (Sq.trim_mid hw (by omega) hc).symm.trans g3, by omega⟩
    · walk_at "rd"
      refine k _ q1 n1 St (by omega) ?_
      rw [← g3, Sq.trim_self (.inl (by omega))]
      exact hn1
end
end JF

/-! ### fields: cell_at, put_in, planted -/
namespace JF
open PySem PySem.Spec PyProof.Rows L2
theorem get_node (a b c d : Sq) (x y : Int) : (Sq.node a b c d).get x y = if y < 2 ^ a.level then (if x < 2 ^ a.level then a.get x y else b.get (x - 2 ^ a.level) y) else (if x < 2 ^ a.level then c.get x (y - 2 ^ a.level) else d.get (x - 2 ^ a.level) (y - 2 ^ a.level)) := rfl
theorem band1 (i : Int) : Builtin.bitAnd i 1 = i % 2 := PySem.W.kbt_mask i 1
theorem bit_split {X h : Int} (h0 : 0 < h) : ((X / h) % 2 = 0 ∧ X % (2 * h) = X % h) ∨ ((X / h) % 2 = 1 ∧ X % (2 * h) = X % h + h) := by
  have e := Int.mul_ediv_add_emod X h
  have r0 := Int.emod_nonneg X (by omega : h ≠ 0)
  have r1 := Int.emod_lt_of_pos X h0
  have e2 := Int.mul_ediv_add_emod (X / h) 2
  generalize X / h = k at *
  generalize X % h = r at *
  have e3 : h * k = 2 * h * (k / 2) + h * (k % 2) := by
    have z : h * k = h * (2 * (k / 2) + k % 2) := by rw [e2]
    rw [z, Int.mul_add, ← Int.mul_assoc, Int.mul_comm h 2]
  rcases (by omega : k % 2 = 0 ∨ k % 2 = 1) with z | z
  · left
    refine ⟨z, ((Int.ediv_emod_unique (q := k / 2) (r := r) (by omega)).mpr ⟨?_, r0, by omega⟩).2⟩
    rw [z, Int.mul_zero] at e3
    omega
  · right
    refine ⟨z, ((Int.ediv_emod_unique (q := k / 2) (r := r + h) (by omega)).mpr ⟨?_, by omega, by omega⟩).2⟩
    rw [z, Int.mul_one] at e3
    omega
section
variable {P : Program} {w : World} {K : PySem.W.Frag} {mg : Str → Option Value} {base : Heap}
def sp_cell_at (C : Addr) : Sp := fun vs H Q _ => ∃ (a : GA) (rows : List (Int × Addr)) (q : List Sq) (n : Nat) (S : Sq) (x y : Int), vs = [.ref a.g, .int (n : Int), .int x, .int y] ∧ GAt C H a rows q ∧ q[n]? = some S ∧ 1 ≤ S.level ∧ S.level ≤ 60 ∧ q.length ≤ 16000000 ∧ Q (.int (S.val x y)) H
theorem mp_cell_at {C : Addr} : MonP (sp_cell_at C) := fun vs H Q Q' E h ⟨a, rows, q, n, S, x, y, x1, x2, x3, x4, x5, x6, k⟩ => ⟨a, rows, q, n, S, x, y, x1, x2, x3, x4, x5, x6, h _ _ k⟩
end
end JF

/-! ### fields: put_in, planted -/
namespace JF
open PySem PySem.Spec PyProof.Rows L2
section
variable {P : Program} {w : World} {K : PySem.W.Frag} {mg : Str → Option Value} {base : Heap}
def sp_put_in (C : Addr) (L : Nat) : Sp := fun vs H Q _ => ∃ (a : GA) (rows : List (Int × Addr)) (q : List Sq) (n m : Nat) (S : Sq) (s x y : Int), vs = [.ref a.g, .int (n : Int), .int x, .int y, .int (m : Int)] ∧ GAt C H a rows q ∧ q[n]? = some S ∧ q[m]? = some (.leaf s) ∧ S.level ≤ L ∧ S.level ≤ 60 ∧
  0 ≤ x ∧ x < 2 ^ S.level ∧ 0 ≤ y ∧ y < 2 ^ S.level ∧ q.length + 200 < 16000000 ∧ ∀ H' q' (r : Nat), GStep C H a rows q H' rows q' → q'.length ≤ q.length + S.level → q'[r]? = some (S.put x y s) → Q (.int (r : Int)) H'
theorem mp_put_in {C : Addr} {L : Nat} : MonP (sp_put_in C L) := fun vs H Q Q' E h ⟨a, rows, q, n, m, S, s, x, y, x1, x2, x3, x4, x5, x6, x7, x8, x9, y1, y2, k⟩ => ⟨a, rows, q, n, m, S, s, x, y, x1, x2, x3, x4, x5, x6, x7, x8, x9, y1, y2, fun H' q' r g l e => h _ _ (k H' q' r g l e)⟩
theorem put_node (a b c d : Sq) (x y s : Int) : (Sq.node a b c d).put x y s = if y < 2 ^ a.level then (if x < 2 ^ a.level then .node (a.put x y s) b c d else .node a (b.put (x - 2 ^ a.level) y s) c d)
      else (if x < 2 ^ a.level then .node a b (c.put x (y - 2 ^ a.level) s) d else .node a b c (d.put (x - 2 ^ a.level) (y - 2 ^ a.level) s)) := rfl
theorem no_put_in (T : Env fa fn K mg) : Good P w K mg base CX0 1 ("put_in", none) ["grove", "square", "x", "y", "leaf"] (fun _ _ _ _ => False) := by
  refine good_mk T 25 (d := d_put_in) (N := ["grove", "square", "x", "y", "leaf", "level", "half", "four", "at"]) (ps := ["grove", "square", "x", "y", "leaf"]) rfl rfl sc_put_in (fun _ _ _ _ _ _ us hl => match us, hl with | [_, _, _, _, _], _ => rfl) (fun vs H Q E h => h.elim) (fun f cdv A outer σ0 H vs Q E hr h => h.elim)
set_option maxHeartbeats 16000000 in
theorem ok_put_in (T : Env fa fn K mg) : ∀ L : Nat, Good P w K mg base CX0 (5 + L) ("put_in", none) ["grove", "square", "x", "y", "leaf"] (sp_put_in (CG K) L) := by
  have G_Grove_level_of := ok_level_of (P := P) (w := w) (base := base) T
  have G_Grove_quarters := ok_quarters (P := P) (w := w) (base := base) T
  have G_Grove_knit := ok_knit (P := P) (w := w) (base := base) T
  intro L
  induction L with
  | zero =>
    have G_put_in := no_put_in (P := P) (w := w) (base := base) T
    refine good_mk T 25 (d := d_put_in) (N := ["grove", "square", "x", "y", "leaf", "level", "half", "four", "at"]) (ps := ["grove", "square", "x", "y", "leaf"]) rfl rfl sc_put_in (fun _ _ _ _ _ _ us hl => match us, hl with | [_, _, _, _, _], _ => rfl) (fun vs H Q E h => ?_) (fun f cdv A outer σ0 H vs Q E hr h => ?_)
    · obtain ⟨a, rows, q, n, m, S, s, x, y, rfl, _⟩ := h; rfl
    · obtain ⟨a, rows, q, n, m, S, s, x, y, rfl, G, hn, hm, hL, h60, hx0, hx1, hy0, hy1, hlen, k⟩ := h
      refine ⟨_, (pss_cons (ps_set (i := 5) sc_put_in.nd rfl (Or.inl rfl) (pe_mgK K rfl (pv 0) (T.cls 0) (T.meth 2) G_Grove_level_of (hr.mono (by decide)) (pa_cons (pv 1) pa_nil)))
      (pss_cons (ps_if (pt_cmpR op_eq (pv 5) pe_int (nomark _)) (pss_one (ps_ret (pv 4))) pss_nil)
      (pss_cons (ps_set (i := 6) sc_put_in.nd rfl (Or.inl rfl) (pe_op op_shl pe_int (pe_op op_sub (pv 5) pe_int)))
      (pss_cons (ps_set (i := 7) sc_put_in.nd rfl (Or.inl rfl) (pe_callTy (call_listK K rfl) (by rfl) (T.free 27) (by decide +kernel) (pa_cons (pe_mgK K rfl (pv 0) (T.cls 0) (T.meth 23) G_Grove_quarters (hr.mono (by decide)) (pa_cons (pv 1) pa_nil)) pa_nil)))
      (pss_cons (ps_set (i := 8) sc_put_in.nd rfl (Or.inl rfl) (pe_op op_add (pe_op op_mulW pe_int (pe_op op_fdivW (pv 3) (pv 6))) (pe_op op_fdivW (pv 2) (pv 6))))
      (pss_cons (ps_asg (pe_cgK K rfl G_put_in (hr.mono (by decide)) (T.glo 28) (pa_cons (pv 0) (pa_cons (pe_ix (ix_listK K rfl) (pv 7) (pv 8) (fun _ _ => rfl)) (pa_cons (pe_op op_mod (pv 2) (pv 6)) (pa_cons (pe_op op_mod (pv 3) (pv 6)) (pa_cons (pv 4) pa_nil)))))) (pg_sub (pv 7) (pv 8) set_list))
      (pss_one (ps_ret (pe_mgK K rfl (pv 0) (T.cls 0) (T.meth 15) G_Grove_knit (hr.mono (by decide)) (pa_cons (pe_ix (ix_listK K rfl) (pv 7) pe_int (fun _ _ => rfl)) (pa_cons (pe_ix (ix_listK K rfl) (pv 7) pe_int (fun _ _ => rfl)) (pa_cons (pe_ix (ix_listK K rfl) (pv 7) pe_int (fun _ _ => rfl)) (pa_cons (pe_ix (ix_listK K rfl) (pv 7) pe_int (fun _ _ => rfl)) pa_nil))))))))))))), ?_⟩
      cases S with
      | node A' B C' D =>
        have hl : (Sq.node A' B C' D).level = A'.level + 1 := rfl
        omega
      | leaf r =>
      walk_at "rd"
      refine rd_methR G.ob (by rfl) ?_
      walk_at "rd"
      refine ⟨a, rows, q, n, _, rfl, G, hn, by omega, ?_⟩
      walk_at "rd"
      refine iteT ?_
      walk_at "rd"
      exact k _ _ m (GStep.refl G) (by omega) hm
  | succ L ih =>
    have G_put_in := ih
    refine good_mk T 25 (d := d_put_in) (N := ["grove", "square", "x", "y", "leaf", "level", "half", "four", "at"]) (ps := ["grove", "square", "x", "y", "leaf"]) rfl rfl sc_put_in (fun _ _ _ _ _ _ us hl => match us, hl with | [_, _, _, _, _], _ => rfl) (fun vs H Q E h => ?_) (fun f cdv A outer σ0 H vs Q E hr h => ?_)
    · obtain ⟨a, rows, q, n, m, S, s, x, y, rfl, _⟩ := h; rfl
    · obtain ⟨a, rows, q, n, m, S, s, x, y, rfl, G, hn, hm, hL, h60, hx0, hx1, hy0, hy1, hlen, k⟩ := h
      refine ⟨_, (pss_cons (ps_set (i := 5) sc_put_in.nd rfl (Or.inl rfl) (pe_mgK K rfl (pv 0) (T.cls 0) (T.meth 2) G_Grove_level_of (hr.mono (by show _ ≤ 5 + L; omega)) (pa_cons (pv 1) pa_nil)))
      (pss_cons (ps_if (pt_cmpR op_eq (pv 5) pe_int (nomark _)) (pss_one (ps_ret (pv 4))) pss_nil)
      (pss_cons (ps_set (i := 6) sc_put_in.nd rfl (Or.inl rfl) (pe_op op_shl pe_int (pe_op op_sub (pv 5) pe_int)))
      (pss_cons (ps_set (i := 7) sc_put_in.nd rfl (Or.inl rfl) (pe_callTy (call_listK K rfl) (by rfl) (T.free 27) (by decide +kernel) (pa_cons (pe_mgK K rfl (pv 0) (T.cls 0) (T.meth 23) G_Grove_quarters (hr.mono (by show _ ≤ 5 + L; omega)) (pa_cons (pv 1) pa_nil)) pa_nil)))
      (pss_cons (ps_set (i := 8) sc_put_in.nd rfl (Or.inl rfl) (pe_op op_add (pe_op op_mulW pe_int (pe_op op_fdivW (pv 3) (pv 6))) (pe_op op_fdivW (pv 2) (pv 6))))
      (pss_cons (ps_asg (pe_cgK K rfl G_put_in (hr.mono (by show _ ≤ 5 + L; omega)) (T.glo 28) (pa_cons (pv 0) (pa_cons (pe_ix (ix_listK K rfl) (pv 7) (pv 8) (fun _ _ => rfl)) (pa_cons (pe_op op_mod (pv 2) (pv 6)) (pa_cons (pe_op op_mod (pv 3) (pv 6)) (pa_cons (pv 4) pa_nil)))))) (pg_sub (pv 7) (pv 8) set_list))
      (pss_one (ps_ret (pe_mgK K rfl (pv 0) (T.cls 0) (T.meth 15) G_Grove_knit (hr.mono (by show _ ≤ 5 + L; omega)) (pa_cons (pe_ix (ix_listK K rfl) (pv 7) pe_int (fun _ _ => rfl)) (pa_cons (pe_ix (ix_listK K rfl) (pv 7) pe_int (fun _ _ => rfl)) (pa_cons (pe_ix (ix_listK K rfl) (pv 7) pe_int (fun _ _ => rfl)) (pa_cons (pe_ix (ix_listK K rfl) (pv 7) pe_int (fun _ _ => rfl)) pa_nil))))))))))))), ?_⟩
      walk_at "rd"
      refine rd_methR G.ob (by rfl) ?_
      walk_at "rd"
      refine ⟨a, rows, q, n, _, rfl, G, hn, by omega, ?_⟩
      walk_at "rd"
      cases S with
      | leaf r =>
        refine iteT ?_
        walk_at "rd"
        exact k _ _ m (GStep.refl G) (by omega) hm
      | node A' B C' D =>
      have hl : (Sq.node A' B C' D).level = A'.level + 1 := rfl
      have wS := G.wf _ (List.mem_of_getElem? hn)
      obtain ⟨wa, wb, wc, wd, ee1, ee2, ee3⟩ := wS
      have wf_ : ∀ {Z : Sq} (u v : Int), Z.wf → (Z.put u v s).wf := fun u v => Sq.wf_put (G.wf _ (List.mem_of_getElem? hm)).1 (G.wf _ (List.mem_of_getElem? hm)).2 u v
      have lp := Sq.level_put s
      rw [decide_eq_false (by rw [hl]; omega)]
      walk_at "rd"
      have el : (((Sq.node A' B C' D).level : Nat) : Int) - 1 = (A'.level : Int) := by rw [hl]; omega
      rw [el]
      refine rd_I (by refine ⟨by omega, by omega, by decide⟩) ?_
      rw [shl_ok']
      walk_at "rd"
      refine rd_methR G.ob (by rfl) ?_
      walk_at "rd"
      refine ⟨a, rows, q, n, _, _, _, _, rfl, G, hn, by omega, fun t x1 x2 x3 x4 ht e1 e2 e3 e4 => ?_⟩
      walk_at "rd"
      refine ⟨t, _, rfl, .inr (SqT.of ht), fun p hp => ?_⟩
      have sp := same_upd (o := .lst [V.int (x1 : Int), V.int (x2 : Int), V.int (x3 : Int), V.int (x4 : Int)]) hp
      have Sp := (GStep.refl G).same sp
      have hpn := G.new_out hp
      have hL4 : (upd H p (.lst [V.int (x1 : Int), V.int (x2 : Int), V.int (x3 : Int), V.int (x4 : Int)])) p = some (.lst [V.int (x1 : Int), V.int (x2 : Int), V.int (x3 : Int), V.int (x4 : Int)]) := upd_same
      generalize upd H p (.lst [V.int (x1 : Int), V.int (x2 : Int), V.int (x3 : Int), V.int (x4 : Int)]) = H1 at Sp hL4 ⊢
      have h0 := Sq.two_pos A'.level
      have hh := (pow64' (i := A'.level) (by omega)).2
      have e2p := Sq.two_succ A'.level
      rw [hl, e2p] at hx1 hy1
      have G1 := Sp.gat
      rw [put_node] at k
      rw [hl] at k
      walk_at "rd"
      refine rd_fdiv h0 (by omega) ?_
      have by01 : y / 2 ^ A'.level = 0 ∨ y / 2 ^ A'.level = 1 := by
        rcases Int.lt_or_le y (2 ^ A'.level) with z | z
        · exact .inl (div_lo hy0 z).1
        · exact .inr (div_hi z hy1).1
      refine rd_I (small_mul (by decide) (by decide) (by omega) (by omega)) ?_
      walk_at "rd"
      refine rd_fdiv h0 (by omega) ?_
      walk_at "rd"
      by_cases cy : y < 2 ^ A'.level <;> by_cases cx : x < 2 ^ A'.level
      · rw [if_pos cy, if_pos cx] at k
        obtain ⟨dx1, dx2⟩ := div_lo hx0 cx
        obtain ⟨dy1, dy2⟩ := div_lo hy0 cy
        rw [dx1, dy1]
        refine rd_ixL (SqL.of hL4) (v := .int (x1 : Int)) rfl ?_
        walk_at "rd"
        refine rd_mod h0 ?_
        walk_at "rd"
        refine rd_mod h0 ?_
        walk_at "rd"
        rw [dx2, dy2]
        refine ⟨a, rows, q, x1, m, _, s, _, _, rfl, G1, e1, hm, by omega, by omega, by omega, by omega, by omega, by omega, hlen, fun H2 q2 r S2' l2 e6 => ?_⟩
        have S2 := Sp.trans S2'
        have o2 := (S2'.own hL4 hpn).1
        walk_at "rd"
        refine ⟨p, _, _, 0, rfl, rfl, o2, rfl, ?_⟩
        have G3 := S2.gat.upd (o := .lst [V.int (r : Int), V.int (x2 : Int), V.int (x3 : Int), V.int (x4 : Int)]) (fun u e => by rw [o2] at e; cases e; exact fun z => z) (S2'.own hL4 hpn).2
        have o3 : (upd H2 p (.lst [V.int (r : Int), V.int (x2 : Int), V.int (x3 : Int), V.int (x4 : Int)])) p = some (.lst [V.int (r : Int), V.int (x2 : Int), V.int (x3 : Int), V.int (x4 : Int)]) := upd_same
        have S3 : GStep (CG K) H a rows q (upd H2 p (.lst [V.int (r : Int), V.int (x2 : Int), V.int (x3 : Int), V.int (x4 : Int)])) rows q2 := ⟨G3, S2.pre, fun b o e nb => by
          rw [upd_ne (ne_of_none e hp)]
          exact S2.fr b o e nb, S2.new⟩
        walk_at "rd"
        refine rd_methR S3.gat.ob (by rfl) ?_
        walk_at "rd"
        refine rd_ixL (SqL.of o3) (v := .int (r : Int)) rfl ?_
        walk_at "rd"
        refine rd_ixL (SqL.of o3) (v := .int (x2 : Int)) rfl ?_
        walk_at "rd"
        refine rd_ixL (SqL.of o3) (v := .int (x3 : Int)) rfl ?_
        walk_at "rd"
        refine rd_ixL (SqL.of o3) (v := .int (x4 : Int)) rfl ?_
        walk_at "rd"
        refine ⟨a, rows, q2, _, _, _, _, r, x2, x3, x4, rfl, S3.gat, e6, pre_get S2.pre e2, pre_get S2.pre e3, pre_get S2.pre e4, ⟨wf_ x y wa, wb, wc, wd, by rw [lp]; exact ee1, by rw [lp]; exact ee2, by rw [lp]; exact ee3⟩, by rw [lp]; omega, by omega, fun H4 q4 r4 G4 p4 l4 f4 fr4 => ?_⟩
        exact k _ _ r4 (S3.m5 G4 p4 fr4) (by omega) f4
      · rw [if_pos cy, if_neg cx] at k
        obtain ⟨dx1, dx2⟩ := div_hi (Int.not_lt.mp cx) hx1
        obtain ⟨dy1, dy2⟩ := div_lo hy0 cy
        rw [dx1, dy1]
        refine rd_ixL (SqL.of hL4) (v := .int (x2 : Int)) rfl ?_
        walk_at "rd"
        refine rd_mod h0 ?_
        walk_at "rd"
        refine rd_mod h0 ?_
        walk_at "rd"
        rw [dx2, dy2]
        refine ⟨a, rows, q, x2, m, _, s, _, _, rfl, G1, e2, hm, by rw [ee1]; omega, by rw [ee1]; omega, by omega, by rw [ee1]; omega, by omega, by rw [ee1]; omega, hlen, fun H2 q2 r S2' l2 e6 => ?_⟩
        have S2 := Sp.trans S2'
        have o2 := (S2'.own hL4 hpn).1
        rw [ee1] at l2
        walk_at "rd"
        refine ⟨p, _, _, 1, rfl, rfl, o2, rfl, ?_⟩
        have G3 := S2.gat.upd (o := .lst [V.int (x1 : Int), V.int (r : Int), V.int (x3 : Int), V.int (x4 : Int)]) (fun u e => by rw [o2] at e; cases e; exact fun z => z) (S2'.own hL4 hpn).2
        have o3 : (upd H2 p (.lst [V.int (x1 : Int), V.int (r : Int), V.int (x3 : Int), V.int (x4 : Int)])) p = some (.lst [V.int (x1 : Int), V.int (r : Int), V.int (x3 : Int), V.int (x4 : Int)]) := upd_same
        have S3 : GStep (CG K) H a rows q (upd H2 p (.lst [V.int (x1 : Int), V.int (r : Int), V.int (x3 : Int), V.int (x4 : Int)])) rows q2 := ⟨G3, S2.pre, fun b o e nb => by
          rw [upd_ne (ne_of_none e hp)]
          exact S2.fr b o e nb, S2.new⟩
        walk_at "rd"
        refine rd_methR S3.gat.ob (by rfl) ?_
        walk_at "rd"
        refine rd_ixL (SqL.of o3) (v := .int (x1 : Int)) rfl ?_
        walk_at "rd"
        refine rd_ixL (SqL.of o3) (v := .int (r : Int)) rfl ?_
        walk_at "rd"
        refine rd_ixL (SqL.of o3) (v := .int (x3 : Int)) rfl ?_
        walk_at "rd"
        refine rd_ixL (SqL.of o3) (v := .int (x4 : Int)) rfl ?_
        walk_at "rd"
        refine ⟨a, rows, q2, _, _, _, _, x1, r, x3, x4, rfl, S3.gat, pre_get S2.pre e1, e6, pre_get S2.pre e3, pre_get S2.pre e4, ⟨wa, wf_ (x - 2 ^ A'.level) y wb, wc, wd, by rw [lp]; exact ee1, ee2, ee3⟩, by omega, by omega, fun H4 q4 r4 G4 p4 l4 f4 fr4 => ?_⟩
        exact k _ _ r4 (S3.m5 G4 p4 fr4) (by omega) f4
      · rw [if_neg cy, if_pos cx] at k
        obtain ⟨dx1, dx2⟩ := div_lo hx0 cx
        obtain ⟨dy1, dy2⟩ := div_hi (Int.not_lt.mp cy) hy1
        rw [dx1, dy1]
        refine rd_ixL (SqL.of hL4) (v := .int (x3 : Int)) rfl ?_
        walk_at "rd"
        refine rd_mod h0 ?_
        walk_at "rd"
        refine rd_mod h0 ?_
        walk_at "rd"
        rw [dx2, dy2]
        refine ⟨a, rows, q, x3, m, _, s, _, _, rfl, G1, e3, hm, by rw [ee2]; omega, by rw [ee2]; omega, by omega, by rw [ee2]; omega, by omega, by rw [ee2]; omega, hlen, fun H2 q2 r S2' l2 e6 => ?_⟩
        have S2 := Sp.trans S2'
        have o2 := (S2'.own hL4 hpn).1
        rw [ee2] at l2
        walk_at "rd"
        refine ⟨p, _, _, 2, rfl, rfl, o2, rfl, ?_⟩
        have G3 := S2.gat.upd (o := .lst [V.int (x1 : Int), V.int (x2 : Int), V.int (r : Int), V.int (x4 : Int)]) (fun u e => by rw [o2] at e; cases e; exact fun z => z) (S2'.own hL4 hpn).2
        have o3 : (upd H2 p (.lst [V.int (x1 : Int), V.int (x2 : Int), V.int (r : Int), V.int (x4 : Int)])) p = some (.lst [V.int (x1 : Int), V.int (x2 : Int), V.int (r : Int), V.int (x4 : Int)]) := upd_same
        have S3 : GStep (CG K) H a rows q (upd H2 p (.lst [V.int (x1 : Int), V.int (x2 : Int), V.int (r : Int), V.int (x4 : Int)])) rows q2 := ⟨G3, S2.pre, fun b o e nb => by
          rw [upd_ne (ne_of_none e hp)]
          exact S2.fr b o e nb, S2.new⟩
        walk_at "rd"
        refine rd_methR S3.gat.ob (by rfl) ?_
        walk_at "rd"
        refine rd_ixL (SqL.of o3) (v := .int (x1 : Int)) rfl ?_
        walk_at "rd"
        refine rd_ixL (SqL.of o3) (v := .int (x2 : Int)) rfl ?_
        walk_at "rd"
        refine rd_ixL (SqL.of o3) (v := .int (r : Int)) rfl ?_
        walk_at "rd"
        refine rd_ixL (SqL.of o3) (v := .int (x4 : Int)) rfl ?_
        walk_at "rd"
        refine ⟨a, rows, q2, _, _, _, _, x1, x2, r, x4, rfl, S3.gat, pre_get S2.pre e1, pre_get S2.pre e2, e6, pre_get S2.pre e4, ⟨wa, wb, wf_ x (y - 2 ^ A'.level) wc, wd, ee1, by rw [lp]; exact ee2, ee3⟩, by omega, by omega, fun H4 q4 r4 G4 p4 l4 f4 fr4 => ?_⟩
        exact k _ _ r4 (S3.m5 G4 p4 fr4) (by omega) f4
      · rw [if_neg cy, if_neg cx] at k
        obtain ⟨dx1, dx2⟩ := div_hi (Int.not_lt.mp cx) hx1
        obtain ⟨dy1, dy2⟩ := div_hi (Int.not_lt.mp cy) hy1
        rw [dx1, dy1]
        refine rd_ixL (SqL.of hL4) (v := .int (x4 : Int)) rfl ?_
        walk_at "rd"
        refine rd_mod h0 ?_
        walk_at "rd"
        refine rd_mod h0 ?_
        walk_at "rd"
        rw [dx2, dy2]
        refine ⟨a, rows, q, x4, m, _, s, _, _, rfl, G1, e4, hm, by rw [ee3]; omega, by rw [ee3]; omega, by omega, by rw [ee3]; omega, by omega, by rw [ee3]; omega, hlen, fun H2 q2 r S2' l2 e6 => ?_⟩
        have S2 := Sp.trans S2'
        have o2 := (S2'.own hL4 hpn).1
        rw [ee3] at l2
        walk_at "rd"
        refine ⟨p, _, _, 3, rfl, rfl, o2, rfl, ?_⟩
        have G3 := S2.gat.upd (o := .lst [V.int (x1 : Int), V.int (x2 : Int), V.int (x3 : Int), V.int (r : Int)]) (fun u e => by rw [o2] at e; cases e; exact fun z => z) (S2'.own hL4 hpn).2
        have o3 : (upd H2 p (.lst [V.int (x1 : Int), V.int (x2 : Int), V.int (x3 : Int), V.int (r : Int)])) p = some (.lst [V.int (x1 : Int), V.int (x2 : Int), V.int (x3 : Int), V.int (r : Int)]) := upd_same
        have S3 : GStep (CG K) H a rows q (upd H2 p (.lst [V.int (x1 : Int), V.int (x2 : Int), V.int (x3 : Int), V.int (r : Int)])) rows q2 := ⟨G3, S2.pre, fun b o e nb => by
          rw [upd_ne (ne_of_none e hp)]
          exact S2.fr b o e nb, S2.new⟩
        walk_at "rd"
        refine rd_methR S3.gat.ob (by rfl) ?_
        walk_at "rd"
        refine rd_ixL (SqL.of o3) (v := .int (x1 : Int)) rfl ?_
        walk_at "rd"
        refine rd_ixL (SqL.of o3) (v := .int (x2 : Int)) rfl ?_
        walk_at "rd"
        refine rd_ixL (SqL.of o3) (v := .int (x3 : Int)) rfl ?_
        walk_at "rd"
        refine rd_ixL (SqL.of o3) (v := .int (r : Int)) rfl ?_
        walk_at "rd"
        refine ⟨a, rows, q2, _, _, _, _, x1, x2, x3, r, rfl, S3.gat, pre_get S2.pre e1, pre_get S2.pre e2, pre_get S2.pre e3, e6, ⟨wa, wb, wc, wf_ (x - 2 ^ A'.level) (y - 2 ^ A'.level) wd, ee1, ee2, by rw [lp]; exact ee3⟩, by omega, by omega, fun H4 q4 r4 G4 p4 l4 f4 fr4 => ?_⟩
        exact k _ _ r4 (S3.m5 G4 p4 fr4) (by omega) f4
end
end JF

/-! ### fields: planted -/
namespace JF
open PySem PySem.Spec PyProof.Rows L2
theorem dec_use {c : TT} {σ : L2.St} {H : Hp} {QB : Bool → Hp → Prop} (b : Bool) (h : ∀ QB : Bool → Hp → Prop, QB b H → c σ H QB) (q : QB b H) : c σ H QB := h _ q
theorem half_two {S : Sq} (h : 1 ≤ S.level) : (2 : Int) ^ S.level = 2 * S.half := by
  have e : S.level = (S.level - 1) + 1 := by omega
  rw [e]; exact Sq.two_succ _
theorem val_put {W : Sq} (w : W.wf) (h : 1 ≤ W.level) {x y s : Int} (hx0 : -W.half ≤ x) (hx1 : x < W.half) (hy0 : -W.half ≤ y) (hy1 : y < W.half) (u v : Int) : (W.put (x + W.half) (y + W.half) s).val u v = if u = x ∧ v = y then s else W.val u v := by
  have e := half_two h
  have eh : (W.put (x + W.half) (y + W.half) s).half = W.half := by unfold Sq.half; rw [Sq.level_put]
  unfold Sq.val
  rw [eh]
  by_cases z : -W.half ≤ u ∧ u < W.half ∧ -W.half ≤ v ∧ v < W.half
  · rw [if_pos z, if_pos z, Sq.get_put w (by omega) (by omega) (by omega) (by omega) (by omega) (by omega) (by omega) (by omega)]
    by_cases y' : u = x ∧ v = y
    · rw [if_pos y', if_pos (by omega)]
    · rw [if_neg y', if_neg (by omega)]
  · rw [if_neg z, if_neg z, if_neg (by omega)]
section
variable {P : Program} {w : World} {K : PySem.W.Frag} {mg : Str → Option Value} {base : Heap}
def sp_planted (C : Addr) : Sp := fun vs H Q _ => ∃ (a : GA) (rows : List (Int × Addr)) (q : List Sq) (n : Nat) (S : Sq) (x y s : Int), vs = [.ref a.g, .int (n : Int), .int x, .int y, .int s] ∧ GAt C H a rows q ∧ q[n]? = some S ∧ 1 ≤ S.level ∧ S.level ≤ 41 ∧ InGround x y ∧ 0 ≤ s ∧ s ≤ 7 ∧
  q.length + 10000 < 16000000 ∧ ∀ H' rows' q' (m : Nat) (T : Sq), GStep C H a rows q H' rows' q' → q'.length ≤ q.length + 4000 → q'[m]? = some T → 1 ≤ T.level → T.level ≤ 41 → T.Least → (∀ u v, T.val u v = if u = x ∧ v = y then s else S.val u v) → Q (.int (m : Int)) H'
theorem mp_planted {C : Addr} : MonP (sp_planted C) := fun vs H Q Q' E h ⟨a, rows, q, n, S, x, y, s, x1, x2, x3, x4, x5, x6, x7, x8, x9, k⟩ => ⟨a, rows, q, n, S, x, y, s, x1, x2, x3, x4, x5, x6, x7, x8, x9, fun H' r' q' m T g l e f1 f2 f3 f4 => h _ _ (k H' r' q' m T g l e f1 f2 f3 f4)⟩
set_option maxHeartbeats 8000000 in
theorem ok_planted (T : Env fa fn K mg) : Good P w K mg base CX0 48 ("planted", none) ["grove", "field", "x", "y", "state"] (sp_planted (CG K)) := by
  have G_in_ground := ok_in_ground (P := P) (w := w) (base := base) T
  have G_Grove_leaf := ok_leaf (P := P) (w := w) (base := base) T
  have G_Grove_level_of := ok_level_of (P := P) (w := w) (base := base) T
  have G_widened := ok_widened (P := P) (w := w) (base := base) T
  have G_trimmed := ok_trimmed (P := P) (w := w) (base := base) T
  have G_put_in := ok_put_in (P := P) (w := w) (base := base) T 42
  refine good_mk T 26 (d := d_planted) (N := ["grove", "field", "x", "y", "state", "leaf", "half"]) (ps := ["grove", "field", "x", "y", "state"]) rfl rfl sc_planted (fun _ _ _ _ _ _ us hl => match us, hl with | [_, _, _, _, _], _ => rfl) (fun vs H Q E h => ?_) (fun f cdv A outer σ0 H vs Q E hr h => ?_)
  · obtain ⟨a, rows, q, n, S, x, y, s, rfl, _⟩ := h; rfl
  · obtain ⟨a, rows, q, n, S, x, y, s, rfl, G, hn, h1, h41, hg, h0, h7, hlen, k⟩ := h
    refine ⟨_, (pss_cons (ps_if (pt_not (pt_val (pe_cgK K rfl G_in_ground (hr.mono (by decide)) (T.glo 29) (pa_cons (pv 2) (pa_cons (pv 3) pa_nil))))) pss_never pss_nil)
      (pss_cons (ps_set (i := 5) sc_planted.nd rfl (Or.inl rfl) (pe_mgK K rfl (pv 0) (T.cls 0) (T.meth 30) G_Grove_leaf (hr.mono (by decide)) (pa_cons (pv 4) pa_nil)))
      (pss_cons (ps_set (i := 6) sc_planted.nd rfl (Or.inl rfl) (pe_op op_shl pe_int (pe_op op_sub (pe_mgK K rfl (pv 0) (T.cls 0) (T.meth 2) G_Grove_level_of (hr.mono (by decide)) (pa_cons (pv 1) pa_nil)) pe_int)))
      (pss_cons (ps_while PassesOwn.never (PW.pt (pw_or (pt_not (pt_chain op_le op_lt (pe_un un_neg (pv 6)) (pv 2) (pv 6))) (pw_or1 (pt_not (pt_chain op_le op_lt (pe_un un_neg (pv 6)) (pv 3) (pv 6)))))) (pss_cons (ps_set (i := 1) sc_planted.nd rfl (Or.inl rfl) (pe_cgK K rfl G_widened (hr.mono (by decide)) (T.glo 31) (pa_cons (pv 0) (pa_cons (pv 1) pa_nil))))
      (pss_one (ps_set (i := 6) sc_planted.nd rfl (Or.inl rfl) (pe_op op_mulW pe_int (pv 6))))))
      (pss_one (ps_ret (pe_cgK K rfl G_trimmed (hr.mono (by decide)) (T.glo 32) (pa_cons (pv 0) (pa_cons (pe_cgK K rfl G_put_in (hr.mono (by decide)) (T.glo 28) (pa_cons (pv 0) (pa_cons (pv 1) (pa_cons (pe_op op_add (pv 2) (pv 6)) (pa_cons (pe_op op_add (pv 3) (pv 6)) (pa_cons (pv 5) pa_nil)))))) pa_nil))))))))), ?_⟩
    walk_at "rd"
    refine ⟨x, y, rfl, hg, ?_⟩
    walk_at "rd"
    refine rd_methR G.ob (by rfl) ?_
    walk_at "rd"
    refine ⟨a, rows, q, s, rfl, G, h0, h7, by omega, fun H1 q1 ml G1 p1 l1 e1 fr1 => ?_⟩
    have S1 := (GStep.refl G).m5 G1 p1 fr1
    walk_at "rd"
    refine rd_methR G1.ob (by rfl) ?_
    walk_at "rd"
    refine ⟨a, rows, q1, n, _, rfl, G1, pre_get p1 hn, by omega, ?_⟩
    walk_at "rd"
    have el : ((S.level : Nat) : Int) - 1 = ((S.level - 1 : Nat) : Int) := by omega
    rw [el]
    refine rd_I (by refine ⟨by omega, by omega, by decide⟩) ?_
    rw [shl_ok']
    walk_at "rd"
    refine while_m (fun m σ H' => ∃ (r2 : List (Int × Addr)) (q2 : List Sq) (n2 : Nat) (W : Sq), σ = [some (.ref a.g), some (.int (n2 : Int)), some (.int x), some (.int y), some (.int s), some (.int (ml : Int)), some (.int W.half)] ∧ GStep (CG K) H a rows q H' r2 q2 ∧ q1 <+: q2 ∧ q2[n2]? = some W ∧
      m + W.level = 41 ∧ 1 ≤ W.level ∧ (∀ u v, W.val u v = S.val u v) ∧ q2.length ≤ q.length + 1 + 60 * W.level) (41 - S.level) ⟨rows, q1, n, S, rfl, S1, List.prefix_refl _, pre_get p1 hn, by omega, h1, fun _ _ => rfl, by omega⟩ ?_
    rintro m σ H2 ⟨r2, q2, n2, W, rfl, S2, p12, hn2, hm, hW1, hval, hq2⟩
    have wW := S2.gat.wf _ (List.mem_of_getElem? hn2)
    have hp : 0 < W.half := Sq.two_pos _
    have h64 := (pow64' (i := W.level - 1) (by omega)).2
    have h64' : W.half < 2 ^ 64 := h64
    refine dec_use (!decide (-W.half ≤ x ∧ x < W.half ∧ -W.half ≤ y ∧ y < W.half)) (fun QB hq => ?_) ?_
    · walk_at "rd"
      by_cases c1 : -W.half ≤ x
      rotate_left
      · rw [decide_eq_false (by omega)] at hq
        rw [decide_eq_false c1]; walk_at "rd"; exact hq
      rw [decide_eq_true c1]
      walk_at "rd"
      by_cases c2 : x < W.half
      rotate_left
      · rw [decide_eq_false (by omega)] at hq
        rw [decide_eq_false c2]; walk_at "rd"; exact hq
      rw [decide_eq_true c2]
      walk_at "rd"
      by_cases c3 : -W.half ≤ y
      rotate_left
      · rw [decide_eq_false (by omega)] at hq
        rw [decide_eq_false c3]; walk_at "rd"; exact hq
      rw [decide_eq_true c3]
      walk_at "rd"
      by_cases c4 : y < W.half
      rotate_left
      · rw [decide_eq_false (by omega)] at hq
        rw [decide_eq_false c4]; exact hq
      rw [decide_eq_true ⟨c1, c2, c3, c4⟩] at hq
      rw [decide_eq_true c4]
      exact hq
    · refine ite_nd (fun hin => ?_) (fun hin => ?_)
      · have hlt : W.level ≤ 40 := by
          apply Decidable.byContradiction
          intro z
          have e : W.level = 41 := by omega
          have eh : W.half = 1099511627776 := by unfold Sq.half; rw [e]; decide
          obtain ⟨g1, g2, g3, g4⟩ := hg
          exact hin (by rw [eh]; omega)
        refine ⟨fun σ' H' => ∃ m', m' < m ∧ _, fun _ _ h => h, ?_⟩
        walk_at "rd"
        refine ⟨a, r2, q2, n2, W, rfl, S2.gat, hn2, hW1, by omega, by omega, fun H3 r3 q3 m3 S3 l3 e3 => ?_⟩
        walk_at "rd"
        refine rd_I (small_mul (by decide) (by decide) (by omega) (by omega)) ?_
        walk_at "rd"
        have lw := Sq.level_wide hW1
        have hw2 : W.wide.half = 2 * W.half := by
          unfold Sq.half
          rw [lw]
          have e : W.level + 1 - 1 = (W.level - 1) + 1 := by omega
          rw [e]; exact Sq.two_succ _
        exact ⟨m - 1, by omega, r3, q3, m3, W.wide, by rw [hw2]; rfl, S2.trans S3, p12.trans S3.pre, e3, by omega, by omega, fun u v => (Sq.val_wide wW hW1 u v).trans (hval u v), by omega⟩
      · obtain ⟨c1, c2, c3, c4⟩ := hin
        have e2 := half_two hW1
        walk_at "rd"
        refine ⟨a, r2, q2, n2, ml, W, s, _, _, rfl, S2.gat, hn2, pre_get p12 e1, by omega, by omega, by omega, by omega, by omega, by omega, by omega, fun H3 q3 m3 S3 l3 e3 => ?_⟩
        walk_at "rd"
        have lp := Sq.level_put s W (x + W.half) (y + W.half)
        have wp := Sq.wf_put h0 h7 (x + W.half) (y + W.half) wW
        refine ⟨a, r2, q3, m3, _, rfl, S3.gat, e3, by omega, by omega, by omega, fun H4 q4 m4 S4 l4 e4 => ?_⟩
        obtain ⟨g1, g2, g3, g4, g5⟩ := Sq.trimN_ok (W.put (x + W.half) (y + W.half) s).level wp (by omega) (Nat.le_refl _)
        refine k _ _ _ m4 _ ((S2.trans S3).trans S4) (by omega) e4 g2 (Nat.le_trans g3 (by omega)) g4 fun u v => ?_
        rw [← hval u v]
        exact (g5 u v).trans (val_put wW hW1 c1 c2 c3 c4 u v)
end
end JF

/-! ### fields: what is trimmed, the least level -/
namespace JF
open PySem PySem.Spec PyProof.Rows L2
/-! #### the plain law -/
theorem lives_wide {S : Sq} (h : 1 ≤ S.level) : S.wide.lives = S.lives := by
  obtain ⟨a, b, c, d, rfl⟩ := Sq.node_of h
  have e := (even_none a.level).1
  show (_ : Int) = a.lives + b.lives + c.lives + d.lives
  simp only [Sq.wide, Sq.lives, e]
  omega
theorem trim_wide {S : Sq} (w : S.wf) (h : 1 ≤ S.level) : S.wide.trim = S.trim := by
  have hm : S.wide.mid = S := by
    obtain ⟨a, b, c, d, rfl⟩ := Sq.node_of h
    rfl
  have e := Sq.trim_mid (Sq.wf_wide w) (by rw [Sq.level_wide h]; omega) (by rw [hm, lives_wide h]; omega)
  rw [hm] at e
  exact e
theorem lives_of_get : ∀ {S : Sq}, S.wf → (∀ x y, 0 ≤ x → x < 2 ^ S.level → 0 ≤ y → y < 2 ^ S.level → S.get x y = 0) → S.lives = 0
  | .leaf s, _, h => by
    have e : s = 0 := h 0 0 (by decide) (by show (0 : Int) < 1; decide) (by decide) (by show (0 : Int) < 1; decide)
    subst e; rfl
  | .node a b c d, ⟨wa, wb, wc, wd, e1, e2, e3⟩, h => by
    have el : (2 : Int) ^ (Sq.node a b c d).level = 2 * 2 ^ a.level := Sq.two_succ _
    rw [el] at h
    have hp := Sq.two_pos a.level
    have ha := lives_of_get wa fun x y h1 h2 h3 h4 => by
      have z := h x y h1 (by omega) h3 (by omega)
      rw [get_node, if_pos h4, if_pos h2] at z
      exact z
    have hb := lives_of_get wb fun x y h1 h2 h3 h4 => by
      rw [e1] at h2 h4
      have z := h (x + 2 ^ a.level) y (by omega) (by omega) h3 (by omega)
      rw [get_node, if_pos h4, if_neg (by omega), Int.add_sub_cancel] at z
      exact z
    have hc := lives_of_get wc fun x y h1 h2 h3 h4 => by
      rw [e2] at h2 h4
      have z := h x (y + 2 ^ a.level) h1 (by omega) (by omega) (by omega)
      rw [get_node, if_neg (by omega), if_pos h2, Int.add_sub_cancel] at z
      exact z
    have hd := lives_of_get wd fun x y h1 h2 h3 h4 => by
      rw [e3] at h2 h4
      have z := h (x + 2 ^ a.level) (y + 2 ^ a.level) (by omega) (by omega) (by omega) (by omega)
      rw [get_node, if_neg (by omega), if_neg (by omega), Int.add_sub_cancel, Int.add_sub_cancel] at z
      exact z
    show a.lives + b.lives + c.lives + d.lives = 0
    omega
theorem two_le (n : Nat) : ∀ k : Nat, (2 : Int) ^ n ≤ 2 ^ (n + k)
  | 0 => Int.le_refl _
  | k + 1 => by
    have h := two_le n k
    have e : (2 : Int) ^ (n + (k + 1)) = 2 * 2 ^ (n + k) := Sq.two_succ (n + k)
    have p := Sq.two_pos (n + k)
    omega
theorem two_mono {n m : Nat} (h : n ≤ m) : (2 : Int) ^ n ≤ 2 ^ m := by
  have e := two_le n (m - n)
  rwa [Nat.add_sub_cancel' h] at e
def InL (r : Nat) (x y : Int) : Prop := -(2 ^ (r - 1)) ≤ x ∧ x < 2 ^ (r - 1) ∧ -(2 ^ (r - 1)) ≤ y ∧ y < 2 ^ (r - 1)
instance (r : Nat) (x y : Int) : Decidable (InL r x y) := by unfold InL; infer_instance
theorem InL.up {r : Nat} {x y : Int} (h : InL r x y) (h1 : 1 ≤ r) : InL (r + 1) x y := by
  have e : (2 : Int) ^ (r + 1 - 1) = 2 * 2 ^ (r - 1) := by
    have e : r + 1 - 1 = (r - 1) + 1 := by omega
    rw [e]; exact Sq.two_succ _
  have hp := Sq.two_pos (r - 1)
  unfold InL at *
  rw [e]
  omega
theorem InL.mono {r : Nat} {x y : Int} (h : InL r x y) (h1 : 1 ≤ r) : ∀ k, InL (r + k) x y
  | 0 => h
  | k + 1 => (InL.mono h h1 k).up (by omega)
theorem val_in {S : Sq} {x y : Int} (h : S.val x y ≠ 0) : InL S.level x y := by
  apply Decidable.byContradiction
  intro z
  apply h
  unfold Sq.val
  exact if_neg z
theorem least_out {S : Sq} (w : S.wf) (h2 : 2 ≤ S.level) (hl : S.mid.lives < S.lives) : ∃ x y, S.val x y ≠ 0 ∧ ¬ InL (S.level - 1) x y := by
  apply Classical.byContradiction
  intro hn
  have hz : ∀ x y, ¬ InL (S.level - 1) x y → S.val x y = 0 := fun x y z => Classical.byContradiction fun y' => hn ⟨x, y, y', z⟩
  obtain ⟨a1, a2, a3, a4, b1, b2, b3, b4, c1, c2, c3, c4, d1, d2, d3, d4, rfl⟩ := Sq.mid_form w h2
  obtain ⟨wa, wb, wc, wd, e1, e2, e3⟩ := w
  simp only [Sq.wf] at wa wb wc wd
  simp only [Sq.level] at e1 e2 e3
  have lv : (Sq.node (Sq.node a1 a2 a3 a4) (Sq.node b1 b2 b3 b4) (Sq.node c1 c2 c3 c4) (Sq.node d1 d2 d3 d4)).level = a1.level + 1 + 1 := rfl
  have h0 := Sq.two_pos a1.level
  have e2' := Sq.two_succ a1.level
  have hlf : (Sq.node (Sq.node a1 a2 a3 a4) (Sq.node b1 b2 b3 b4) (Sq.node c1 c2 c3 c4) (Sq.node d1 d2 d3 d4)).half = 2 * 2 ^ a1.level := e2'
  have lb : b1.level = a1.level := by omega
  have lc : c1.level = a1.level := by omega
  have ld : d1.level = a1.level := by omega
  -- the cell at an offset
  have key : ∀ X Y : Int, 0 ≤ X → X < 4 * 2 ^ a1.level → 0 ≤ Y → Y < 4 * 2 ^ a1.level → ¬ (2 ^ a1.level ≤ X ∧ X < 3 * 2 ^ a1.level ∧ 2 ^ a1.level ≤ Y ∧ Y < 3 * 2 ^ a1.level) →
      (Sq.node (Sq.node a1 a2 a3 a4) (Sq.node b1 b2 b3 b4) (Sq.node c1 c2 c3 c4) (Sq.node d1 d2 d3 d4)).get X Y = 0 := fun X Y h1 h2 h3 h4 h5 => by
    have z := hz (X - 2 * 2 ^ a1.level) (Y - 2 * 2 ^ a1.level) (by
      unfold InL
      have e : a1.level + 1 + 1 - 1 - 1 = a1.level := by omega
      rw [lv, e]
      omega)
    unfold Sq.val at z
    rw [hlf, if_pos (by omega), Int.sub_add_cancel, Int.sub_add_cancel] at z
    exact z
  simp only [get_node, Sq.level, lb, lc, ld, e2'] at key
  have za1 := lives_of_get wa.1 fun x y p1 p2 p3 p4 => by
    have z := key x y p1 (by omega) p3 (by omega) (by omega)
    rwa [if_pos (by omega), if_pos (by omega), if_pos (by omega), if_pos (by omega)] at z
  have za2 := lives_of_get wa.2.1 fun x y p1 p2 p3 p4 => by
    have l2 : a2.level = a1.level := by omega
    rw [l2] at p2 p4
    have z := key (x + 2 ^ a1.level) y (by omega) (by omega) p3 (by omega) (by omega)
    rwa [if_pos (by omega), if_pos (by omega), if_pos (by omega), if_neg (by omega), Int.add_sub_cancel] at z
  have za3 := lives_of_get wa.2.2.1 fun x y p1 p2 p3 p4 => by
    have l2 : a3.level = a1.level := by omega
    rw [l2] at p2 p4
    have z := key x (y + 2 ^ a1.level) (by omega) (by omega) (by omega) (by omega) (by omega)
    rwa [if_pos (by omega), if_pos (by omega), if_neg (by omega), if_pos (by omega), Int.add_sub_cancel] at z
  have zb1 := lives_of_get wb.1 fun x y p1 p2 p3 p4 => by
    rw [lb] at p2 p4
    have z := key (x + 2 * 2 ^ a1.level) y (by omega) (by omega) p3 (by omega) (by omega)
    rwa [if_pos (by omega), if_neg (by omega), if_pos (by omega), if_pos (by omega), Int.add_sub_cancel] at z
  have zb2 := lives_of_get wb.2.1 fun x y p1 p2 p3 p4 => by
    have l2 : b2.level = a1.level := by omega
    rw [l2] at p2 p4
    have z := key (x + 3 * 2 ^ a1.level) y (by omega) (by omega) p3 (by omega) (by omega)
    rw [if_pos (by omega), if_neg (by omega), if_pos (by omega), if_neg (by omega)] at z
    have e : x + 3 * 2 ^ a1.level - 2 * 2 ^ a1.level - 2 ^ a1.level = x := by omega
    rwa [e] at z
  have zb4 := lives_of_get wb.2.2.2.1 fun x y p1 p2 p3 p4 => by
    have l2 : b4.level = a1.level := by omega
    rw [l2] at p2 p4
    have z := key (x + 3 * 2 ^ a1.level) (y + 2 ^ a1.level) (by omega) (by omega) (by omega) (by omega) (by omega)
    rw [if_pos (by omega), if_neg (by omega), if_neg (by omega), if_neg (by omega), Int.add_sub_cancel] at z
    have e : x + 3 * 2 ^ a1.level - 2 * 2 ^ a1.level - 2 ^ a1.level = x := by omega
    rwa [e] at z
  have zc1 := lives_of_get wc.1 fun x y p1 p2 p3 p4 => by
    rw [lc] at p2 p4
    have z := key x (y + 2 * 2 ^ a1.level) (by omega) (by omega) (by omega) (by omega) (by omega)
    rwa [if_neg (by omega), if_pos (by omega), if_pos (by omega), if_pos (by omega), Int.add_sub_cancel] at z
  have zc3 := lives_of_get wc.2.2.1 fun x y p1 p2 p3 p4 => by
    have l2 : c3.level = a1.level := by omega
    rw [l2] at p2 p4
    have z := key x (y + 3 * 2 ^ a1.level) (by omega) (by omega) (by omega) (by omega) (by omega)
    rw [if_neg (by omega), if_pos (by omega), if_neg (by omega), if_pos (by omega)] at z
    have e : y + 3 * 2 ^ a1.level - 2 * 2 ^ a1.level - 2 ^ a1.level = y := by omega
    rwa [e] at z
  have zc4 := lives_of_get wc.2.2.2.1 fun x y p1 p2 p3 p4 => by
    have l2 : c4.level = a1.level := by omega
    rw [l2] at p2 p4
    have z := key (x + 2 ^ a1.level) (y + 3 * 2 ^ a1.level) (by omega) (by omega) (by omega) (by omega) (by omega)
    rw [if_neg (by omega), if_pos (by omega), if_neg (by omega), if_neg (by omega), Int.add_sub_cancel] at z
    have e : y + 3 * 2 ^ a1.level - 2 * 2 ^ a1.level - 2 ^ a1.level = y := by omega
    rwa [e] at z
  have zd2 := lives_of_get wd.2.1 fun x y p1 p2 p3 p4 => by
    have l2 : d2.level = a1.level := by omega
    rw [l2] at p2 p4
    have z := key (x + 3 * 2 ^ a1.level) (y + 2 * 2 ^ a1.level) (by omega) (by omega) (by omega) (by omega) (by omega)
    rw [if_neg (by omega), if_neg (by omega), if_pos (by omega), if_neg (by omega), Int.add_sub_cancel] at z
    have e : x + 3 * 2 ^ a1.level - 2 * 2 ^ a1.level - 2 ^ a1.level = x := by omega
    rwa [e] at z
  have zd3 := lives_of_get wd.2.2.1 fun x y p1 p2 p3 p4 => by
    have l2 : d3.level = a1.level := by omega
    rw [l2] at p2 p4
    have z := key (x + 2 * 2 ^ a1.level) (y + 3 * 2 ^ a1.level) (by omega) (by omega) (by omega) (by omega) (by omega)
    rw [if_neg (by omega), if_neg (by omega), if_neg (by omega), if_pos (by omega), Int.add_sub_cancel] at z
    have e : y + 3 * 2 ^ a1.level - 2 * 2 ^ a1.level - 2 ^ a1.level = y := by omega
    rwa [e] at z
  have zd4 := lives_of_get wd.2.2.2.1 fun x y p1 p2 p3 p4 => by
    have l2 : d4.level = a1.level := by omega
    rw [l2] at p2 p4
    have z := key (x + 3 * 2 ^ a1.level) (y + 3 * 2 ^ a1.level) (by omega) (by omega) (by omega) (by omega) (by omega)
    rw [if_neg (by omega), if_neg (by omega), if_neg (by omega), if_neg (by omega)] at z
    have e : x + 3 * 2 ^ a1.level - 2 * 2 ^ a1.level - 2 ^ a1.level = x := by omega
    have e' : y + 3 * 2 ^ a1.level - 2 * 2 ^ a1.level - 2 ^ a1.level = y := by omega
    rwa [e, e'] at z
  simp only [Sq.mid, Sq.lives] at hl
  omega
end JF

/-! ### helpers of the laws: the script beside a grove -/
namespace JF
open PySem PySem.Spec PyProof.Rows L2
/-- the script stays as it was, and is none of the grove's own -/
def Scr (H0 : Hp) (a0 : Addr) (a : GA) (rows : List (Int × Addr)) (H : Hp) : Prop := ∀ o, H0 a0 = some o → H a0 = some o ∧ a0 ∉ a.muts rows
theorem Scr.new {H0 H1 : Hp} {a0 : Addr} {a : GA} (hnew : ∀ b ∈ a.muts [], H0 b = none) (sm : Same H0 H1) : Scr H0 a0 a [] H1 := fun o e => ⟨sm _ _ e, fun z => by
  have y := hnew _ z
  rw [e] at y
  cases y⟩
theorem Scr.same {H0 H H' : Hp} {a0 : Addr} {a : GA} {rows : List (Int × Addr)} (h : Scr H0 a0 a rows H) (s : Same H H') : Scr H0 a0 a rows H' := fun o e => ⟨s _ _ (h o e).1, (h o e).2⟩
theorem Scr.step {C : Addr} {H0 H H1 : Hp} {a0 : Addr} {a : GA} {rows r1 : List (Int × Addr)} {q q1 : List Sq} (h : Scr H0 a0 a rows H) (x : GStep C H a rows q H1 r1 q1) : Scr H0 a0 a r1 H1 := fun o e => x.own (h o e).1 (h o e).2
theorem Scr.put {H0 H : Hp} {a0 p : Addr} {a : GA} {rows : List (Int × Addr)} {xs : List V} {o' : HO} (h : Scr H0 a0 a rows H) (hO : Only H0) (hp : H p = some (.lst xs)) : Scr H0 a0 a rows (upd H p o') := fun o e => by
  refine ⟨?_, (h o e).2⟩
  rw [upd_ne]
  · exact (h o e).1
  · rintro rfl
    rw [(h o e).1] at hp
    cases hp
    rcases hO a0 with z | ⟨u, ys, z⟩
    · rw [z] at e; cases e
    · rw [z] at e; cases e
theorem Scr.sq {K : PySem.W.Frag} {H0 H : Hp} {a0 : Addr} {a : GA} {rows : List (Int × Addr)} {xs : List V} (h : Scr H0 a0 a rows H) (hS : SqL K H0 a0 xs) : SqL K H a0 xs := sqL_on hS fun o e => (h o e).1
/-- the number read at a place -/
theorem rd_at {K : PySem.W.Frag} {H : Hp} {Q : VK} {E : XK} {a0 : Addr} {ns : List Int} {k : Int} (hs : SqL K H a0 (ns.map V.int)) (h0 : 0 ≤ k) (q : Q (.int (atN ns k.toNat)) H) : sp_at K [.ref a0, .int k] H Q E := ⟨a0, ns, k, rfl, hs, h0, q⟩
theorem nat_of {z : Int} (h : 0 ≤ z) : ∃ n : Nat, z = (n : Int) := ⟨z.toNat, by omega⟩
/-- range(i, j, c), small and upwards -/
theorem rgc_up {i j c : Int} (h1 : 0 ≤ i) (h2 : i ≤ 1000) (h3 : 0 ≤ j) (h4 : j ≤ 1000) (h5 : 1 ≤ c) (h6 : c ≤ 1000) : ∃ n : Nat, RgC i j c n ∧ ∀ k : Nat, k < n → i + (k : Int) * c < j := by
  have hq : 0 ≤ (j - i + c - 1) / c ∨ j ≤ i := by
    rcases Int.lt_or_le i j with h | h
    · left; exact Int.ediv_nonneg (by omega) (by omega)
    · exact .inr h
  have hle : (j - i + c - 1) / c ≤ 3000 := by
    rcases Int.lt_or_le (j - i + c - 1) 0 with h | h
    · have := Int.ediv_neg_of_neg_of_pos h (by omega : 0 < c); omega
    · exact Int.le_trans (Int.ediv_le_self _ h) (by omega)
  have es : Builtin.Range.rangeSize i j c = if i < j then (j - i - 1) / c + 1 else 0 := by
    unfold Builtin.Range.rangeSize
    rw [if_pos (by omega : c > 0)]
  have hdn : i < j → 0 ≤ (j - i - 1) / c := fun h => Int.ediv_nonneg (by omega) (by omega)
  have hdl : i < j → (j - i - 1) / c ≤ 1000 := fun h => Int.le_trans (Int.ediv_le_self _ (by omega)) (by omega)
  refine ⟨(Builtin.Range.rangeSize i j c).toNat, ⟨by omega, by omega, ?_, ?_⟩, fun k hk => ?_⟩
  · unfold Builtin.Range.small
    rw [es]
    simp only [Builtin.Range.rangeFitsLong, Bool.and_eq_true, Bool.or_eq_true, decide_eq_true_eq, beq_iff_eq, show c > 0 by omega, if_true]
    split
    · have a := hdn (by assumption); have b := hdl (by assumption); omega
    · omega
  · rw [es]
    split
    · have a := hdn (by assumption); omega
    · rfl
  · rw [es] at hk
    split at hk
    · have a := hdn (by assumption)
      have e := Int.mul_ediv_add_emod (j - i - 1) c
      have r := Int.emod_nonneg (j - i - 1) (by omega : c ≠ 0)
      have hk' : (k : Int) ≤ (j - i - 1) / c := by omega
      have hm : (k : Int) * c ≤ (j - i - 1) / c * c := Int.mul_le_mul_of_nonneg_right hk' (by omega)
      rw [Int.mul_comm ((j - i - 1) / c) c] at hm
      omega
    · omega
theorem rd_rng3 {i j c : Int} {R : It → Prop} (h1 : 0 ≤ i) (h2 : i ≤ 1000) (h3 : 0 ≤ j) (h4 : j ≤ 1000) (h5 : 1 ≤ c) (h6 : c ≤ 1000) (h : ∀ n : Nat, (∀ k : Nat, k < n → i + (k : Int) * c < j) → R (Itc i c n)) : ∃ (i' j' c' : Int) (n : Nat), [V.int i, V.int j, V.int c] = [.int i', .int j', .int c'] ∧ RgC i' j' c' n ∧ R (Itc i' c' n) := by
  obtain ⟨n, a, b⟩ := rgc_up h1 h2 h3 h4 h5 h6
  exact ⟨i, j, c, n, rfl, a, h n b⟩
end JF

/-! ### d.keys() of a dict by pairs of ints, and its sorting -/
namespace JF
open PySem PySem.Spec PyProof.Rows L2
section
variable {prog : Program} {w : World} {A : Around} {E : Value → Shared → Prop} {s : Shared}
open PySem.W in
/-- what is collected of a source, and that the heap has not become shorter -/
theorem coll_src {T : String} {r d : Addr} {n : Nat} {P : Nat → Value → Prop} {OK : Heap → Prop} {R : List Value → Shared → Prop} (K : KdlSrc prog w T r d n P OK) (hh : A.handled = none) (hok : OK s.heap) (hn : n ≤ sizeLine)
    (h : ∀ (h' : Heap) (tk : Nat) (acc : Array Value), s.heap.objs.size < h'.objs.size → (∀ b o, s.heap.get? b = some o → h'.get? b = some o) → ItemsOf P acc n → R acc.toList { s with heap := h', toks := tk }) : wpAny (model prog w) A (collect (.ref r)) R E s := by
  obtain ⟨lr, ld⟩ := K.there _ hok
  let Z := s.heap.objs.size
  let N0 := s.heap.push { cls := .type "list", data := .seq ([] : List Value).toArray }
  have up : ∀ b o, s.heap.get? b = some o → N0.get? b = some o := fun b o e => Heap.get?_push_of_some _ e
  have hz : N0.get? Z = some { cls := .type "list", data := .seq #[] } := Heap.get?_push_size _ rfl
  unfold collect
  refine wpAny_bind (wpAny_runValue (codeAny_builtin PySem.F.entry_proto_collect ?_)); rw [Around.under_plainId PySem.F.plain_proto_collect _]
  show wpAny _ A.in1 (newList [] >>= fun l => again (.builtin "list.__iadd__" ⟨[l, .ref r], []⟩)) _ _ s; refine wpAny_bind (wpAny_newObj_type ?_)
  refine wpAny_pure ⟨plainId_quiet PySem.F.plain_list_iadd _, codeAny_builtin PySem.F.entry_list_iadd ?_⟩; rw [Around.under_plainId PySem.F.plain_list_iadd _]
  show wpAny _ A.in1 (Builtin.List.listExtendWith (.ref Z) (.ref r) (.ref Z)) _ _ _
  have key := kdl_extend (A := A) (s := { s with heap := N0 }) (R := fun (q : Result) (s' : Shared) => q = .ok (.ret (.ref Z)) ∧ ∃ (h' : Heap) (tk : Nat) (acc : Array Value) (c : Nat), s' = { s with heap := h', toks := tk } ∧ h'.get? Z = some { cls := .type "list", dict := none, data := .seq acc c, slots := #[] } ∧ (∀ b o, s.heap.get? b = some o → h'.get? b = some o) ∧ ItemsOf P acc n)
    K hh (K.keep _ _ hok fun b _ o e => up b o e) Z (Nat.ne_of_gt lr) (Nat.ne_of_gt ld) (.ref Z) 0 hz (fun h' tk acc c k1 k2 k3 => ⟨rfl, h', tk, acc, c, rfl, k2, fun b o e => k1 b o (Nat.ne_of_lt (Heap.lt_size e)) (up b o e), k3⟩) hn
  refine wpAny_mono key (fun f s' x => ?_) fun e s' x => by obtain ⟨e', _⟩ := x; cases e'
  cases f with
  | done f =>
    obtain ⟨e, h', tk, acc, c, rfl, k1, k2, k3⟩ := x
    cases e
    exact wpAny_bind (wpAny_load k1 (wpAny_pure (h h' tk acc (Heap.lt_size k1) k2 k3)))
  | again c₁ => exact ⟨x.1, codeAny_mono x.2 fun q s₂ y => by
      obtain ⟨rfl, h', tk, acc, c, rfl, k1, k2, k3⟩ := y
      exact wpAny_bind (wpAny_load k1 (wpAny_pure (h h' tk acc (Heap.lt_size k1) k2 k3)))⟩
open SrtO PySem.W in
theorem sorted_src {T : String} {r d : Addr} {n : Nat} {P : Nat → Value → Prop} {OK : Heap → Prop} {k : Value → Int × Int} {Q : Value → Shared → Prop} (K : KdlSrc prog w T r d n P OK) (hh : A.handled = none) (hok : OK s.heap) (hn : n ≤ sizeLine)
    (hP : ∀ i v, P i v → Srt.IsPair s.heap v (k v).1 (k v).2)
    (h : ∀ (h' : Heap) (tk : Nat) (d : Addr) (vs out : List Value), vs.length = n → (∀ i v, vs[i]? = some v → P i v) → Stb (fun v u => lexB (k v) (k u)) out vs → (∀ b o, s.heap.get? b = some o → h'.get? b = some o) → s.heap.objs.size ≤ d → (∃ n, h'.get? d = some (seqObj "list" out.toArray n)) → Q (.ref d) { s with heap := h', toks := tk }) :
    wpAny (model prog w) A (call (.builtin "sorted") [.ref r]) Q E s := by
  refine Calls.call_function_entry kind_sorted plain_sorted entry_sorted (args_sorted1 _) ?_
  unfold Builtin.«sorted»
  refine wpAny_bind (m := checkCount "sorted" 1 1 _) (wpAny_pure ?_)
  refine wpAny_bind (coll_src (A := A.in1) K hh hok hn fun h' tk acc hlt hk hacc => ?_)
  have hl : acc.toList.length = n := by rw [Array.length_toList]; exact hacc.1
  have hv : ∀ i v, acc.toList[i]? = some v → P i v := fun i v e => hacc.2 i v (by rw [← Array.getElem?_toList]; exact e)
  refine wpAny_bind (wpAny_newList ?_ (by rw [hl]; exact hn))
  have hoL : (h'.push (seqObj "list" acc.toList.toArray 0)).get? h'.objs.size = some (seqObj "list" acc.toList.toArray 0) := Heap.get?_push_size _ rfl
  have kb : ∀ b o, s.heap.get? b = some o → (h'.push (seqObj "list" acc.toList.toArray 0)).get? b = some o := fun b o e => Heap.get?_push_of_some _ (hk b o e)
  have ne : ∀ b o, s.heap.get? b = some o → b ≠ h'.objs.size := fun b o e => Nat.ne_of_lt (Heap.lt_size (hk b o e))
  refine wpAny_bind (wpAny_holding (wpAny_call_entry slot_list_sort ⟨_, hoL, rfl⟩ entry_list_sort (list_sort_ord (s := { s with heap := h'.push (seqObj "list" acc.toList.toArray 0), toks := tk }) (swo_lex k) hoL (by rw [hl]; exact hn) (fun h2 => ?_) fun out hs hb => ⟨_, rfl, ?_⟩) (args_list_sort _)))
  · refine pairs_sortableO (s := { s with heap := h'.push (seqObj "list" acc.toList.toArray 0), toks := tk }) (by omega) (fun v hm => ?_) fun o e => ?_
    · obtain ⟨i, hi⟩ := List.getElem?_of_mem hm
      exact (hP i v (hv i v hi)).keeps fun b o e _ => kb b o e
    · have e' : some o = some (seqObj "list" acc.toList.toArray 0) := e.symm.trans hoL
      cases e'
      intro c
      exact absurd (Value.type.inj c) (by decide)
  · refine wpAny_pure ⟨_, rfl, ?_⟩
    refine h _ _ _ acc.toList out hl hv hb (fun b o e => ?_) ?_ (sortedHeap_at hoL)
    · rw [sortedHeap_old (ne b o e) (by rw [size_push']; exact Nat.lt_succ_of_lt (Heap.lt_size (hk b o e)))]; exact kb b o e
    · exact Nat.le_of_lt hlt
end
section
variable {X : Cx}
open PySem.W in
/-- the view d.keys() at p -/
def keysO (p d : Addr) : HO := .ext fun h => KdlKeysView h p d
theorem keysO_ok {P : Program} {w : World} {H : Hp} {h : Heap} {p d : Addr} (e : h.get? p = some { cls := .type "dict_keys", data := .fields #[.ref d] }) : ObjOk P w H h p (keysO p d) :=
  ⟨⟨_, e, rfl, rfl⟩, ⟨_, e⟩, fun h1 h2 x k => let ⟨o, ho, r⟩ := x; ⟨o, k o ho, r⟩⟩
def rKeysT : V → List V → Hp → VK → Prop := fun x xs H Q => ∃ (a : Addr) (kvs : List (List L2.Key × V)), x = .ref a ∧ xs = [] ∧ H a = some (.dT kvs) ∧ ∀ p, H p = none → Q (.ref p) (upd H p (keysO p a))
theorem mt_keysT : MtR X "dict.keys" rKeysT := by
  intro pins s σ H x xs v us Q I rx rxs h
  obtain ⟨a, kvs, rfl, rfl, ha, q⟩ := h
  cases rx
  cases rxs
  obtain ⟨z, hd, xs', rel, o, es, ep, ho, hx, hdat, _⟩ := dt_of I.hok ha
  have hm : s.heap.DictRaw a es ep := ⟨o, ho, hx, hdat⟩
  refine call_meetsIn PySem.F.slot_dict_keys hm.typeIs PySem.F.entry_dict_keys (PySem.F.args_dict_keys_1 _) (meets_dict_keys_raw a hd) ⟨⟨es, ep, hm⟩, ?_⟩
  have hf : H s.heap.objs.size = none := I.hok.fresh (Nat.le_refl _)
  exact ⟨.ref s.heap.objs.size, upd H s.heap.objs.size (keysO s.heap.objs.size a), I.laid (t' := s.toks) (fun b u e => Heap.get?_push_of_some _ e) (Nat.le_refl _) (keysO_ok (Heap.get?_push_size _ rfl)), rfl, q _ hf⟩
/-- the keys are pairs of ints -/
def rSortKeys : List V → Hp → VK → Prop := fun vs H Q => ∃ (p a : Addr) (kvs : List (List L2.Key × V)), vs = [.ref p] ∧ H p = some (keysO p a) ∧ H a = some (.dT kvs) ∧ (∀ e ∈ kvs, ∃ i j : Int, e.1 = [Sum.inl i, Sum.inl j]) ∧
  ∀ (ys : List V) (l : Addr), H l = none → ys.length = kvs.length → (∀ y ∈ ys, ∃ t i j v, y = V.ref t ∧ H t = some (.tup [.int i, .int j]) ∧ ([Sum.inl i, Sum.inl j], v) ∈ kvs) → (∀ i j v, ([Sum.inl i, Sum.inl j], v) ∈ kvs → ∃ t, V.ref t ∈ ys ∧ H t = some (.tup [.int i, .int j])) → Q (.ref l) (upd H l (.lst ys))
/-- a pair's ints in a heap -/
def pairAt (h : Heap) (v : Value) : Int × Int := ((TS.intsOf h v).getD 0 0, (TS.intsOf h v).getD 1 0)
open SrtO PySem.W L2.DX in
theorem cr_sortKeys (hc : X.calm = true) : CallR X (.builtin "sorted") rSortKeys := by
  intro pins s σ H xs us Q I r h
  obtain ⟨p, a, kvs, rfl, hp, ha, hk, q⟩ := h
  obtain rfl := Vals.ref1 r
  have view : KdlKeysView s.heap p a := (show ObjOk X.prog X.w H s.heap p (keysO p a) from I.hok p _ hp).1
  obtain ⟨z, hd, xs', rel, o, es, ep, ho, hx, hdat, hes, his, hn⟩ := dt_of I.hok ha
  have l1 : kvs.length = xs'.length := Paired.length rel
  have l2 : es.size = xs'.length := size_of_entries hes
  have hh : X.A.handled = none := I.ok.hd hc
  -- the key at a place
  have ent : ∀ (i : Nat) (v : Value), (∃ hi : i < es.size, v = es[i].key) → ∃ (e : List L2.Key × V) (t : Addr) (x y : Int), kvs[i]? = some e ∧ e.1 = [Sum.inl x, Sum.inl y] ∧ v = .ref t ∧ H t = some (.tup [.int x, .int y]) := by
    rintro i v ⟨hi, rfl⟩
    have he : es[i]? = some es[i] := Array.getElem?_eq_getElem hi
    rw [entry_at hes i] at he
    cases hxj : xs'[i]? with
    | none =>
      rw [hxj] at he
      cases he
    | some x =>
      rw [hxj] at he
      have een : entryOfKey (tupleKind (mixKind X.prog X.w)) x = es[i] := Option.some.inj he
      obtain ⟨e0, he0, r1, r2, r3⟩ := pget rel hxj
      obtain ⟨xi, yi, e1⟩ := hk e0 (List.mem_of_getElem? he0)
      refine ⟨e0, x.2.1, xi, yi, he0, e1, ?_, ?_⟩
      · rw [← een]; rfl
      · rw [r2, e1]; rfl
  have prs : ∀ (i : Nat) (v : Value), (∃ hi : i < es.size, v = es[i].key) → Srt.IsPair s.heap v (pairAt s.heap v).1 (pairAt s.heap v).2 := by
    intro i v hv
    obtain ⟨e, t, x, y, _, _, rfl, ht⟩ := ent i v hv
    obtain ⟨_, its, r2, o, ho, hc, n, hd⟩ := I.hok _ _ ht
    obtain ⟨u1, u2, rfl, ri, rj⟩ := vals2 r2
    obtain ⟨t1, rfl⟩ := ri
    obtain ⟨t2, rfl⟩ := rj
    have e0 : TS.intsOf s.heap (.ref t) = [x, y] := TS.TupInts.ints ⟨t, _, rfl, ⟨o, ho, hc, n, hd⟩, PyProof.Rows.IntsAre.cons x t1 (PyProof.Rows.IntsAre.cons y t2 PyProof.Rows.IntsAre.nil)⟩
    have e1 : pairAt s.heap (.ref t) = (x, y) := by
      unfold pairAt
      rw [e0]
      rfl
    rw [e1]
    exact ⟨t, o, t1, t2, n, rfl, ho, hc, hd⟩
  refine sorted_src (k := pairAt s.heap) (KdlSrc.rawKeys (r := p) (d := a) (es := es) (ep := ep)) hh ⟨view, o, ho, hx, hdat⟩ (by omega) prs fun h' tk d vs out hl hv hb kp hd' hn' => ?_
  have inv : ∀ u ∈ out, ∃ (i : Nat) (e : List L2.Key × V) (t : Addr) (x y : Int), kvs[i]? = some e ∧ e.1 = [Sum.inl x, Sum.inl y] ∧ u = .ref t ∧ H t = some (.tup [.int x, .int y]) := fun u hu => by
    obtain ⟨i, hi⟩ := List.getElem?_of_mem (hb.perm.mem_iff.mp hu)
    obtain ⟨e, t, x, y, z1⟩ := ent i u (hv i u hi)
    exact ⟨i, e, t, x, y, z1⟩
  have h3 : ∀ u ∈ out, ∃ a, u = Value.ref a := fun u hu => let ⟨_, _, t, _, _, _, _, e, _⟩ := inv u hu; ⟨t, e⟩
  have lo : out.length = kvs.length := by rw [hb.perm.length_eq]; omega
  obtain ⟨n, hn''⟩ := hn'
  refine ⟨.ref d, upd H d (.lst (out.map backV)), I.laid (t' := tk) kp hd' ⟨by rw [List.length_map, lo]; exact z, out, n, vals_back h3, hn''⟩, rfl, q _ d (I.hok.fresh hd') (by rw [List.length_map]; exact lo) (fun y hy => ?_) fun i j v hm => ?_⟩
  · obtain ⟨u, hu, rfl⟩ := List.mem_map.mp hy
    obtain ⟨i, e, t, x, y, e1, e2, rfl, ht⟩ := inv u hu
    exact ⟨t, x, y, e.2, rfl, ht, by rw [← e2]; exact List.mem_of_getElem? e1⟩
  · obtain ⟨k, hk'⟩ := List.getElem?_of_mem hm
    have hlt := (List.getElem?_eq_some_iff.mp hk').1
    have hvk : vs[k]? = some vs[k] := List.getElem?_eq_getElem (by omega)
    obtain ⟨e, t, x, y, e1, e2, e3, ht⟩ := ent k _ (hv k _ hvk)
    rw [hk'] at e1
    cases e1
    simp only [List.cons.injEq, Sum.inl.injEq, and_true] at e2
    obtain ⟨rfl, rfl⟩ := e2
    have hm2 : vs[k] ∈ out := hb.perm.mem_iff.mpr (List.mem_of_getElem? hvk)
    rw [e3] at hm2
    exact ⟨t, List.mem_map.mpr ⟨_, hm2, rfl⟩, ht⟩
end
end JF

/-! ### the box of what lives, no program in sight -/
namespace JF
open PySem PySem.Spec PyProof.Rows L2
def BoxOf (p : Int → Int → Prop) : Option Box → Prop
  | none => ∀ x y, ¬ p x y
  | some b => (∀ x y, p x y → b.1 ≤ x ∧ x < b.1 + b.2.2.1 ∧ b.2.1 ≤ y ∧ y < b.2.1 + b.2.2.2) ∧ (∃ y, p b.1 y) ∧ (∃ y, p (b.1 + b.2.2.1 - 1) y) ∧ (∃ x, p x b.2.1) ∧ ∃ x, p x (b.2.1 + b.2.2.2 - 1)
theorem BoxOf.congr {p p' : Int → Int → Prop} {o : Option Box} (h : BoxOf p o) (e : ∀ x y, p x y ↔ p' x y) : BoxOf p' o := by
  have : p = p' := funext fun x => funext fun y => propext (e x y)
  rw [← this]; exact h
theorem BoxOf.uniq {p : Int → Int → Prop} {o o' : Option Box} (h : BoxOf p o) (h' : BoxOf p o') : o = o' := by
  cases o with
  | none =>
    cases o' with
    | none => rfl
    | some b => obtain ⟨_, ⟨y, e⟩, _⟩ := h'; exact absurd e (h _ _)
  | some b =>
    cases o' with
    | none => obtain ⟨_, ⟨y, e⟩, _⟩ := h; exact absurd e (h' _ _)
    | some b' =>
      obtain ⟨l, t, w, g⟩ := b
      obtain ⟨l', t', w', g'⟩ := b'
      obtain ⟨a, ⟨y1, e1⟩, ⟨y2, e2⟩, ⟨x3, e3⟩, ⟨x4, e4⟩⟩ := h
      obtain ⟨a', ⟨y1', e1'⟩, ⟨y2', e2'⟩, ⟨x3', e3'⟩, ⟨x4', e4'⟩⟩ := h'
      have q1 := a' _ _ e1; have q2 := a' _ _ e2; have q3 := a' _ _ e3; have q4 := a' _ _ e4
      have r1 := a _ _ e1'; have r2 := a _ _ e2'; have r3 := a _ _ e3'; have r4 := a _ _ e4'
      dsimp only at q1 q2 q3 q4 r1 r2 r3 r4
      have f1 : l = l' := by omega
      have f2 : t = t' := by omega
      have f3 : w = w' := by omega
      have f4 : g = g' := by omega
      rw [f1, f2, f3, f4]
theorem BoxOf.shift {p : Int → Int → Prop} {b : Box} (h : BoxOf p (some b)) (dx dy : Int) : BoxOf (fun x y => p (x - dx) (y - dy)) (some (b.1 + dx, b.2.1 + dy, b.2.2.1, b.2.2.2)) := by
  obtain ⟨l, t, w, g⟩ := b
  obtain ⟨a, ⟨y1, e1⟩, ⟨y2, e2⟩, ⟨x3, e3⟩, ⟨x4, e4⟩⟩ := h
  refine ⟨fun x y e => ?_, ⟨y1 + dy, ?_⟩, ⟨y2 + dy, ?_⟩, ⟨x3 + dx, ?_⟩, ⟨x4 + dx, ?_⟩⟩
  · have := a _ _ e
    dsimp only at this ⊢
    omega
  · show p (l + dx - dx) (y1 + dy - dy)
    rw [Int.add_sub_cancel, Int.add_sub_cancel]; exact e1
  · show p (l + dx + w - 1 - dx) (y2 + dy - dy)
    rw [Int.add_sub_cancel, show l + dx + w - 1 - dx = l + w - 1 by omega]; exact e2
  · show p (x3 + dx - dx) (t + dy - dy)
    rw [Int.add_sub_cancel, Int.add_sub_cancel]; exact e3
  · show p (x4 + dx - dx) (t + dy + g - 1 - dy)
    rw [Int.add_sub_cancel, show t + dy + g - 1 - dy = t + g - 1 by omega]; exact e4
theorem BoxOf.rb {p p' : Int → Int → Prop} {f : Option Box} {b : Box} (h : BoxOf p f) (h' : BoxOf p' (some b)) : BoxOf (fun x y => p x y ∨ p' x y) (some (rb f b)) := by
  cases f with
  | none => exact BoxOf.congr h' fun x y => ⟨.inr, fun z => z.resolve_left (h x y)⟩
  | some c =>
    obtain ⟨l, t, w, g⟩ := c
    obtain ⟨l', t', w', g'⟩ := b
    obtain ⟨a, ⟨y1, e1⟩, ⟨y2, e2⟩, ⟨x3, e3⟩, ⟨x4, e4⟩⟩ := h
    obtain ⟨a', ⟨y1', e1'⟩, ⟨y2', e2'⟩, ⟨x3', e3'⟩, ⟨x4', e4'⟩⟩ := h'
    dsimp only at a a' e1 e2 e3 e4 e1' e2' e3' e4'
    refine ⟨fun x y z => ?_, ?_, ?_, ?_, ?_⟩
    · show min l l' ≤ x ∧ x < min l l' + (max (l + w) (l' + w') - min l l') ∧ min t t' ≤ y ∧ y < min t t' + (max (t + g) (t' + g') - min t t')
      rcases z with z | z
      · have := a _ _ z; omega
      · have := a' _ _ z; omega
    · show ∃ y, p (min l l') y ∨ p' (min l l') y
      rcases Int.le_total l l' with z | z
      · exact ⟨y1, .inl (by rw [Int.min_eq_left z]; exact e1)⟩
      · exact ⟨y1', .inr (by rw [Int.min_eq_right z]; exact e1')⟩
    · show ∃ y, p (min l l' + (max (l + w) (l' + w') - min l l') - 1) y ∨ p' (min l l' + (max (l + w) (l' + w') - min l l') - 1) y
      rw [show min l l' + (max (l + w) (l' + w') - min l l') - 1 = max (l + w) (l' + w') - 1 by omega]
      rcases Int.le_total (l + w) (l' + w') with z | z
      · exact ⟨y2', .inr (by rw [Int.max_eq_right z]; exact e2')⟩
      · exact ⟨y2, .inl (by rw [Int.max_eq_left z]; exact e2)⟩
    · show ∃ x, p x (min t t') ∨ p' x (min t t')
      rcases Int.le_total t t' with z | z
      · exact ⟨x3, .inl (by rw [Int.min_eq_left z]; exact e3)⟩
      · exact ⟨x3', .inr (by rw [Int.min_eq_right z]; exact e3')⟩
    · show ∃ x, p x (min t t' + (max (t + g) (t' + g') - min t t') - 1) ∨ p' x (min t t' + (max (t + g) (t' + g') - min t t') - 1)
      rw [show min t t' + (max (t + g) (t' + g') - min t t') - 1 = max (t + g) (t' + g') - 1 by omega]
      rcases Int.le_total (t + g) (t' + g') with z | z
      · exact ⟨x4', .inr (by rw [Int.max_eq_right z]; exact e4')⟩
      · exact ⟨x4, .inl (by rw [Int.max_eq_left z]; exact e4)⟩
theorem BoxOf.step {p p' : Int → Int → Prop} {f o : Option Box} (h : BoxOf p f) (h' : BoxOf p' o) (hf at_ : Int) : BoxOf (fun x y => p x y ∨ p' (x - hf * (at_ % 2)) (y - hf * (at_ / 2))) (r4step hf at_ f o) := by
  cases o with
  | none => exact h.congr fun x y => ⟨.inl, fun z => z.resolve_right (h' _ _)⟩
  | some b => exact h.rb (h'.shift _ _)
/-- where a square's cells live -/
def Sq.Lives (S : Sq) (x y : Int) : Prop := 0 ≤ x ∧ x < 2 ^ S.level ∧ 0 ≤ y ∧ y < 2 ^ S.level ∧ S.get x y ≠ 0
theorem span_box : ∀ {S : Sq}, S.wf → BoxOf S.Lives S.span
  | .leaf s, _ => by
    show BoxOf (Sq.leaf s).Lives (if s = 0 then none else some (0, 0, 1, 1))
    have hl : (2 : Int) ^ (Sq.leaf s).level = 1 := rfl
    split
    · next z => exact fun x y ⟨_, _, _, _, e⟩ => e z
    · next z => exact ⟨fun x y ⟨a, b, c, d, _⟩ => by rw [hl] at b d; dsimp only; omega, ⟨0, by decide, by rw [hl]; decide, by decide, by rw [hl]; decide, z⟩, ⟨0, by decide, by rw [hl]; decide, by decide, by rw [hl]; decide, z⟩, ⟨0, by decide, by rw [hl]; decide, by decide, by rw [hl]; decide, z⟩, ⟨0, by decide, by rw [hl]; decide, by decide, by rw [hl]; decide, z⟩⟩
  | .node a b c d, ⟨wa, wb, wc, wd, lb, lc, ld⟩ => by
    have h1 : BoxOf (fun _ _ => False) none := fun x y z => z
    have h2 := (((h1.step (span_box wa) (2 ^ a.level) 0).step (span_box wb) (2 ^ a.level) 1).step (span_box wc) (2 ^ a.level) 2).step (span_box wd) (2 ^ a.level) 3
    refine BoxOf.congr h2 fun x y => ?_
    have hp := Sq.two_pos a.level
    have hl : (2 : Int) ^ (Sq.node a b c d).level = 2 * 2 ^ a.level := Sq.two_succ a.level
    unfold Sq.Lives
    rw [hl, lb, lc, ld, get_node]
    have m0 : (0 : Int) % 2 = 0 := rfl
    have m1 : (1 : Int) % 2 = 1 := rfl
    have m2 : (2 : Int) % 2 = 0 := rfl
    have m3 : (3 : Int) % 2 = 1 := rfl
    have d0 : (0 : Int) / 2 = 0 := rfl
    have d1 : (1 : Int) / 2 = 0 := rfl
    have d2 : (2 : Int) / 2 = 1 := rfl
    have d3 : (3 : Int) / 2 = 1 := rfl
    rw [m0, m1, m2, m3, d0, d1, d2, d3]
    simp only [Int.mul_zero, Int.mul_one, Int.sub_zero, false_or]
    generalize (2 : Int) ^ a.level = n at hp ⊢
    by_cases hy : y < n
    · by_cases hx : x < n
      · rw [if_pos hy, if_pos hx]
        constructor
        · rintro (((z | z) | z) | z)
          · exact ⟨by omega, by omega, by omega, by omega, z.2.2.2.2⟩
          · exact absurd z.1 (by omega)
          · exact absurd z.2.2.1 (by omega)
          · exact absurd z.1 (by omega)
        · rintro ⟨z1, z2, z3, z4, z5⟩
          exact .inl (.inl (.inl ⟨z1, hx, z3, hy, z5⟩))
      · rw [if_pos hy, if_neg hx]
        constructor
        · rintro (((z | z) | z) | z)
          · exact absurd z.2.1 hx
          · exact ⟨by omega, by omega, by omega, by omega, z.2.2.2.2⟩
          · exact absurd z.2.2.1 (by omega)
          · exact absurd z.2.2.1 (by omega)
        · rintro ⟨z1, z2, z3, z4, z5⟩
          exact .inl (.inl (.inr ⟨by omega, by omega, z3, hy, z5⟩))
    · by_cases hx : x < n
      · rw [if_neg hy, if_pos hx]
        constructor
        · rintro (((z | z) | z) | z)
          · exact absurd z.2.2.2.1 hy
          · exact absurd z.2.2.2.1 hy
          · exact ⟨by omega, by omega, by omega, by omega, z.2.2.2.2⟩
          · exact absurd z.1 (by omega)
        · rintro ⟨z1, z2, z3, z4, z5⟩
          exact .inl (.inr ⟨z1, hx, by omega, by omega, z5⟩)
      · rw [if_neg hy, if_neg hx]
        constructor
        · rintro (((z | z) | z) | z)
          · exact absurd z.2.1 hx
          · exact absurd z.2.2.2.1 hy
          · exact absurd z.2.1 hx
          · exact ⟨by omega, by omega, by omega, by omega, z.2.2.2.2⟩
        · rintro ⟨z1, z2, z3, z4, z5⟩
          exact .inr ⟨by omega, by omega, by omega, by omega, z5⟩
/-- a field's box -/
def Sq.box (S : Sq) : Option Box := match S.span with
  | none => none
  | some b => some (b.1 - S.half, b.2.1 - S.half, b.2.2.1, b.2.2.2)
theorem box_box {S : Sq} (w : S.wf) (h : 1 ≤ S.level) : BoxOf (fun x y => S.val x y ≠ 0) S.box := by
  have hs := span_box w
  have e2 := half_two h
  have key : ∀ x y : Int, S.Lives (x + S.half) (y + S.half) ↔ S.val x y ≠ 0 := fun x y => by
    unfold Sq.Lives Sq.val
    rw [e2]
    constructor
    · rintro ⟨z1, z2, z3, z4, z5⟩
      rw [if_pos ⟨by omega, by omega, by omega, by omega⟩]
      exact z5
    · intro z
      split at z
      · next c => exact ⟨by omega, by omega, by omega, by omega, z⟩
      · exact absurd rfl z
  unfold Sq.box
  cases e : S.span with
  | none =>
    rw [e] at hs
    exact fun x y z => hs _ _ ((key x y).mpr z)
  | some b =>
    rw [e] at hs
    refine BoxOf.congr (hs.shift (-S.half) (-S.half)) fun x y => ?_
    rw [Int.sub_neg, Int.sub_neg]
    exact key x y
end JF

/-! ### law k25: the box of a field -/
namespace JF
open PySem PySem.Spec PyProof.Rows L2
theorem same_put {H H' : Hp} {p : Addr} {o : HO} (s : Same H H') (hp : H p = none) : Same H (upd H' p o) := fun b u e => by
  rw [upd_ne (ne_of_none e hp)]; exact s _ _ e
theorem tup_put {H : Hp} {p : Addr} {xs : List V} {o : HO} (h : H p = some (.lst xs)) : Tup H (upd H p o) := fun b ys e => by
  rw [upd_ne (fun z => by rw [z, h] at e; cases e)]; exact e
theorem two40 {n : Nat} (h : n ≤ 40) : (2 : Int) ^ n ≤ 1099511627776 := by
  have e : (2 : Int) ^ 40 = 1099511627776 := by decide
  rw [← e]
  exact two_mono h
/-- what a list of places and a half square are due as box -/
def xsOf (ps : List (Int × Int)) (h : Int) : List Int := ps.map (·.1) ++ (if 0 < h then [-h, h - 1] else [])
def ysOf (ps : List (Int × Int)) (h : Int) : List Int := ps.map (·.2) ++ (if 0 < h then [-h, h - 1] else [])
def LBox (ps : List (Int × Int)) (h : Int) : Option Box → Prop
  | none => xsOf ps h = []
  | some b => b.1 ∈ xsOf ps h ∧ b.1 + b.2.2.1 - 1 ∈ xsOf ps h ∧ b.2.1 ∈ ysOf ps h ∧ b.2.1 + b.2.2.2 - 1 ∈ ysOf ps h ∧ (∀ x ∈ xsOf ps h, b.1 ≤ x ∧ x < b.1 + b.2.2.1) ∧ ∀ y ∈ ysOf ps h, b.2.1 ≤ y ∧ y < b.2.1 + b.2.2.2
theorem min_in : ∀ {l : List Int}, l ≠ [] → ∃ m, m ∈ l ∧ ∀ y ∈ l, m ≤ y
  | [x], _ => ⟨x, by simp, fun y hy => by rw [List.mem_singleton] at hy; omega⟩
  | x :: z :: l, _ => by
    obtain ⟨m, h1, h2⟩ := min_in (l := z :: l) (by simp)
    by_cases h : x ≤ m
    · exact ⟨x, List.mem_cons_self, fun y hy => by rcases List.mem_cons.mp hy with rfl | hy; exact Int.le_refl _; exact Int.le_trans h (h2 y hy)⟩
    · exact ⟨m, List.mem_cons_of_mem _ h1, fun y hy => by rcases List.mem_cons.mp hy with rfl | hy; omega; exact h2 y hy⟩
theorem max_in : ∀ {l : List Int}, l ≠ [] → ∃ m, m ∈ l ∧ ∀ y ∈ l, y ≤ m
  | [x], _ => ⟨x, by simp, fun y hy => by rw [List.mem_singleton] at hy; omega⟩
  | x :: z :: l, _ => by
    obtain ⟨m, h1, h2⟩ := max_in (l := z :: l) (by simp)
    by_cases h : m ≤ x
    · exact ⟨x, List.mem_cons_self, fun y hy => by rcases List.mem_cons.mp hy with rfl | hy; exact Int.le_refl _; exact Int.le_trans (h2 y hy) h⟩
    · exact ⟨m, List.mem_cons_of_mem _ h1, fun y hy => by rcases List.mem_cons.mp hy with rfl | hy; omega; exact h2 y hy⟩
theorem many_in {α : Type} [DecidableEq α] (g : Nat → α) (hg : ∀ i j, g i = g j → i = j) : ∀ (n : Nat) (l : List α), (∀ i, i < n → g i ∈ l) → n ≤ l.length
  | 0, _, _ => Nat.zero_le _
  | n + 1, l, h => by
    have h1 := many_in g hg n (l.erase (g n)) fun i hi => by
      rw [List.mem_erase_of_ne (fun e => by have := hg _ _ e; omega)]
      exact h i (by omega)
    rw [List.length_erase_of_mem (h n (by omega))] at h1
    have := List.length_pos_of_mem (h n (by omega))
    omega
/-- in a row of a half square a place is free of those planted -/
theorem free_row {l : List (Int × Int)} {h x : Int} (hl : (l.length : Int) < 2 * h) : ∃ y, -h ≤ y ∧ y < h ∧ (x, y) ∉ l := by
  apply Classical.byContradiction
  intro z
  have hz : ∀ y, -h ≤ y → y < h → (x, y) ∈ l := fun y a b => Classical.byContradiction fun c => z ⟨y, a, b, c⟩
  have := many_in (fun i : Nat => (x, -h + (i : Int))) (fun i j e => by have := congrArg Prod.snd e; dsimp only at this; omega) (2 * h).toNat l fun i hi => hz _ (by omega) (by omega)
  omega
theorem free_col {l : List (Int × Int)} {h y : Int} (hl : (l.length : Int) < 2 * h) : ∃ x, -h ≤ x ∧ x < h ∧ (x, y) ∉ l := by
  apply Classical.byContradiction
  intro z
  have hz : ∀ x, -h ≤ x → x < h → (x, y) ∈ l := fun x a b => Classical.byContradiction fun c => z ⟨x, a, b, c⟩
  have := many_in (fun i : Nat => (-h + (i : Int), y)) (fun i j e => by have := congrArg Prod.fst e; dsimp only at this; omega) (2 * h).toNat l fun i hi => hz _ (by omega) (by omega)
  omega
/-- the due box is the box of what lives -/
theorem lbox_box {p : Int → Int → Prop} {ps ks : List (Int × Int)} {h : Int} {o : Option Box} (hp : ∀ x y, p x y ↔ (x, y) ∈ ps ∨ (-h ≤ x ∧ x < h ∧ -h ≤ y ∧ y < h ∧ (x, y) ∉ ks)) (hk : 0 < h → (ks.length : Int) < 2 * h) (L : LBox ps h o) : BoxOf p o := by
  have inx : ∀ x y, p x y → (∃ a ∈ xsOf ps h, a ≤ x) ∧ ∃ a ∈ xsOf ps h, x ≤ a := fun x y e => by
    rcases (hp x y).mp e with z | ⟨z1, z2, _⟩
    · have m : x ∈ xsOf ps h := List.mem_append_left _ (List.mem_map.mpr ⟨_, z, rfl⟩)
      exact ⟨⟨x, m, Int.le_refl _⟩, x, m, Int.le_refl _⟩
    · have hh : 0 < h := by omega
      exact ⟨⟨-h, List.mem_append_right _ (by rw [if_pos hh]; simp), z1⟩, h - 1, List.mem_append_right _ (by rw [if_pos hh]; simp), by omega⟩
  have iny : ∀ x y, p x y → (∃ a ∈ ysOf ps h, a ≤ y) ∧ ∃ a ∈ ysOf ps h, y ≤ a := fun x y e => by
    rcases (hp x y).mp e with z | ⟨_, _, z1, z2, _⟩
    · have m : y ∈ ysOf ps h := List.mem_append_left _ (List.mem_map.mpr ⟨_, z, rfl⟩)
      exact ⟨⟨y, m, Int.le_refl _⟩, y, m, Int.le_refl _⟩
    · have hh : 0 < h := by omega
      exact ⟨⟨-h, List.mem_append_right _ (by rw [if_pos hh]; simp), z1⟩, h - 1, List.mem_append_right _ (by rw [if_pos hh]; simp), by omega⟩
  have atx : ∀ x ∈ xsOf ps h, ∃ y, p x y := fun x hx => by
    rcases List.mem_append.mp hx with z | z
    · obtain ⟨⟨a, b⟩, m, rfl⟩ := List.mem_map.mp z
      exact ⟨b, (hp _ _).mpr (.inl m)⟩
    · by_cases hh : 0 < h
      · rw [if_pos hh] at z
        obtain ⟨y, y0, y1, hn⟩ := free_row (x := x) (hk hh)
        refine ⟨y, (hp _ _).mpr (.inr ⟨?_, ?_, y0, y1, hn⟩)⟩ <;> (simp only [List.mem_cons, List.not_mem_nil, or_false] at z; omega)
      · rw [if_neg hh] at z; cases z
  have aty : ∀ y ∈ ysOf ps h, ∃ x, p x y := fun y hx => by
    rcases List.mem_append.mp hx with z | z
    · obtain ⟨⟨a, b⟩, m, rfl⟩ := List.mem_map.mp z
      exact ⟨a, (hp _ _).mpr (.inl m)⟩
    · by_cases hh : 0 < h
      · rw [if_pos hh] at z
        obtain ⟨x, y0, y1, hn⟩ := free_col (y := y) (hk hh)
        refine ⟨x, (hp _ _).mpr (.inr ⟨y0, y1, ?_, ?_, hn⟩)⟩ <;> (simp only [List.mem_cons, List.not_mem_nil, or_false] at z; omega)
      · rw [if_neg hh] at z; cases z
  cases o with
  | none =>
    intro x y e
    obtain ⟨⟨a, m, _⟩, _⟩ := inx x y e
    have L' : xsOf ps h = [] := L
    rw [L'] at m; cases m
  | some b =>
    obtain ⟨l1, l2, l3, l4, l5, l6⟩ := L
    refine ⟨fun x y e => ?_, atx _ l1, atx _ l2, aty _ l3, aty _ l4⟩
    obtain ⟨⟨a, m, ha⟩, a', m', ha'⟩ := inx x y e
    obtain ⟨⟨c, n, hc⟩, c', n', hc'⟩ := iny x y e
    have := l5 _ m; have := l5 _ m'; have := l6 _ n; have := l6 _ n'
    omega
section
variable {P : Program} {w : World} {K : PySem.W.Frag} {mg : Str → Option Value} {base : Heap}
def sp_bits : Sp := fun vs H Q _ => ∃ c : Int, vs = [.int c] ∧ ∀ n : Nat, 1 ≤ n → n ≤ 40 → Q (.int (n : Int)) H
theorem mp_bits : MonP sp_bits := fun vs H Q Q' E h ⟨c, x1, k⟩ => ⟨c, x1, fun n a b => h _ _ (k n a b)⟩
theorem ok_bits (T : Env fa fn K mg) : Good P w K mg base CX0 1 ("_law_bits", none) ["_law_cell"] sp_bits := by
  refine good_mk T 28 (d := d_w_bits) (N := ["_law_cell"]) (ps := ["_law_cell"]) rfl rfl sc_w_bits (fun _ _ _ _ _ _ us hl => match us, hl with | [_], _ => rfl) (fun vs H Q E h => ?_) (fun f cdv A outer σ0 H vs Q E hr h => ?_)
  · obtain ⟨c, rfl, _⟩ := h; rfl
  · obtain ⟨c, rfl, k⟩ := h
    have kk : ∀ i : Int, 1 ≤ i → i ≤ 40 → Q (.int i) H := fun i a b => by
      obtain ⟨n, rfl⟩ := nat_of (show 0 ≤ i by omega)
      exact k n (by omega) (by omega)
    refine ⟨_, (pss_cons (ps_if (pt_cmpR op_eq (pe_op op_mod (pv 0) pe_int) pe_int (nomark _)) (pss_one (ps_ret pe_int)) pss_nil)
      (pss_cons (ps_if (pt_cmpR op_eq (pe_op op_mod (pv 0) pe_int) pe_int (nomark _)) (pss_one (ps_ret (pe_op op_add pe_int (pe_op op_mod (pe_op op_fdivW (pv 0) pe_int) pe_int)))) pss_nil)
      (pss_one (ps_ret (pe_op op_add pe_int (pe_op op_mod (pe_op op_fdivW (pv 0) pe_int) pe_int)))))), ?_⟩
    walk_at "rd"
    refine ite_d (fun h1 => ?_) (fun h1 => ?_)
    · walk_at "rd"
      exact kk _ (by decide) (by decide)
    walk_at "rd"
    refine ite_d (fun h2 => ?_) (fun h2 => ?_)
    · walk_at "rd"
      exact kk _ (by omega) (by omega)
    walk_at "rd"
    exact kk _ (by omega) (by omega)
def sp_spotB : Sp := fun vs H Q _ => ∃ (c : Int) (n : Nat), vs = [.int c, .int (n : Int)] ∧ 1 ≤ n ∧ n ≤ 40 ∧ ∀ H' z, Same H H' → -1099511627776 ≤ z → z < 1099511627776 → Q (.int z) H'
theorem mp_spotB : MonP sp_spotB := fun vs H Q Q' E h ⟨c, n, x1, x2, x3, k⟩ => ⟨c, n, x1, x2, x3, fun H' z s a b => h _ _ (k H' z s a b)⟩
theorem ok_spotB (T : Env fa fn K mg) : Good P w K mg base CX0 1 ("_law_spot", none) ["_law_cell", "_law_bits_here"] sp_spotB := by
  refine good_mk T 29 (d := d_w_spot) (N := ["_law_cell", "_law_bits_here", "_law_way", "_law_rest", "_law_wide"]) (ps := ["_law_cell", "_law_bits_here"]) rfl rfl sc_w_spot (fun _ _ _ _ _ _ us hl => match us, hl with | [_, _], _ => rfl) (fun vs H Q E h => ?_) (fun f cdv A outer σ0 H vs Q E hr h => ?_)
  · obtain ⟨c, n, rfl, _⟩ := h; rfl
  · obtain ⟨c, n, rfl, n1, n40, k⟩ := h
    have hu := hu_of hr
    have hp := Sq.two_pos n
    have hq := two40 n40

    have half : ∀ m : Nat, m < n → (2 : Int) ^ m + 1 ≤ 2 ^ n := fun m hm => by
      have e1 : (2 : Int) ^ n = 2 ^ (n - 1 + 1) := by rw [Nat.sub_add_cancel n1]
      have e2 := Sq.two_succ (n - 1)
      have e3 := two_mono (show m ≤ n - 1 by omega)
      have e4 := Sq.two_pos (n - 1)
      omega
    refine ⟨_, (pss_cons (ps_set (i := 2) sc_w_spot.nd rfl (Or.inl rfl) (pe_op op_mod (pv 0) pe_int))
      (pss_cons (ps_set (i := 3) sc_w_spot.nd rfl (Or.inl rfl) (pe_op op_fdivW (pv 0) pe_int))
      (pss_cons (ps_set (i := 4) sc_w_spot.nd rfl (Or.inl rfl) (pe_op op_shl pe_int (pv 1)))
      (pss_cons (ps_if (pt_cmpR op_eq (pv 2) pe_int (nomark _)) (pss_one (ps_ret (pe_op op_sub (pe_op op_mod (pv 3) pe_int) pe_int))) pss_nil)
      (pss_cons (ps_if (pt_cmpR op_eq (pv 2) pe_int (nomark _)) (pss_one (ps_ret (pe_op op_sub (pe_op op_mod (pv 3) (pe_op op_mulW pe_int (pv 4))) (pv 4)))) pss_nil)
      (pss_cons (ps_if (pt_cmpR op_eq (pv 2) pe_int (nomark _)) (pss_one (ps_ret (pe_ix (ix_listK K rfl) (pe_lst (pa_cons (pe_op op_sub (pv 4) pe_int) (pa_cons (pe_op op_sub pe_int (pv 4)) (pa_cons (pe_un un_neg pe_int) (pa_cons pe_int pa_nil))))) (pe_op op_mod (pv 3) pe_int) (fun _ _ => rfl)))) pss_nil)
      (pss_cons (ps_if (pt_cmpR op_eq (pv 2) pe_int (nomark _)) (pss_one (ps_ret (pe_op op_sub (pe_op op_shl pe_int (pe_op op_mod (pe_op op_fdivW (pv 3) pe_int) (pv 1))) (pe_op op_mod (pe_op op_fdivW (pv 3) pe_int) pe_int)))) pss_nil)
      (pss_one (ps_ret (pe_op op_sub (pe_op op_sub pe_int (pe_op op_shl pe_int (pe_op op_mod (pe_op op_fdivW (pv 3) pe_int) (pv 1)))) (pe_op op_mod (pe_op op_fdivW (pv 3) pe_int) pe_int))))))))))), ?_⟩
    walk_at "rd"
    refine rd_I (by refine ⟨by omega, by omega, by decide⟩) ?_
    rw [shl_ok']
    walk_at "rd"
    refine ite_d (fun h1 => ?_) (fun h1 => ?_)
    · walk_at "rd"
      have hn := two_mono n1
      have e1 : (2 : Int) ^ 1 = 2 := by decide
      exact k _ _ (Same.refl _) (by omega) (by omega)
    walk_at "rd"
    refine ite_d (fun h2 => ?_) (fun h2 => ?_)
    · walk_at "rd"
      refine rd_I (small_mul (by decide) (by decide) (by omega) (by omega)) ?_
      refine rd_mod (by omega) ?_
      walk_at "rd"
      have z0 := Int.emod_nonneg (c / 5) (show (2 * 2 ^ n : Int) ≠ 0 by omega)
      have z1 := Int.emod_lt_of_pos (c / 5) (show (0 : Int) < 2 * 2 ^ n by omega)
      exact k _ _ (Same.refl _) (by omega) (by omega)
    walk_at "rd"
    refine ite_d (fun h3 => ?_) (fun h3 => ?_)
    · walk_at "rd"
      refine rd_new (hn := by show 4 ≤ sizeLine; decide) fun p hp' => ?_
      walk_at "rd"
      rcases (by omega : c / 5 % 4 = 0 ∨ c / 5 % 4 = 1 ∨ c / 5 % 4 = 2 ∨ c / 5 % 4 = 3) with z | z | z | z <;> rw [z]
      · exact rd_ixL (SqL.of upd_same) rfl (k _ _ (same_upd hp') (by omega) (by omega))
      · exact rd_ixL (SqL.of upd_same) rfl (k _ _ (same_upd hp') (by omega) (by omega))
      · exact rd_ixL (SqL.of upd_same) rfl (k _ _ (same_upd hp') (by omega) (by omega))
      · exact rd_ixL (SqL.of upd_same) rfl (k _ _ (same_upd hp') (by omega) (by omega))
    have md : ∃ m : Nat, c / 5 / 2 % (n : Int) = (m : Int) ∧ m < n := by
      have z0 := Int.emod_nonneg (c / 5 / 2) (show (n : Int) ≠ 0 by omega)
      have z1 := Int.emod_lt_of_pos (c / 5 / 2) (show (0 : Int) < (n : Int) by omega)
      obtain ⟨m, hm⟩ := nat_of z0
      exact ⟨m, hm, by omega⟩
    obtain ⟨m, hm, hmn⟩ := md
    have hh := half m hmn
    have hm0 := Sq.two_pos m
    walk_at "rd"
    refine ite_d (fun h4 => ?_) (fun h4 => ?_)
    · walk_at "rd"
      refine rd_mod (by omega) ?_
      rw [hm]
      refine rd_I (by refine ⟨by omega, by omega, by decide⟩) ?_
      rw [shl_ok']
      walk_at "rd"
      exact k _ _ (Same.refl _) (by omega) (by omega)
    walk_at "rd"
    refine rd_mod (by omega) ?_
    rw [hm]
    refine rd_I (by refine ⟨by omega, by omega, by decide⟩) ?_
    rw [shl_ok']
    walk_at "rd"
    exact k _ _ (Same.refl _) (by omega) (by omega)
def sp_boxL (K : PySem.W.Frag) : Sp := fun vs H Q _ => ∃ (p : Addr) (h : Int) (ps : List (Int × Int)), vs = [.ref p, .int h] ∧ TL H p (ps.map fun c => [c.1, c.2]) ∧ 0 ≤ h ∧ h ≤ 1099511627776 ∧ ps.length ≤ 1000 ∧ ∀ H' v o, Same H H' → SpanV H' v o → LBox ps h o → Q v H'
theorem mp_boxL : MonP (sp_boxL K) := fun vs H Q Q' E h ⟨p, a, ps, x1, x2, x3, x4, x5, k⟩ => ⟨p, a, ps, x1, x2, x3, x4, x5, fun H' v o s a b => h _ _ (k H' v o s a b)⟩
theorem ok_boxL (T : Env fa fn K mg) : Good P w K mg base CX0 1 ("_law_box", none) ["_law_places", "_law_half"] (sp_boxL K) := by
  refine good_mk T 30 (d := d_w_box) (N := ["_law_places", "_law_half", "_law_across", "_law_down", "_law_left", "_law_top", "_law_place"]) (ps := ["_law_places", "_law_half"]) rfl rfl sc_w_box (fun _ _ _ _ _ _ us hl => match us, hl with | [_, _], _ => rfl) (fun vs H Q E h => ?_) (fun f cdv A outer σ0 H vs Q E hr h => ?_)
  · obtain ⟨p, a, ps, rfl, _⟩ := h; rfl
  · obtain ⟨p, a, ps, rfl, hT, a0, a1, hl, k⟩ := h
    have hu := hu_of hr
    have hsz := sizeBig
    refine ⟨_, (pss_cons (ps_setLc (i := 2) (own := [("_law_place", 6)]) (tt := tYes) rfl sc_w_box.nd rfl rfl (sw_true rfl rfl rfl (by decide +kernel)) (pi_listK K rfl (pv 0)) (blkOk_by (own := [("_law_place", 6)]) (N := ["_law_places", "_law_half", "_law_across", "_law_down", "_law_left", "_law_top", "_law_place"]) (sc := defScope st_w_box) (by decide +kernel)) (fun _ _ _ _ _ => by exact (pg_name (i := 6) sc_w_box.nd rfl (Or.inl rfl))) (fun _ _ _ _ _ => by exact pts_nil) (fun _ _ _ _ _ => by exact (pe_ix (ix_tupK K rfl) (pv 6) pe_int (fun _ _ => rfl))))
      (pss_cons (ps_setLc (i := 3) (own := [("_law_place", 6)]) (tt := tYes) rfl sc_w_box.nd rfl rfl (sw_true rfl rfl rfl (by decide +kernel)) (pi_listK K rfl (pv 0)) (blkOk_by (own := [("_law_place", 6)]) (N := ["_law_places", "_law_half", "_law_across", "_law_down", "_law_left", "_law_top", "_law_place"]) (sc := defScope st_w_box) (by decide +kernel)) (fun _ _ _ _ _ => by exact (pg_name (i := 6) sc_w_box.nd rfl (Or.inl rfl))) (fun _ _ _ _ _ => by exact pts_nil) (fun _ _ _ _ _ => by exact (pe_ix (ix_tupK K rfl) (pv 6) pe_int (fun _ _ => rfl))))
      (pss_cons (ps_if (pt_cmpR op_gt (pv 1) pe_int (nomark _)) (pss_cons (ps_set (i := 2) sc_w_box.nd rfl (Or.inl rfl) (pe_op op_cat (pv 2) (pe_lst (pa_cons (pe_op op_sub pe_int (pv 1)) (pa_cons (pe_op op_sub (pv 1) pe_int) pa_nil)))))
      (pss_one (ps_set (i := 3) sc_w_box.nd rfl (Or.inl rfl) (pe_op op_cat (pv 3) (pe_lst (pa_cons (pe_op op_sub pe_int (pv 1)) (pa_cons (pe_op op_sub (pv 1) pe_int) pa_nil))))))) pss_nil)
      (pss_cons (ps_if (pt_cmpR (op_eqDK K rfl hr.units) (pv 2) (pe_lst pa_nil) (nomark _)) (pss_one (ps_ret pe_non)) pss_nil)
      (pss_cons (ps_set (i := 4) sc_w_box.nd rfl (Or.inl rfl) (pe_callB (cr_minK K rfl rfl) (by rfl) (T.free 6) (by decide +kernel) (pa_cons (pv 2) pa_nil)))
      (pss_cons (ps_set (i := 5) sc_w_box.nd rfl (Or.inl rfl) (pe_callB (cr_minK K rfl rfl) (by rfl) (T.free 6) (by decide +kernel) (pa_cons (pv 3) pa_nil)))
      (pss_one (ps_ret (pe_tup (pa_cons (pv 4) (pa_cons (pv 5) (pa_cons (pe_op op_add (pe_op op_sub (pe_callB (cr_maxK K rfl rfl) (by rfl) (T.free 7) (by decide +kernel) (pa_cons (pv 2) pa_nil)) (pv 4)) pe_int) (pa_cons (pe_op op_add (pe_op op_sub (pe_callB (cr_maxK K rfl rfl) (by rfl) (T.free 7) (by decide +kernel) (pa_cons (pv 3) pa_nil)) (pv 5)) pe_int) pa_nil))))))))))))), ?_⟩
    have hps : ∀ x ∈ ps.map (fun c : Int × Int => [c.1, c.2]), x.length = 2 := fun x hx => by obtain ⟨c, _, rfl⟩ := List.mem_map.mp hx; rfl
    have hz : (ps.map fun c : Int × Int => [c.1, c.2]).length ≤ sizeLine := by rw [List.length_map]; omega
    walk_at "rs"
    refine rd_colT (n := 2) (Nat.lt_of_lt_of_eq (by decide : 6 < 7) rfl) rfl hT hps (by decide) (by decide) hz fun D1 hD1 => ?_
    have e1 : ((ps.map fun c : Int × Int => [c.1, c.2]).map fun x => x.getD (Int.toNat 0) 0) = ps.map (·.1) := by rw [List.map_map]; rfl
    rw [e1]
    have k1 := same_upd (o := .lst ((ps.map (·.1)).map V.int)) hD1
    have L1 : (upd H D1 (.lst ((ps.map (·.1)).map V.int))) D1 = some (.lst ((ps.map (·.1)).map V.int)) := upd_same
    have T1 := hT.same k1
    generalize upd H D1 (HO.lst ((ps.map (·.1)).map V.int)) = H1 at *
    walk_at "rs"
    refine rd_colT (n := 2) (Nat.lt_of_lt_of_eq (by decide : 6 < 7) rfl) rfl T1 hps (by decide) (by decide) hz fun D2 hD2 => ?_
    have e2 : ((ps.map fun c : Int × Int => [c.1, c.2]).map fun x => x.getD (Int.toNat 1) 0) = ps.map (·.2) := by rw [List.map_map]; rfl
    rw [e2]
    have k2 := same_upd (o := .lst ((ps.map (·.2)).map V.int)) hD2
    have hL2 : (upd H1 D2 (.lst ((ps.map (·.2)).map V.int))) D2 = some (.lst ((ps.map (·.2)).map V.int)) := upd_same
    have L1' := k2 _ _ L1
    have s2 := k1.trans k2
    generalize upd H1 D2 (HO.lst ((ps.map (·.2)).map V.int)) = H2 at *
    walk_at "rhi"
    refine rd_cut (fun σ H' => ∃ q1 q2 : Addr, σ = [some (.ref p), some (.int a), some (.ref q1), some (.ref q2), none, none, none] ∧ Same H2 H' ∧ H' q1 = some (.lst ((xsOf ps a).map V.int)) ∧ H' q2 = some (.lst ((ysOf ps a).map V.int))) (by walk_at "mono") ?_ ?_
    · walk_at "rd"
      refine ite_d (fun z => ?_) (fun z => ?_)
      · walk_at "rd"
        refine rd_new (hn := by show 2 ≤ sizeLine; decide) fun t3 h3 => ?_
        have k3 := same_upd (o := HO.lst [V.int (0 - a), V.int (a - 1)]) h3
        have T3 : (upd H2 t3 (.lst [V.int (0 - a), V.int (a - 1)])) t3 = some (.lst [V.int (0 - a), V.int (a - 1)]) := upd_same
        have A3 := k3 _ _ L1'
        have B3 := k3 _ _ hL2
        generalize upd H2 t3 (HO.lst [V.int (0 - a), V.int (a - 1)]) = H3 at *
        have lz : ∀ f : Int × Int → Int, ((ps.map f).map V.int).length + [V.int (0 - a), V.int (a - 1)].length ≤ sizeLine := fun f => by rw [List.length_map, List.length_map]; show ps.length + 2 ≤ sizeLine; omega
        have ez : ∀ f : Int × Int → Int, ((ps.map f).map V.int) ++ [V.int (0 - a), V.int (a - 1)] = ((ps.map f) ++ (if 0 < a then [-a, a - 1] else [])).map V.int := fun f => by
          rw [if_pos z, List.map_append, Int.zero_sub]; rfl
        refine ⟨D1, t3, _, _, rfl, rfl, A3, T3, lz _, fun q1 h4 => ?_⟩
        have k4 := same_upd (o := HO.lst (((ps.map (·.1)).map V.int) ++ [V.int (0 - a), V.int (a - 1)])) h4
        have Q4 : (upd H3 q1 (HO.lst (((ps.map (·.1)).map V.int) ++ [V.int (0 - a), V.int (a - 1)]))) q1 = some (.lst ((xsOf ps a).map V.int)) := by rw [upd_same, ez]; rfl
        have B4 := k4 _ _ B3
        generalize upd H3 q1 (HO.lst (((ps.map (·.1)).map V.int) ++ [V.int (0 - a), V.int (a - 1)])) = H4 at *
        walk_at "rd"
        refine rd_new (hn := by show 2 ≤ sizeLine; decide) fun t5 h5 => ?_
        have k5 := same_upd (o := HO.lst [V.int (0 - a), V.int (a - 1)]) h5
        have T5 : (upd H4 t5 (.lst [V.int (0 - a), V.int (a - 1)])) t5 = some (.lst [V.int (0 - a), V.int (a - 1)]) := upd_same
        have B5 := k5 _ _ B4
        have Q5 := k5 _ _ Q4
        generalize upd H4 t5 (HO.lst [V.int (0 - a), V.int (a - 1)]) = H5 at *
        refine ⟨D2, t5, _, _, rfl, rfl, B5, T5, lz _, fun q2 h6 => ?_⟩
        have k6 := same_upd (o := HO.lst (((ps.map (·.2)).map V.int) ++ [V.int (0 - a), V.int (a - 1)])) h6
        walk_at "rd"
        exact ⟨q1, q2, rfl, ((k3.trans k4).trans k5).trans k6, k6 _ _ Q5, by rw [upd_same, ez]; rfl⟩
      · walk_at "rd"
        refine ⟨D1, D2, rfl, Same.refl _, ?_, ?_⟩
        · unfold xsOf; rw [if_neg (by omega), List.append_nil]; exact L1'
        · unfold ysOf; rw [if_neg (by omega), List.append_nil]; exact hL2
    rintro σ H3 ⟨q1, q2, rfl, s3, Q1, Q2⟩
    walk_at "rd"
    refine rd_new (hn := by show 0 ≤ sizeLine; decide) fun t7 h7 => ?_
    have k7 := same_upd (o := HO.lst []) h7
    have T7 : (upd H3 t7 (.lst [])) t7 = some (.lst (([] : List Int).map V.int)) := upd_same
    have A7 := k7 _ _ Q1
    have B7 := k7 _ _ Q2
    have s7 := (s2.trans s3).trans k7
    generalize upd H3 t7 (HO.lst []) = H7 at *
    refine rd_eqLI (SqL.of A7) (SqL.of T7) ?_
    by_cases z : xsOf ps a = []
    · rw [decide_eq_true z]
      walk_at "rd"
      exact k _ _ none s7 rfl z
    · rw [decide_eq_false z]
      walk_at "rd"
      have zy : ysOf ps a ≠ [] := fun y => z (by
        have e : (xsOf ps a).length = (ysOf ps a).length := by unfold xsOf ysOf; rw [List.length_append, List.length_append, List.length_map, List.length_map]
        exact List.length_eq_zero_iff.mp (by rw [e, y]; rfl))
      obtain ⟨l, l0, l1⟩ := min_in z
      obtain ⟨t, t0, t1⟩ := min_in zy
      obtain ⟨g, g0, g1⟩ := max_in z
      obtain ⟨d, d0, d1⟩ := max_in zy
      refine rd_min l A7 l0 l1 ?_
      walk_at "rd"
      refine rd_min t B7 t0 t1 ?_
      walk_at "rd"
      refine rd_max g A7 g0 g1 ?_
      walk_at "rd"
      refine rd_max d B7 d0 d1 ?_
      walk_at "rd"
      refine rd_new (hn := by show 4 ≤ sizeLine; decide) fun p8 h8 => ?_
      refine k _ _ (some (l, t, g - l + 1, d - t + 1)) (s7.trans (same_upd h8)) ⟨p8, rfl, upd_same⟩ ⟨l0, ?_, t0, ?_, fun x hx => ?_, fun y hy => ?_⟩
      · show l + (g - l + 1) - 1 ∈ _
        rw [show l + (g - l + 1) - 1 = g by omega]; exact g0
      · show t + (d - t + 1) - 1 ∈ _
        rw [show t + (d - t + 1) - 1 = d by omega]; exact d0
      · have := l1 x hx; have := g1 x hx
        dsimp only
        omega
      · have := t1 y hy; have := d1 y hy
        dsimp only
        omega
def sp_rightB : Sp := fun vs H Q _ => ∃ (v u : V) (o : Option Box), vs = [v, u] ∧ SpanV H v o ∧ SpanV H u o ∧ Q (.bl true) H
theorem mp_rightB : MonP sp_rightB := fun vs H Q Q' E h ⟨v, u, o, x1, x2, x3, k⟩ => ⟨v, u, o, x1, x2, x3, h _ _ k⟩
theorem ok_rightB (T : Env fa fn K mg) : Good P w K mg base CX0 1 ("_law_right", none) ["_law_found", "_law_due"] sp_rightB := by
  refine good_mk T 31 (d := d_w_right) (N := ["_law_found", "_law_due", "_law_k"]) (ps := ["_law_found", "_law_due"]) rfl rfl sc_w_right (fun _ _ _ _ _ _ us hl => match us, hl with | [_, _], _ => rfl) (fun vs H Q E h => ?_) (fun f cdv A outer σ0 H vs Q E hr h => ?_)
  · obtain ⟨v, u, o, rfl, _⟩ := h; rfl
  · obtain ⟨v, u, o, rfl, hv, hu', k⟩ := h
    have hu := hu_of hr
    refine ⟨_, (pss_cons (ps_if (pt_cmpR op_isN (pv 1) pe_non (nomark _)) (pss_one (ps_ret (pe_cmpR op_isN (pv 0) pe_non (nomark _)))) pss_nil)
      (pss_cons (ps_if (PW.pt (pw_or (pt_not (pt_val (pe_callB (call_isiK K rfl) (by rfl) (T.free 4) (by decide +kernel) (pa_cons (pv 0) (pa_cons (pe_bltn (v := V.ty "tuple") rfl (T.free 33) (by decide +kernel) rfl) pa_nil))))) (pw_or1 (pt_cmpR op_ne (pe_callB (call_lenK K rfl) (by rfl) (T.free 11) (by decide +kernel) (pa_cons (pv 0) pa_nil)) pe_int (nomark _))))) (pss_one (ps_ret pe_bl)) pss_nil)
      (pss_cons (ps_for PassesOwn.never rfl (pi_range1 (by rfl) (T.free 34) (pa_cons pe_int pa_nil)) (pg_name (i := 2) sc_w_right.nd rfl (Or.inl rfl)) (pss_one (ps_if (PW.pt (pw_or (pt_not (pt_val (pe_callB (call_isiK K rfl) (by rfl) (T.free 4) (by decide +kernel) (pa_cons (pe_ix (ix_tupK K rfl) (pv 0) (pv 2) (fun _ _ => rfl)) (pa_cons (pe_bltn (v := V.ty "int") rfl (T.free 5) (by decide +kernel) rfl) pa_nil))))) (pw_or (pt_val (pe_callB (call_isiK K rfl) (by rfl) (T.free 4) (by decide +kernel) (pa_cons (pe_ix (ix_tupK K rfl) (pv 0) (pv 2) (fun _ _ => rfl)) (pa_cons (pe_bltn (v := V.ty "bool") rfl (T.free 3) (by decide +kernel) rfl) pa_nil)))) (pw_or1 (pt_cmpR op_ne (pe_ix (ix_tupK K rfl) (pv 0) (pv 2) (fun _ _ => rfl)) (pe_ix (ix_tupK K rfl) (pv 1) (pv 2) (fun _ _ => rfl)) (nomark _)))))) (pss_one (ps_ret pe_bl)) pss_nil)))
      (pss_one (ps_ret pe_bl))))), ?_⟩
    cases o with
    | none =>
      have e1 : v = .non := hv
      have e2 : u = .non := hu'
      subst e1 e2
      walk_at "rd"
      refine iteT ?_
      walk_at "rd"
      exact k
    | some b =>
      obtain ⟨t, rfl, ht⟩ := hv
      obtain ⟨r, rfl, hr'⟩ := hu'
      walk_at "rd"
      refine iteF ?_
      walk_at "rd"
      refine rd_isiT ht ?_
      walk_at "rd"
      refine rd_lenT (SqT.of ht) ?_
      walk_at "rd"
      refine iteF ?_
      walk_at "rd"
      refine ⟨4, rfl, by decide, by decide, ?_⟩
      refine for_it (walk_r0 (n := 4)) (fun i σ H' => H' = H ∧ ∃ x4 : Option V, σ = [some (.ref t), some (.ref r), x4]) ⟨rfl, none, rfl⟩ (fun _ _ _ _ _ => trivial) ?_ ?_
      · rintro i x σ H1 H2 hi ⟨rfl, x4, rfl⟩ ⟨rfl, rfl⟩
        obtain ⟨y, hy⟩ : ∃ y : Int, atI [V.int b.1, .int b.2.1, .int b.2.2.1, .int b.2.2.2] ((i : Nat) : Int) = some (.int y) := by
          match i, hi with
          | 0, _ => exact ⟨_, atI_nat (j := 0) rfl⟩
          | 1, _ => exact ⟨_, atI_nat (j := 1) rfl⟩
          | 2, _ => exact ⟨_, atI_nat (j := 2) rfl⟩
          | 3, _ => exact ⟨_, atI_nat (j := 3) rfl⟩
        walk_at "rd"
        refine rd_ixT (SqT.of ht) hy ?_
        walk_at "rd"
        refine rd_isiI ?_
        walk_at "rd"
        refine rd_ixT (SqT.of ht) hy ?_
        walk_at "rd"
        refine rd_isiB ?_
        walk_at "rd"
        refine rd_ixT (SqT.of ht) hy ?_
        walk_at "rd"
        refine rd_ixT (SqT.of hr') hy ?_
        walk_at "rd"
        rw [decide_eq_true rfl]
        walk_at "rd"
        exact ⟨rfl, _, rfl⟩
      · rintro σ H1 ⟨rfl, x4, rfl⟩
        walk_at "rd"
        exact k
def sp_boxP (C : Addr) : Sp := fun vs H Q _ => ∃ (a : GA) (rows : List (Int × Addr)) (q : List Sq) (n : Nat) (S : Sq), vs = [.ref a.g, .int (n : Int)] ∧ GAt C H a rows q ∧ q[n]? = some S ∧ 1 ≤ S.level ∧ S.level ≤ 60 ∧ q.length ≤ 16000000 ∧ ∀ H' v, Same H H' → SpanV H' v S.box → Q v H'
theorem mp_boxP {C : Addr} : MonP (sp_boxP C) := fun vs H Q Q' E h ⟨a, rows, q, n, S, x1, x2, x3, x4, x5, x6, k⟩ => ⟨a, rows, q, n, S, x1, x2, x3, x4, x5, x6, fun H' v s b => h _ _ (k H' v s b)⟩
theorem ok_boxP (T : Env fa fn K mg) : Good P w K mg base CX0 4 ("box_of", none) ["grove", "field"] (sp_boxP (CG K)) := by
  have G_Grove_span := ok_span (P := P) (w := w) (base := base) T
  have G_Grove_level_of := ok_level_of (P := P) (w := w) (base := base) T
  refine good_mk T 1 (d := d_box_of) (N := ["grove", "field", "span", "half"]) (ps := ["grove", "field"]) rfl rfl sc_box_of (fun _ _ _ _ _ _ us hl => match us, hl with | [_, _], _ => rfl) (fun vs H Q E h => ?_) (fun f cdv A outer σ0 H vs Q E hr h => ?_)
  · obtain ⟨a, rows, q, n, S, rfl, _⟩ := h; rfl
  · obtain ⟨a, rows, q, n, S, rfl, G, hn, l1, l2, hq, k⟩ := h
    have hu := hu_of hr
    refine ⟨_, (pss_cons (ps_set (i := 2) sc_box_of.nd rfl (Or.inl rfl) (pe_mgK K rfl (pv 0) (T.cls 0) (T.meth 1) G_Grove_span (hr.mono (by decide)) (pa_cons (pv 1) pa_nil)))
      (pss_cons (ps_if (pt_cmpR op_isN (pv 2) pe_non (nomark _)) (pss_one (ps_ret pe_non)) pss_nil)
      (pss_cons (ps_set (i := 3) sc_box_of.nd rfl (Or.inl rfl) (pe_op op_shl pe_int (pe_op op_sub (pe_mgK K rfl (pv 0) (T.cls 0) (T.meth 2) G_Grove_level_of (hr.mono (by decide)) (pa_cons (pv 1) pa_nil)) pe_int)))
      (pss_one (ps_ret (pe_tup (pa_cons (pe_op op_sub (pe_ix (ix_tupK K rfl) (pv 2) pe_int (fun _ _ => rfl)) (pv 3)) (pa_cons (pe_op op_sub (pe_ix (ix_tupK K rfl) (pv 2) pe_int (fun _ _ => rfl)) (pv 3)) (pa_cons (pe_ix (ix_tupK K rfl) (pv 2) pe_int (fun _ _ => rfl)) (pa_cons (pe_ix (ix_tupK K rfl) (pv 2) pe_int (fun _ _ => rfl)) pa_nil)))))))))), ?_⟩
    walk_at "rd"
    refine rd_methR G.ob (by rfl) ?_
    walk_at "rd"
    refine ⟨a, rows, q, n, S, rfl, G, hn, hq, fun v hv => ?_⟩
    have ebox : S.box = match S.span with | none => none | some b => some (b.1 - S.half, b.2.1 - S.half, b.2.2.1, b.2.2.2) := rfl
    cases eo : S.span with
    | none =>
      rw [eo] at hv ebox
      have e1 : v = .non := hv
      subst e1
      walk_at "rd"
      refine iteT ?_
      walk_at "rd"
      exact k _ _ (Same.refl _) (by rw [ebox]; rfl)
    | some b =>
      rw [eo] at hv ebox
      obtain ⟨t, rfl, ht⟩ := hv
      walk_at "rd"
      refine iteF ?_
      walk_at "rd"
      refine rd_methR G.ob (by rfl) ?_
      walk_at "rd"
      refine ⟨a, rows, q, n, S, rfl, G, hn, hq, ?_⟩
      walk_at "rd"
      have er : ((S.level : Nat) : Int) - 1 = ((S.level - 1 : Nat) : Int) := by omega
      rw [er]
      refine rd_I (by refine ⟨by omega, by omega, by decide⟩) ?_
      rw [shl_ok']
      walk_at "rd"
      refine rd_new (hn := by show 4 ≤ sizeLine; decide) fun p hp => ?_
      exact k _ _ (same_upd hp) (by rw [ebox]; exact ⟨p, rfl, upd_same⟩)
/-! #### what is planted -/
def bas (h s : Int) (u v : Int) : Int := if -h ≤ u ∧ u < h ∧ -h ≤ v ∧ v < h then s else 0
def fv (kvs : List (List Key × V)) (h s u v : Int) : Int := match valV kvs [Sum.inl u, Sum.inl v] with
  | some (.int i) => i
  | _ => bas h s u v
def KOk (kvs : List (List Key × V)) : Prop := ∀ e ∈ kvs, ∃ i j s : Int, e = ([Sum.inl i, Sum.inl j], .int s) ∧ 0 ≤ s ∧ s ≤ 7
theorem putK_mem {kvs : List (List Key × V)} {k : List Key} {x : V} {e : List Key × V} (h : e ∈ putK kvs k x) : e ∈ kvs ∨ e = (k, x) := by
  unfold putK at h
  split at h
  · obtain ⟨e', m, z⟩ := List.mem_map.mp h
    by_cases y : e'.1 = k
    · rw [if_pos y] at z
      exact .inr (by rw [← z, y])
    · rw [if_neg y] at z
      exact .inl (z ▸ m)
  · rcases List.mem_append.mp h with m | m
    · exact .inl m
    · exact .inr (List.mem_singleton.mp m)
theorem KOk.put {kvs : List (List Key × V)} (h : KOk kvs) (x y s : Int) (h0 : 0 ≤ s) (h7 : s ≤ 7) : KOk (putK kvs [Sum.inl x, Sum.inl y] (.int s)) := fun e he => by
  rcases putK_mem he with z | z
  · exact h e z
  · exact ⟨x, y, s, z, h0, h7⟩
theorem fv_put (kvs : List (List Key × V)) (h s x y t u v : Int) : fv (putK kvs [Sum.inl x, Sum.inl y] (.int t)) h s u v = if u = x ∧ v = y then t else fv kvs h s u v := by
  unfold fv
  rw [valV_put]
  by_cases z : u = x ∧ v = y
  · obtain ⟨rfl, rfl⟩ := z
    rw [if_pos rfl, if_pos ⟨rfl, rfl⟩]
  · rw [if_neg (fun e => z (by simp only [List.cons.injEq, Sum.inl.injEq, and_true] at e; exact e)), if_neg z]
def RowsB (H : Hp) (q : List Sq) (l : List Addr) : Prop := ∀ t ∈ l, ∃ (n : Nat) (S : Sq) (v : V), H t = some (.tup [.int (n : Int), v]) ∧ q[n]? = some S ∧ 1 ≤ S.level ∧ S.level ≤ 41 ∧ SpanV H v S.box
theorem RowsB.keep {H H' : Hp} {q q' : List Sq} {l : List Addr} (h : RowsB H q l) (k : Tup H H') (p : q <+: q') : RowsB H' q' l := fun t ht => let ⟨n, S, v, a, b, c, d, e⟩ := h t ht; ⟨n, S, v, k _ _ a, pre_get p b, c, d, e.keep k⟩
theorem RowsB.add {H : Hp} {q : List Sq} {l : List Addr} (h : RowsB H q l) {t : Addr} {n : Nat} {S : Sq} {v : V} (a : H t = some (.tup [.int (n : Int), v])) (b : q[n]? = some S) (c : 1 ≤ S.level) (d : S.level ≤ 41) (e : SpanV H v S.box) : RowsB H q (l ++ [t]) := fun u hu => by
  rcases List.mem_append.mp hu with hu | hu
  · exact h u hu
  · rw [List.mem_singleton] at hu; subst hu; exact ⟨n, S, v, a, b, c, d, e⟩
theorem Scr.putT {H0 H : Hp} {a0 p : Addr} {a : GA} {rows : List (Int × Addr)} {kvs : List (List Key × V)} {o' : HO} (h : Scr H0 a0 a rows H) (hO : Only H0) (hp : H p = some (.dT kvs)) : Scr H0 a0 a rows (upd H p o') := fun o e => by
  refine ⟨?_, (h o e).2⟩
  rw [upd_ne]
  · exact (h o e).1
  · rintro rfl
    rw [(h o e).1] at hp
    cases hp
    rcases hO a0 with z | ⟨u, ys, z⟩
    · rw [z] at e; cases e
    · rw [z] at e; cases e
/-- the living keys -/
def Liv (kvs : List (List Key × V)) (ps : List (Int × Int)) : Prop := ∀ x y, (x, y) ∈ ps ↔ ∃ s, valV kvs [Sum.inl x, Sum.inl y] = some (.int s) ∧ 0 < s
theorem key_there {kvs : List (List Key × V)} (h : KOk kvs) {x y : Int} {v : V} (e : ([Sum.inl x, Sum.inl y], v) ∈ kvs) : ∃ s, valV kvs [Sum.inl x, Sum.inl y] = some (.int s) ∧ 0 ≤ s ∧ s ≤ 7 := by
  cases z : valV kvs [Sum.inl x, Sum.inl y] with
  | none => exact absurd (List.mem_map.mpr ⟨_, e, rfl⟩) (valV_not z)
  | some u =>
    have m : ∃ e' ∈ kvs, e'.2 = u := by
      unfold valV at z
      obtain ⟨e', m, z'⟩ := Option.map_eq_some_iff.mp z
      exact ⟨e', List.mem_of_find?_eq_some m, z'⟩
    obtain ⟨e', m, rfl⟩ := m
    obtain ⟨i, j, s, rfl, h0, h7⟩ := h e' m
    exact ⟨s, rfl, h0, h7⟩
theorem due_box {S : Sq} {kvs : List (List Key × V)} {ps : List (Int × Int)} {h s : Int} {o : Option Box} (w : S.wf) (l1 : 1 ≤ S.level) (hs : 1 ≤ s) (hv : ∀ u v, S.val u v = fv kvs h s u v) (hk : KOk kvs) (hl : 0 < h → (kvs.length : Int) < 2 * h) (hp : Liv kvs ps) (L : LBox ps h o) : o = S.box := by
  refine BoxOf.uniq (lbox_box (ks := kvs.map fun e => ((match e.1 with | Sum.inl i :: _ => i | _ => 0), (match e.1 with | _ :: Sum.inl j :: _ => j | _ => 0))) (fun x y => ?_) (fun z => by rw [List.length_map]; exact hl z) L) (box_box w l1)
  rw [hv]
  have hin : ∀ v, valV kvs [Sum.inl x, Sum.inl y] = some v → (x, y) ∈ kvs.map fun e => ((match e.1 with | Sum.inl i :: _ => i | _ => 0), (match e.1 with | _ :: Sum.inl j :: _ => j | _ => 0)) := fun v e => by
    obtain ⟨e', m, z⟩ := List.mem_map.mp (valV_in e)
    refine List.mem_map.mpr ⟨e', m, ?_⟩
    rw [z]
  have hout : valV kvs [Sum.inl x, Sum.inl y] = none → (x, y) ∉ kvs.map fun e => ((match e.1 with | Sum.inl i :: _ => i | _ => 0), (match e.1 with | _ :: Sum.inl j :: _ => j | _ => 0)) := fun e m0 => by
    obtain ⟨e', m, z⟩ := List.mem_map.mp m0
    obtain ⟨i, j, s', rfl, _⟩ := hk e' m
    simp only [Prod.mk.injEq] at z
    obtain ⟨rfl, rfl⟩ := z
    exact valV_not e (List.mem_map.mpr ⟨([Sum.inl i, Sum.inl j], .int s'), m, rfl⟩)
  rw [hp]
  unfold fv
  cases e : valV kvs [Sum.inl x, Sum.inl y] with
  | none =>
    have nn := hout e
    constructor
    · intro z
      refine .inr ?_
      have z' : bas h s x y ≠ 0 := z
      unfold bas at z'
      split at z'
      · next c => exact ⟨c.1, c.2.1, c.2.2.1, c.2.2.2, nn⟩
      · exact absurd rfl z'
    · rintro (⟨s', z, _⟩ | ⟨c1, c2, c3, c4, _⟩)
      · cases z
      · show bas h s x y ≠ 0
        unfold bas
        rw [if_pos ⟨c1, c2, c3, c4⟩]
        omega
  | some v =>
    have mm := hin v e
    obtain ⟨e', m, z⟩ := List.mem_map.mp (valV_in e)
    obtain ⟨i, j, s', rfl, _⟩ := hk e' m
    have z' : ([Sum.inl i, Sum.inl j] : List Key) = [Sum.inl x, Sum.inl y] := z
    simp only [List.cons.injEq, Sum.inl.injEq, and_true] at z'
    obtain ⟨rfl, rfl⟩ := z'
    obtain ⟨t, et, t0, t7⟩ := key_there hk m
    rw [e] at et
    cases et
    constructor
    · intro z
      have z' : t ≠ 0 := z
      exact .inl ⟨t, rfl, by omega⟩
    · rintro (⟨s'', z, zp⟩ | ⟨_, _, _, _, nn⟩)
      · cases z
        show t ≠ 0
        omega
      · exact absurd mm nn
theorem fv_nil (h s u v : Int) : fv [] h s u v = bas h s u v := rfl
theorem val_even (l : Nat) (s u v : Int) : (Sq.even l s).val u v = bas (2 ^ (l - 1)) s u v := by
  unfold Sq.val bas Sq.half
  rw [Sq.level_even]
  split
  · exact Sq.get_even s l _ _
  · rfl
def lawLevel : Nat := 55
set_option maxHeartbeats 32000000 in
theorem ok_law (T : Env fa fn K mg) : Good P w K mg base CX0 lawLevel ("law", none) ["_law_script"] (sp_law K) := by
  have G_w_at := ok_at (P := P) (w := w) (base := base) T
  have G_w_bits := ok_bits (P := P) (w := w) (base := base) T
  have G_w_spot := ok_spotB (P := P) (w := w) (base := base) T
  have G_w_box := ok_boxL (P := P) (w := w) (base := base) T
  have G_w_right := ok_rightB (P := P) (w := w) (base := base) T
  have G_box_of := ok_boxP (P := P) (w := w) (base := base) T
  have G_planted := ok_planted (P := P) (w := w) (base := base) T
  have G_Grove_init := ok_ginit (P := P) (w := w) (base := base) T
  have G_Grove_solid := ok_solid (P := P) (w := w) (base := base) T
  refine good_mk T 32 (d := d_law) (N := ["_law_script", "_law_grove", "_law_field", "_law_half", "_law_bits_here", "_law_level", "_law_lives", "_law_before", "_law_rows", "_law_at_here", "_law_x", "_law_y", "_law_state", "_law_living", "_law_one", "_law_due", "_law_place"]) (ps := ["_law_script"]) rfl rfl sc_law (fun _ _ _ _ _ _ us hl => match us, hl with | [_], _ => rfl) (fun vs H Q E h => ?_) (fun f cdv A outer σ0 H vs Q E hr h => ?_)
  · obtain ⟨a, ns, rfl, _⟩ := h; rfl
  · obtain ⟨a0, ns, rfl, hS, hlen, hO, k⟩ := h
    have hu := hu_of hr
    have hsz := sizeBig
    have mp1 := @mp_solid (CG K)
    have mp2 := mp_at (K := K)
    refine ⟨_, (pss_cons (ps_set (i := 1) sc_law.nd rfl (Or.inl rfl) (pe_mk0K K rfl (T.mkr 35) G_Grove_init (hr.mono (by decide)) (T.glo 36)))
      (pss_cons (ps_set (i := 2) sc_law.nd rfl (Or.inl rfl) (pe_mgK K rfl (pv 1) (T.cls 0) (T.meth 37) G_Grove_solid (hr.mono (by decide)) (pa_cons pe_int (pa_cons pe_int pa_nil))))
      (pss_cons (ps_set (i := 3) sc_law.nd rfl (Or.inl rfl) pe_int)
      (pss_cons (ps_set (i := 4) sc_law.nd rfl (Or.inl rfl) (pe_cgK K rfl G_w_bits (hr.mono (by decide)) (T.glo 38) (pa_cons (pe_cgK K rfl G_w_at (hr.mono (by decide)) (T.glo 39) (pa_cons (pv 0) (pa_cons pe_int pa_nil))) pa_nil)))
      (pss_cons (ps_if (pt_cmpR op_eq (pe_op op_mod (pe_cgK K rfl G_w_at (hr.mono (by decide)) (T.glo 39) (pa_cons (pv 0) (pa_cons pe_int pa_nil))) pe_int) pe_int (nomark _)) (pss_cons (ps_set (i := 5) sc_law.nd rfl (Or.inl rfl) (pe_op op_add pe_int (pe_op op_mod (pe_op op_fdivW (pe_cgK K rfl G_w_at (hr.mono (by decide)) (T.glo 39) (pa_cons (pv 0) (pa_cons pe_int pa_nil))) pe_int) pe_int)))
      (pss_cons (ps_if (pt_cmpR op_gt (pv 4) pe_int (nomark _)) (pss_one (ps_set (i := 5) sc_law.nd rfl (Or.inl rfl) (pe_op op_add pe_int (pe_op op_mod (pe_op op_fdivW (pe_cgK K rfl G_w_at (hr.mono (by decide)) (T.glo 39) (pa_cons (pv 0) (pa_cons pe_int pa_nil))) pe_int) pe_int)))) pss_nil)
      (pss_cons (ps_set (i := 3) sc_law.nd rfl (Or.inl rfl) (pe_op op_shl pe_int (pe_op op_sub (pv 5) pe_int)))
      (pss_one (ps_set (i := 2) sc_law.nd rfl (Or.inl rfl) (pe_mgK K rfl (pv 1) (T.cls 0) (T.meth 37) G_Grove_solid (hr.mono (by decide)) (pa_cons (pv 5) (pa_cons (pe_op op_add pe_int (pe_op op_mod (pe_op op_fdivW (pe_cgK K rfl G_w_at (hr.mono (by decide)) (T.glo 39) (pa_cons (pv 0) (pa_cons pe_int pa_nil))) pe_int) pe_int)) pa_nil)))))))) pss_nil)
      (pss_cons (ps_set (i := 6) sc_law.nd rfl (Or.inr rfl) pe_dnewT)
      (pss_cons (ps_set (i := 7) sc_law.nd rfl (Or.inl rfl) (pe_lst pa_nil))
      (pss_cons (ps_set (i := 8) sc_law.nd rfl (Or.inl rfl) (pe_lst (pa_cons (pe_tup (pa_cons (pv 2) (pa_cons (pe_cgK K rfl G_w_box (hr.mono (by decide)) (T.glo 40) (pa_cons (pe_lst pa_nil) (pa_cons (pv 3) pa_nil))) pa_nil))) pa_nil)))
      (pss_cons (ps_for PassesOwn.never rfl (pi_range3 (by rfl) (T.free 34) (pa_cons pe_int (pa_cons (pe_callB (call_min2 rfl) (by rfl) (T.free 6) (by decide +kernel) (pa_cons (pe_callB (call_lenK K rfl) (by rfl) (T.free 11) (by decide +kernel) (pa_cons (pv 0) pa_nil)) (pa_cons (pe_op op_sub pe_int (pe_op op_mulW pe_int (pe_callTy call_int1 (by rfl) (T.free 5) (by decide +kernel) (pa_cons (pe_cmpR op_gt (pv 4) pe_int (nomark _)) pa_nil)))) pa_nil))) (pa_cons pe_int pa_nil)))) (pg_name (i := 9) sc_law.nd rfl (Or.inl rfl)) (pss_cons (ps_set (i := 10) sc_law.nd rfl (Or.inl rfl) (pe_cgK K rfl G_w_spot (hr.mono (by decide)) (T.glo 41) (pa_cons (pe_op op_fdivW (pe_cgK K rfl G_w_at (hr.mono (by decide)) (T.glo 39) (pa_cons (pv 0) (pa_cons (pv 9) pa_nil))) pe_int) (pa_cons (pv 4) pa_nil))))
      (pss_cons (ps_set (i := 11) sc_law.nd rfl (Or.inl rfl) (pe_cgK K rfl G_w_spot (hr.mono (by decide)) (T.glo 41) (pa_cons (pe_cgK K rfl G_w_at (hr.mono (by decide)) (T.glo 39) (pa_cons (pv 0) (pa_cons (pe_op op_add (pv 9) pe_int) pa_nil))) (pa_cons (pv 4) pa_nil))))
      (pss_cons (ps_if (PW.pt (pw_and (pt_cmpR op_eq (pe_op op_mod (pe_cgK K rfl G_w_at (hr.mono (by decide)) (T.glo 39) (pa_cons (pv 0) (pa_cons (pv 9) pa_nil))) pe_int) pe_int (nomark _)) (pw_and1 (pt_cmpR op_gt (pe_callB (call_lenK K rfl) (by rfl) (T.free 11) (by decide +kernel) (pa_cons (pv 7) pa_nil)) pe_int (nomark _))))) (pss_one (ps_asg (pe_ix (ix_listK K rfl) (pv 7) (pe_op op_mod (pe_cgK K rfl G_w_at (hr.mono (by decide)) (T.glo 39) (pa_cons (pv 0) (pa_cons (pe_op op_add (pv 9) pe_int) pa_nil))) (pe_callB (call_lenK K rfl) (by rfl) (T.free 11) (by decide +kernel) (pa_cons (pv 7) pa_nil))) (fun _ _ => rfl)) (pg_tup rfl (pgs_cons (pg_name (i := 10) sc_law.nd rfl (Or.inl rfl)) (pgs_cons (pg_name (i := 11) sc_law.nd rfl (Or.inl rfl)) pgs_nil))))) pss_nil)
      (pss_cons (ps_set (i := 12) sc_law.nd rfl (Or.inl rfl) pe_int)
      (pss_cons (ps_if (pt_cmpR op_lt (pe_op op_mod (pe_cgK K rfl G_w_at (hr.mono (by decide)) (T.glo 39) (pa_cons (pv 0) (pa_cons (pe_op op_add (pv 9) pe_int) pa_nil))) pe_int) pe_int (nomark _)) (pss_one (ps_set (i := 12) sc_law.nd rfl (Or.inl rfl) (pe_op op_add pe_int (pe_op op_mod (pe_op op_fdivW (pe_cgK K rfl G_w_at (hr.mono (by decide)) (T.glo 39) (pa_cons (pv 0) (pa_cons (pe_op op_add (pv 9) pe_int) pa_nil))) pe_int) pe_int)))) pss_nil)
      (pss_cons (ps_set (i := 2) sc_law.nd rfl (Or.inl rfl) (pe_cgK K rfl G_planted (hr.mono (by decide)) (T.glo 42) (pa_cons (pv 1) (pa_cons (pv 2) (pa_cons (pv 10) (pa_cons (pv 11) (pa_cons (pv 12) pa_nil)))))))
      (pss_cons (ps_expr (pe_bm PySem.F.plainAttrs_list PySem.F.slot_list_append PySem.F.type_list_append mt_append (pv 7) (pa_cons (pe_tup (pa_cons (pv 10) (pa_cons (pv 11) pa_nil))) pa_nil)))
      (pss_cons (ps_dput hu (pv 6) (pe_tup (pa_cons (pv 10) (pa_cons (pv 11) pa_nil))) (pv 12) rfl)
      (pss_cons (ps_setLc (i := 13) (own := [("_law_place", 16)]) rfl sc_law.nd rfl rfl (sw_true rfl rfl rfl (by decide +kernel)) (pi_listK K rfl (pe_callB (cr_sortKeys rfl) (by rfl) (T.free 43) (by decide +kernel) (pa_cons (pe_bm0 PySem.F.plainAttrs_dict PySem.F.slot_dict_keys PySem.F.type_dict_keys mt_keysT (pv 6)) pa_nil))) (blkOk_by (own := [("_law_place", 16)]) (N := ["_law_script", "_law_grove", "_law_field", "_law_half", "_law_bits_here", "_law_level", "_law_lives", "_law_before", "_law_rows", "_law_at_here", "_law_x", "_law_y", "_law_state", "_law_living", "_law_one", "_law_due", "_law_place"]) (sc := defScope st_law) (by decide +kernel)) (fun _ _ _ _ _ => by exact (pg_name (i := 16) sc_law.nd rfl (Or.inl rfl))) (fun _ _ _ _ _ => by exact (pts_one (pt_cmpR op_gt (pe_dget hu (pv 6) (pv 16) (fun _ _ => rfl)) pe_int (nomark _)))) (fun _ _ _ _ _ => by exact (pv 16)))
      (pss_cons (ps_expr (pe_bm PySem.F.plainAttrs_list PySem.F.slot_list_append PySem.F.type_list_append mt_append (pv 8) (pa_cons (pe_tup (pa_cons (pv 2) (pa_cons (pe_cgK K rfl G_w_box (hr.mono (by decide)) (T.glo 40) (pa_cons (pv 13) (pa_cons (pv 3) pa_nil))) pa_nil))) pa_nil)))
      (pss_one (ps_if (pt_not (pt_val (pe_cgK K rfl G_w_right (hr.mono (by decide)) (T.glo 44) (pa_cons (pe_cgK K rfl G_box_of (hr.mono (by decide)) (T.glo 45) (pa_cons (pv 1) (pa_cons (pv 2) pa_nil))) (pa_cons (pe_ix (ix_tupK K rfl) (pe_ix (ix_listK K rfl) (pv 8) (pe_un un_neg pe_int) (fun _ _ => rfl)) pe_int (fun _ _ => rfl)) pa_nil))))) (pss_one (ps_ret pe_bl)) pss_nil)))))))))))))
      (pss_cons (ps_for PassesOwn.never rfl (pi_listK K rfl (pv 8)) (pg_tup rfl (pgs_cons (pg_name (i := 14) sc_law.nd rfl (Or.inl rfl)) (pgs_cons (pg_name (i := 15) sc_law.nd rfl (Or.inl rfl)) pgs_nil))) (pss_one (ps_if (pt_not (pt_val (pe_cgK K rfl G_w_right (hr.mono (by decide)) (T.glo 44) (pa_cons (pe_cgK K rfl G_box_of (hr.mono (by decide)) (T.glo 45) (pa_cons (pv 1) (pa_cons (pv 14) pa_nil))) (pa_cons (pv 15) pa_nil))))) (pss_one (ps_ret pe_bl)) pss_nil)))
      (pss_one (ps_ret pe_bl)))))))))))), ?_⟩
    walk_at "rd"
    refine rd_grove fun a H1 G1 hnew1 sm1 => ?_
    walk_at "rd"
    refine rd_methR G1.ob (by rfl) ?_
    walk_at "rd"
    refine ⟨a, [], [], 1, 0, rfl, G1, by decide, by decide, by decide, by decide, fun H2 r2 q2 n2 st2 len2 hn2 => ?_⟩
    have hq2 : q2.length ≤ 100 := by simp at len2; omega
    have sc2 : Scr H a0 a r2 H2 := (Scr.new hnew1 sm1).step st2
    walk_at "rhi"
    refine rd_at (sc2.sq hS) (by decide) ?_
    walk_at "rhi"
    refine ⟨_, rfl, fun bt bt1 bt40 => ?_⟩
    walk_at "rhi"
    refine rd_cut (fun σ H' => ∃ (rows : List (Int × Addr)) (q : List Sq) (n : Nat) (S : Sq) (hf s0 : Int) (x5 : Option V), σ = [some (.ref a0), some (.ref a.g), some (.int (n : Int)), some (.int hf), some (.int (bt : Int)), x5, none, none, none, none, none, none, none, none, none, none, none] ∧
      GAt (CG K) H' a rows q ∧ Scr H a0 a rows H' ∧ q[n]? = some S ∧ 1 ≤ S.level ∧ S.level ≤ 41 ∧ 0 ≤ hf ∧ hf ≤ 1099511627776 ∧ (0 < hf → 32 ≤ hf) ∧ 1 ≤ s0 ∧ (∀ u v, S.val u v = bas hf s0 u v) ∧ q.length ≤ 300) (by walk_at "mono") ?_ ?_
    · walk_at "rd"
      refine rd_at (sc2.sq hS) (by decide) ?_
      walk_at "rd"
      generalize hz0 : atN ns (Int.toNat 0) = z0
      refine ite_d (fun y0 => ?_) (fun y0 => ?_)
      · walk_at "rhi"
        refine rd_at (sc2.sq hS) (by decide) ?_
        walk_at "rhi"
        rw [hz0]
        refine rd_cut (fun σ H' => H' = H2 ∧ ∃ l : Nat, 6 ≤ l ∧ l ≤ 41 ∧ σ = [some (.ref a0), some (.ref a.g), some (.int (n2 : Int)), some (.int 0), some (.int (bt : Int)), some (.int (l : Int)), none, none, none, none, none, none, none, none, none, none, none]) (by walk_at "mono") ?_ ?_
        · walk_at "rd"
          refine ite_d (fun y1 => ?_) (fun y1 => ?_)
          · walk_at "rd"
            refine rd_at (sc2.sq hS) (by decide) ?_
            walk_at "rd"
            rw [hz0]
            obtain ⟨l, hl⟩ := nat_of (show 0 ≤ 6 + z0 / 2 % 36 by omega)
            exact ⟨rfl, l, by omega, by omega, by rw [hl]; rfl⟩
          · walk_at "rd"
            obtain ⟨l, hl⟩ := nat_of (show 0 ≤ 6 + z0 / 2 % 7 by omega)
            exact ⟨rfl, l, by omega, by omega, by rw [hl]; rfl⟩
        rintro σ H' ⟨rfl, l, l6, l41, rfl⟩
        walk_at "rd"
        have er : ((l : Nat) : Int) - 1 = ((l - 1 : Nat) : Int) := by omega
        rw [er]
        refine rd_I (by refine ⟨by omega, by omega, by decide⟩) ?_
        rw [shl_ok']
        walk_at "rd"
        refine rd_methR st2.gat.ob (by rfl) ?_
        walk_at "rd"
        refine rd_at (sc2.sq hS) (by decide) ?_
        walk_at "rd"
        rw [hz0]
        refine ⟨a, r2, q2, l, 1 + z0 / 14 % 7, rfl, st2.gat, by omega, by omega, by omega, by omega, fun H3 r3 q3 n3 st3 len3 hn3 => ?_⟩
        walk_at "rd"
        have h1 := two40 (show l - 1 ≤ 40 by omega)
        have h2 := two_mono (show 5 ≤ l - 1 by omega)
        have e5 : (2 : Int) ^ 5 = 32 := by decide
        exact ⟨r3, q3, n3, _, 2 ^ (l - 1), 1 + z0 / 14 % 7, _, rfl, st3.gat, sc2.step st3, hn3, by rw [Sq.level_even]; omega, by rw [Sq.level_even]; omega, by omega, h1, fun _ => by omega, by omega, val_even l _, by omega⟩
      · walk_at "rd"
        exact ⟨r2, q2, n2, _, 0, 1, none, rfl, st2.gat, sc2, hn2, by rw [Sq.level_even]; decide, by rw [Sq.level_even]; decide, by decide, by decide, fun h => absurd h (by decide), by decide, fun u v => by rw [Sq.val_even0]; unfold bas; rw [if_neg (by omega)], by omega⟩
    rintro σ H4 ⟨rows, q, n, S, hf, s0, x5, rfl, G4, sc4, hn4, l4, l4', hf0, hf40, hf32, hs0, hv4, hq4⟩
    walk_at "rd"
    intro li hli
    have O5 : OwnO a rows (upd H4 li (.dT [])) [(li, .dT [])] := OwnO.nil.new G4 hli (fun z => z)
    have s5 := same_upd (o := HO.dT []) hli
    have G5 := G4.same s5
    have sc5 := sc4.same s5
    generalize upd H4 li (HO.dT []) = H5 at *
    walk_at "rd"
    refine rd_new (hn := by show 0 ≤ sizeLine; decide) fun bf hbf => ?_
    have O6 := O5.new (o := .lst []) G5 hbf (fun z => z)
    have s6 := same_upd (o := HO.lst []) hbf
    have G6 := G5.same s6
    have sc6 := sc5.same s6
    generalize upd H5 bf (HO.lst []) = H6 at *
    walk_at "rd"
    refine rd_new (hn := by show 0 ≤ sizeLine; decide) fun p7 hp7 => ?_
    have s7 := same_upd (o := HO.lst []) hp7
    have T7 : TL (upd H6 p7 (HO.lst [])) p7 (([] : List (Int × Int)).map fun c => [c.1, c.2]) := ⟨[], upd_same, trivial⟩
    have O7 := O6.same s7
    have G7 := G6.same s7
    have sc7 := sc6.same s7
    generalize upd H6 p7 (HO.lst []) = H7 at *
    walk_at "rd"
    refine ⟨p7, hf, [], rfl, T7, hf0, hf40, by decide, fun H8 v8 o8 s8 S8 L8 => ?_⟩
    have e8 := due_box (kvs := []) (ps := []) (G7.wf _ (List.mem_of_getElem? hn4)) l4 hs0 hv4 (fun e h => by cases h) (fun h => by show (0 : Int) < _; omega) (fun x y => ⟨fun h => (by cases h), fun ⟨s, h, _⟩ => (by cases h)⟩) L8
    subst e8
    have O8 := O7.same s8
    have G8 := G7.same s8
    have sc8 := sc7.same s8
    walk_at "rd"
    refine rd_new (hn := by show 2 ≤ sizeLine; decide) fun t9 ht9 => ?_
    have s9 := same_upd (o := HO.tup [V.int (n : Int), v8]) ht9
    have R9 : RowsB (upd H8 t9 (HO.tup [V.int (n : Int), v8])) q [t9] := fun t ht => by
      rw [List.mem_singleton] at ht; subst ht
      exact ⟨n, S, v8, upd_same, hn4, l4, l4', S8.keep (Tup.of s9)⟩
    have O9 := O8.same s9
    have G9 := G8.same s9
    have sc9 := sc8.same s9
    generalize upd H8 t9 (HO.tup [V.int (n : Int), v8]) = H9 at *
    walk_at "rd"
    refine rd_new (hn := by show 1 ≤ sizeLine; decide) fun rw hrw => ?_
    have O10 := O9.new (o := .lst [V.ref t9]) G9 hrw (fun z => z)
    have s10 := same_upd (o := HO.lst [V.ref t9]) hrw
    have R10 := R9.keep (Tup.of s10) (List.prefix_refl _)
    have G10 := G9.same s10
    have sc10 := sc9.same s10
    generalize upd H9 rw (HO.lst [V.ref t9]) = H10 at *
    clear O5 O6 O7 O8 O9 G5 G6 G7 G8 G9 sc5 sc6 sc7 sc8 sc9 T7 R9 S8 L8 s5 s6 s7 s8 s9 s10 G4 sc4
    walk_at "rd"
    refine rd_len (sc10.sq hS) ?_
    walk_at "rd"
    rw [List.length_map]
    refine .inr ⟨_, rfl, ?_⟩
    refine rd_I (by refine small_mul (by decide) (by decide) ?_ ?_ <;> split <;> decide) ?_
    walk_at "rd"
    generalize hm : (if (65 - 36 * if decide (15 < (bt : Int)) = true then (1 : Int) else 0) < (ns.length : Int) then 65 - 36 * if decide (15 < (bt : Int)) = true then (1 : Int) else 0 else (ns.length : Int)) = m
    have m0 : 0 ≤ m ∧ m ≤ 65 := by
      rw [← hm]
      split <;> split <;> omega
    obtain ⟨many, hrg, hmany⟩ := rgc_up (i := 2) (j := m) (c := 3) (by decide) (by decide) m0.1 (by omega) (by decide) (by decide)
    refine ⟨2, m, 3, many, rfl, hrg, ?_⟩
    have hmany' : many ≤ 21 := by
      rcases Nat.eq_zero_or_pos many with z | z
      · omega
      · have := hmany (many - 1) (by omega)
        omega
    refine for_it (walk_rangeC (lo := 2) (c := 3) (n := many)) (fun i σ H' => ∃ (rows : List (Int × Addr)) (q : List Sq) (n : Nat) (S : Sq) (kvs : List (List Key × V)) (bs : List Addr) (bps : List (Int × Int)) (rws : List Addr) (x9 x10 x11 x12 x13 x14 x15 x16 : Option V), σ = [some (.ref a0), some (.ref a.g), some (.int (n : Int)), some (.int hf), some (.int (bt : Int)), x5, some (.ref li), some (.ref bf), some (.ref rw), x9, x10, x11, x12, x13, x14, x15, x16] ∧
      GAt (CG K) H' a rows q ∧ Scr H a0 a rows H' ∧ OwnO a rows H' [(rw, .lst (rws.map V.ref)), (bf, .lst (bs.map V.ref)), (li, .dT kvs)] ∧ q[n]? = some S ∧ 1 ≤ S.level ∧ S.level ≤ 41 ∧ (∀ u v, S.val u v = fv kvs hf s0 u v) ∧ KOk kvs ∧ kvs.length ≤ i ∧ TR H' bs (bps.map fun c => [c.1, c.2]) ∧ (∀ c ∈ bps, InGround c.1 c.2) ∧ bps.length ≤ i ∧
      RowsB H' q rws ∧ rws.length ≤ i + 1 ∧ q.length ≤ 300 + 4000 * i) ?_ (fun _ _ _ _ _ => trivial) ?_ ?_
    · exact ⟨rows, q, n, S, [], [], [], [t9], none, none, none, none, none, none, none, none, rfl, G10, sc10, O10, hn4, l4, l4', hv4, (fun e h => by cases h), Nat.zero_le _, trivial, (fun e h => by cases h), Nat.zero_le _, R10, Nat.le_refl _, by omega⟩
    · rintro i x σ Ha Hb hi ⟨rows, q, n, S, kvs, bs, bps, rws, x9, x10, x11, x12, x13, x14, x15, x16, rfl, G, sc, O, hn, l1, l41, hv, hK, hkl, hT, hgr, hbl, hR, hrl, hql⟩ ⟨rfl, rfl⟩
      clear hmany
      have hbs := hT.len
      rw [List.length_map] at hbs
      obtain ⟨at_, hat⟩ : ∃ at_ : Nat, (2 : Int) + (i : Int) * 3 = (at_ : Int) := ⟨2 + i * 3, by omega⟩
      show gName 9 (V.int (2 + (i : Int) * 3)) _ Hb _
      rw [hat]
      walk_at "rd"
      refine rd_at (sc.sq hS) (by omega) ?_
      walk_at "rd"
      refine ⟨_, bt, rfl, bt1, bt40, fun H1 x s1 xa xb => ?_⟩
      walk_at "rd"
      refine rd_at ((sc.same s1).sq hS) (by omega) ?_
      walk_at "rd"
      refine ⟨_, bt, rfl, bt1, bt40, fun H2 y s2 ya yb => ?_⟩
      have s12 := s1.trans s2
      have sc2 := sc.same s12
      have O2 := O.same s12
      have G2 := G.same s12
      have T2 := hT.keep (Tup.of s12)
      have R2 := hR.keep (Tup.of s12) (List.prefix_refl _)
      walk_at "rhi"
      refine rd_cut (fun σ H' => H' = H2 ∧ ∃ x y : Int, InGround x y ∧ σ = [some (.ref a0), some (.ref a.g), some (.int (n : Int)), some (.int hf), some (.int (bt : Int)), x5, some (.ref li), some (.ref bf), some (.ref rw), some (.int (at_ : Int)), some (.int x), some (.int y), x12, x13, x14, x15, x16]) (by walk_at "mono") ?_ ?_
      · walk_at "rd"
        refine rd_at (sc2.sq hS) (by omega) ?_
        walk_at "rd"
        refine ite_d (fun c1 => ?_) (fun c1 => ?_)
        · walk_at "rd"
          refine rd_len (SqL.of (O2.ix 1 rfl)) ?_
          walk_at "rd"
          rw [List.length_map]
          refine ite_d (fun c2 => ?_) (fun c2 => ?_)
          · walk_at "rd"
            refine rd_at (sc2.sq hS) (by omega) ?_
            walk_at "rd"
            refine rd_len (SqL.of (O2.ix 1 rfl)) ?_
            walk_at "rd"
            rw [List.length_map]
            refine rd_mod (by omega) ?_
            have z0 := Int.emod_nonneg (atN ns (Int.toNat ((at_ : Int) + 1))) (show (bs.length : Int) ≠ 0 by omega)
            have z1 := Int.emod_lt_of_pos (atN ns (Int.toNat ((at_ : Int) + 1))) (show (0 : Int) < (bs.length : Int) by omega)
            obtain ⟨j, hj⟩ := nat_of z0
            rw [hj]
            have hjl : j < bs.length := by omega
            refine rd_ixL (SqL.of (O2.ix 1 rfl)) (atI_nat (map_get V.ref (at_get hjl))) ?_
            obtain ⟨xs, e1, e2⟩ := T2.get (at_get hjl)
            rw [List.getElem?_map, at_get (show j < bps.length by omega)] at e1
            cases e1
            have hg := hgr _ (List.getElem_mem (show j < bps.length by omega))
            generalize bps[j] = c at e2 hg
            obtain ⟨u, v⟩ := c
            have e2' : H2 bs[j] = some (.tup [.int u, .int v]) := e2
            walk_at "rd"
            exact ⟨rfl, u, v, hg, rfl⟩
          · exact ⟨rfl, x, y, ⟨xa, xb, ya, yb⟩, rfl⟩
        · exact ⟨rfl, x, y, ⟨xa, xb, ya, yb⟩, rfl⟩
      clear xa xb ya yb
      rintro σ H3 ⟨rfl, x, y, hxy, rfl⟩
      walk_at "rhi"
      refine rd_cut (fun σ H' => H' = H3 ∧ ∃ s : Int, 0 ≤ s ∧ s ≤ 7 ∧ σ = [some (.ref a0), some (.ref a.g), some (.int (n : Int)), some (.int hf), some (.int (bt : Int)), x5, some (.ref li), some (.ref bf), some (.ref rw), some (.int (at_ : Int)), some (.int x), some (.int y), some (.int s), x13, x14, x15, x16]) (by walk_at "mono") ?_ ?_
      · walk_at "rd"
        refine rd_at (sc2.sq hS) (by omega) ?_
        walk_at "rd"
        refine ite_d (fun c1 => ?_) (fun c1 => ?_)
        · walk_at "rd"
          refine rd_at (sc2.sq hS) (by omega) ?_
          walk_at "rd"
          exact ⟨rfl, _, by omega, by omega, rfl⟩
        · exact ⟨rfl, 0, by decide, by decide, rfl⟩
      rintro σ H4 ⟨rfl, s, t0, t7, rfl⟩
      walk_at "rd"
      refine ⟨a, rows, q, n, S, x, y, s, rfl, G2, hn, l1, l41, hxy, t0, t7, by omega, fun H5 r5 q5 n5 S5 st5 len5 hn5 l5 l5' _ hv5 => ?_⟩
      have O5 := O2.step st5
      have sc5 := sc2.step st5
      have T5 := T2.keep (st5.tup G2)
      have R5 := R2.keep (st5.tup G2) st5.pre
      walk_at "rd"
      refine rd_tyL (O5.ix 1 rfl) ?_
      walk_at "rd"
      refine rd_new (hn := by show 2 ≤ sizeLine; decide) fun t6 ht6 => ?_
      have s6 := same_upd (o := HO.tup [V.int x, V.int y]) ht6
      have U6 : (upd H5 t6 (HO.tup [V.int x, V.int y])) t6 = some (.tup [V.int x, V.int y]) := upd_same
      have O6 := O5.same s6
      have sc6 := sc5.same s6
      have G6 := st5.gat.same s6
      have T6 := T5.keep (Tup.of s6)
      have R6 := R5.keep (Tup.of s6) (List.prefix_refl _)
      generalize upd H5 t6 (HO.tup [V.int x, V.int y]) = H6 at *
      walk_at "rd"
      refine rd_append (O6.ix 1 rfl) (by rw [List.length_map]; exact small1000 (by omega)) ?_
      have O7 := O6.put 1 rfl (.lst (bs.map V.ref ++ [V.ref t6])) (fun z => z)
      have tu7 := O6.tup 1 rfl (.lst (bs.map V.ref ++ [V.ref t6]))
      have G7 := G6.ownO O6 1 rfl (.lst (bs.map V.ref ++ [V.ref t6]))
      have sc7 : Scr H a0 a r5 (upd H6 bf (.lst (bs.map V.ref ++ [V.ref t6]))) := sc6.put hO (O6.ix 1 rfl)
      have T7 := (TR.app (x := [x, y]) U6 T6).keep tu7
      have R7 := R6.keep tu7 (List.prefix_refl _)
      generalize upd H6 bf (.lst (bs.map V.ref ++ [V.ref t6])) = H7 at *
      walk_at "rd"
      refine rd_new (hn := by show 2 ≤ sizeLine; decide) fun t8 ht8 => ?_
      have s8 := same_upd (o := HO.tup [V.int x, V.int y]) ht8
      have U8 : (upd H7 t8 (HO.tup [V.int x, V.int y])) t8 = some (.tup (([Sum.inl x, Sum.inl y] : List Key).map kV)) := upd_same
      have O8 := O7.same s8
      have sc8 := sc7.same s8
      have G8 := G7.same s8
      have T8 := T7.keep (Tup.of s8)
      have R8 := R7.keep (Tup.of s8) (List.prefix_refl _)
      generalize upd H7 t8 (HO.tup [V.int x, V.int y]) = H8 at *
      walk_at "rd"
      refine ⟨li, _, rfl, DPut.t (k := [Sum.inl x, Sum.inl y]) (O8.ix 2 rfl) U8 (small1000 (by omega)), ?_⟩
      have O9 := O8.put 2 rfl (.dT (putK kvs [Sum.inl x, Sum.inl y] (.int s))) (fun z => z)
      have tu9 := O8.tup 2 rfl (.dT (putK kvs [Sum.inl x, Sum.inl y] (.int s)))
      have G9 := G8.ownO O8 2 rfl (.dT (putK kvs [Sum.inl x, Sum.inl y] (.int s)))
      have sc9 : Scr H a0 a r5 (upd H8 li (.dT (putK kvs [Sum.inl x, Sum.inl y] (.int s)))) := sc8.putT hO (O8.ix 2 rfl)
      have T9 := T8.keep tu9
      have R9 := R8.keep tu9 (List.prefix_refl _)
      have K9 := hK.put x y s t0 t7
      have L9 := length_putK kvs [Sum.inl x, Sum.inl y] (.int s)
      have V9 : ∀ u v, S5.val u v = fv (putK kvs [Sum.inl x, Sum.inl y] (.int s)) hf s0 u v := fun u v => by rw [hv5, fv_put, hv]
      generalize upd H8 li (.dT (putK kvs [Sum.inl x, Sum.inl y] (.int s))) = H9 at *
      generalize putK kvs [Sum.inl x, Sum.inl y] (.int s) = kv9 at *
      clear O2 O5 O6 O7 O8 G2 G6 G7 G8 sc2 sc5 sc6 sc7 sc8 T2 T5 T6 T7 T8 R2 R5 R6 R7 R8 tu7 tu9 U6 U8 s6 s8 O G sc hT hR hv hK
      walk_at "rd"
      refine rd_tyDT (O9.ix 2 rfl) ?_
      refine ⟨li, kv9, rfl, rfl, O9.ix 2 rfl, fun vw hvw => ?_⟩
      have s10 := same_upd (o := keysO vw li) hvw
      have HV : (upd H9 vw (keysO vw li)) vw = some (keysO vw li) := upd_same
      have O10' := O9.same s10
      have sc10' := sc9.same s10
      have G10' := G9.same s10
      have T10 := T9.keep (Tup.of s10)
      have R10' := R9.keep (Tup.of s10) (List.prefix_refl _)
      generalize upd H9 vw (keysO vw li) = H10' at *
      walk_at "rd"
      refine ⟨vw, li, kv9, rfl, HV, O10'.ix 2 rfl, fun e he => let ⟨i, j, s, z, _⟩ := K9 e he; ⟨i, j, by rw [z]⟩, fun ys l hl hyl hyin hyout => ?_⟩
      have s11 := same_upd (o := HO.lst ys) hl
      have L11 : (upd H10' l (HO.lst ys)) l = some (.lst ys) := upd_same
      have O11 := O10'.same s11
      have sc11 := sc10'.same s11
      have G11 := G10'.same s11
      have T11 := T10.keep (Tup.of s11)
      have R11 := R10'.keep (Tup.of s11) (List.prefix_refl _)
      have yin : ∀ y ∈ ys, ∃ t i j v, y = V.ref t ∧ (upd H10' l (HO.lst ys)) t = some (.tup [.int i, .int j]) ∧ ([Sum.inl i, Sum.inl j], v) ∈ kv9 := fun y hy => let ⟨t, i, j, v, z1, z2, z3⟩ := hyin y hy; ⟨t, i, j, v, z1, s11 _ _ z2, z3⟩
      have yout : ∀ i j v, ([Sum.inl i, Sum.inl j], v) ∈ kv9 → ∃ t, V.ref t ∈ ys ∧ (upd H10' l (HO.lst ys)) t = some (.tup [.int i, .int j]) := fun i j v m => let ⟨t, z1, z2⟩ := hyout i j v m; ⟨t, z1, s11 _ _ z2⟩
      clear hyin hyout
      generalize upd H10' l (HO.lst ys) = H11 at *
      clear O9 O10' sc9 sc10' G9 G10' T9 T10 R9 R10'
      walk_at "rd"
      refine ⟨l, rfl, ⟨_, SqL.of L11⟩, fun D hD => ?_⟩
      refine lc_list (K := K) (xs := ys) (fun c H' => Same H11 H' ∧ ∃ (rs : List Addr) (ps : List (Int × Int)), H' D = some (.lst (rs.map V.ref)) ∧ TR H' rs (ps.map fun c => [c.1, c.2]) ∧ ps.length ≤ c ∧ (∀ c ∈ ps, ∃ s, valV kv9 [Sum.inl c.1, Sum.inl c.2] = some (.int s) ∧ 0 < s) ∧
        (∀ t x y s, V.ref t ∈ ys.take c → H11 t = some (.tup [.int x, .int y]) → valV kv9 [Sum.inl x, Sum.inl y] = some (.int s) → 0 < s → (x, y) ∈ ps)) ⟨same_upd hD, [], [], upd_same, trivial, Nat.le_refl _, (fun c h => by cases h), (fun t x y s h => by simp at h)⟩ (fun c H' _ e => SqL.of (e.1 _ _ L11)) ?_ ?_
      · rintro c v H' hc ⟨s12, rs, ps, LD, TD, lps, hp1, hp2⟩
        obtain ⟨t, u, w', v', rfl, ht, hmem⟩ := yin v (List.mem_of_getElem? hc)
        have hcl := (List.getElem?_eq_some_iff.mp hc).1
        obtain ⟨s', es, e0, e7⟩ := key_there K9 hmem
        have ht' := s12 _ _ ht
        have O12 := O11.same s12
        walk_at "rd"
        refine ⟨rfl, ?_⟩
        walk_at "rd"
        refine ⟨li, .int s', rfl, by rw [← es]; exact DGet.t (k := [Sum.inl u, Sum.inl w']) (O12.ix 2 rfl) ht', ?_⟩
        walk_at "rd"
        have htk := take_snoc hc
        have old : ∀ t' x y s'', V.ref t' ∈ ys.take (c + 1) → H11 t' = some (.tup [.int x, .int y]) → valV kv9 [Sum.inl x, Sum.inl y] = some (.int s'') → 0 < s'' → (x, y) ∈ ps ∨ (x = u ∧ y = w' ∧ 0 < s') := fun t' x y s'' m z1 z2 z3 => by
          rw [htk] at m
          rcases List.mem_append.mp m with m | m
          · exact .inl (hp2 t' x y s'' m z1 z2 z3)
          · rw [List.mem_singleton] at m
            cases m
            rw [ht] at z1
            cases z1
            rw [es] at z2
            cases z2
            exact .inr ⟨rfl, rfl, z3⟩
        refine ite_d (fun z => ?_) (fun z => ?_)
        · walk_at "rd"
          have lrs := TD.len
          rw [List.length_map] at lrs
          refine ⟨_, LD, by rw [List.length_map]; exact small1000 (by omega), same_put s12 hD, rs ++ [t], ps ++ [(u, w')], ?_, ?_, ?_, ?_, ?_⟩
          · rw [upd_same, List.map_append]; rfl
          · rw [List.map_append]
            exact (TR.app (x := [u, w']) ht' TD).keep (tup_put LD)
          · rw [List.length_append]; show ps.length + 1 ≤ c + 1; omega
          · intro c' hc'
            rcases List.mem_append.mp hc' with m | m
            · exact hp1 c' m
            · rw [List.mem_singleton] at m; subst m; exact ⟨s', es, z⟩
          · intro t' x y s'' m z1 z2 z3
            rcases old t' x y s'' m z1 z2 z3 with z | ⟨rfl, rfl, _⟩
            · exact List.mem_append_left _ z
            · exact List.mem_append_right _ (List.mem_singleton_self _)
        · refine ⟨s12, rs, ps, LD, TD, by omega, hp1, fun t' x y s'' m z1 z2 z3 => ?_⟩
          rcases old t' x y s'' m z1 z2 z3 with z' | ⟨_, _, z'⟩
          · exact z'
          · exact absurd z' z
      rintro H12 ⟨s12, rs, ps, LD, TD, lps, hp1, hp2⟩
      rw [List.take_length] at hp2
      have hliv : Liv kv9 ps := fun x y => ⟨fun m => hp1 _ m, fun ⟨s', es, z⟩ => by
        obtain ⟨e, m, z1⟩ := List.mem_map.mp (valV_in es)
        obtain ⟨k', v'⟩ := e
        have z1' : k' = [Sum.inl x, Sum.inl y] := z1
        subst z1'
        obtain ⟨t, z2, z3⟩ := yout x y v' m
        exact hp2 t x y s' z2 z3 es z⟩
      have O12 := O11.same s12
      have sc12 := sc11.same s12
      have G12 := G11.same s12
      have T12 := T11.keep (Tup.of s12)
      have R12 := R11.keep (Tup.of s12) (List.prefix_refl _)
      clear O11 sc11 G11 T11 R11
      walk_at "rd"
      refine rd_tyL (O12.ix 0 rfl) ?_
      walk_at "rd"
      refine ⟨D, hf, ps, rfl, ⟨rs, LD, TD⟩, hf0, hf40, by omega, fun H13 v13 o13 s13 S13 L13 => ?_⟩
      have e13 := due_box (G12.wf _ (List.mem_of_getElem? hn5)) l5 hs0 V9 K9 (fun h => by have := hf32 h; omega) hliv L13
      subst e13
      have O13 := O12.same s13
      have sc13 := sc12.same s13
      have G13 := G12.same s13
      have T13 := T12.keep (Tup.of s13)
      have R13 := R12.keep (Tup.of s13) (List.prefix_refl _)
      walk_at "rd"
      refine rd_new (hn := by show 2 ≤ sizeLine; decide) fun t14 ht14 => ?_
      have s14 := same_upd (o := HO.tup [V.int (n5 : Int), v13]) ht14
      have U14 : (upd H13 t14 (HO.tup [V.int (n5 : Int), v13])) t14 = some (.tup [V.int (n5 : Int), v13]) := upd_same
      have O14 := O13.same s14
      have sc14 := sc13.same s14
      have G14 := G13.same s14
      have T14 := T13.keep (Tup.of s14)
      have S14 := S13.keep (Tup.of s14)
      have R14 := (R13.keep (Tup.of s14) (List.prefix_refl _)).add U14 hn5 l5 l5' S14
      generalize upd H13 t14 (HO.tup [V.int (n5 : Int), v13]) = H14 at *
      walk_at "rd"
      refine rd_append (O14.ix 0 rfl) (by rw [List.length_map]; exact small1000 (by omega)) ?_
      have O15 := O14.put 0 rfl (.lst (rws.map V.ref ++ [V.ref t14])) (fun z => z)
      have tu15 := O14.tup 0 rfl (.lst (rws.map V.ref ++ [V.ref t14]))
      have G15 := G14.ownO O14 0 rfl (.lst (rws.map V.ref ++ [V.ref t14]))
      have sc15 : Scr H a0 a r5 (upd H14 rw (.lst (rws.map V.ref ++ [V.ref t14]))) := sc14.put hO (O14.ix 0 rfl)
      have T15 := T14.keep tu15
      have R15 := R14.keep tu15 (List.prefix_refl _)
      have S15 := S14.keep tu15
      have U15 := tu15 _ _ U14
      generalize upd H14 rw (.lst (rws.map V.ref ++ [V.ref t14])) = H15 at *
      clear O12 O13 O14 sc12 sc13 sc14 G12 G13 G14 T12 T13 T14 R12 R13 R14 S13 S14 U14
      walk_at "rd"
      refine ⟨a, r5, q5, n5, S5, rfl, G15, hn5, l5, by omega, by omega, fun H16 v16 s16 S16 => ?_⟩
      walk_at "rd"
      have s15 := O15.same s16
      refine rd_ixL (SqL.of (s15.ix 0 rfl)) (atI_last _ _) ?_
      have U16 := s16 _ _ U15
      walk_at "rd"
      refine ⟨v16, v13, _, rfl, S16, S15.keep (Tup.of s16), ?_⟩
      walk_at "rd"
      refine ⟨r5, q5, n5, S5, kv9, bs ++ [t6], bps ++ [(x, y)], rws ++ [t14], _, _, _, _, _, _, _, _, rfl, G15.same s16, sc15.same s16, ?_, hn5, l5, l5', V9, K9, by omega, ?_, ?_, ?_, R15.keep (Tup.of s16) (List.prefix_refl _), ?_, by omega⟩
      · have e1 : (bs ++ [t6]).map V.ref = bs.map V.ref ++ [V.ref t6] := by rw [List.map_append]; rfl
        have e2 : (rws ++ [t14]).map V.ref = rws.map V.ref ++ [V.ref t14] := by rw [List.map_append]; rfl
        rw [e1, e2]
        exact s15
      · rw [List.map_append]; exact T15.keep (Tup.of s16)
      · intro c hc
        rcases List.mem_append.mp hc with m | m
        · exact hgr c m
        · rw [List.mem_singleton] at m; subst m; exact hxy
      · rw [List.length_append]; show bps.length + 1 ≤ i + 1; omega
      · rw [List.length_append]; show rws.length + 1 ≤ i + 1 + 1; omega
    clear G10 O10 sc10 R10 hn4
    rintro σ H11 ⟨rows, q, n, S, kvs, bs, bps, rws, x9, x10, x11, x12, x13, x14, x15, x16, rfl, G, sc, O, hn, l1, l41, hv, hK, hkl, hT, hgr, hbl, R, hrl, hql⟩
    walk_at "rd"
    refine ⟨rw, rfl, ⟨_, SqL.of (O.ix 0 rfl)⟩, ?_⟩
    refine for_it (walk_list (xs := rws.map V.ref)) (fun i σ H' => Same H11 H' ∧ ∃ (x14 x15 : Option V), σ = [some (.ref a0), some (.ref a.g), some (.int (n : Int)), some (.int hf), some (.int (bt : Int)), x5, some (.ref li), some (.ref bf), some (.ref rw), x9, x10, x11, x12, x13, x14, x15, x16]) ⟨Same.refl _, x14, x15, rfl⟩ ?_ ?_ ?_
    · rintro i σ H' _ ⟨s1, _⟩
      exact SqL.of (s1 _ _ (O.ix 0 rfl))
    · rintro i x σ Ha Hb hi ⟨s1, x14, x15, rfl⟩ ⟨rfl, hx⟩
      obtain ⟨t, ht, rfl⟩ : ∃ t, t ∈ rws ∧ x = .ref t := by
        obtain ⟨t, ht, e⟩ := List.mem_map.mp (List.mem_of_getElem? hx)
        exact ⟨t, ht, e.symm⟩
      obtain ⟨n', S', v', a1, a2, a3, a4, a5⟩ := R t ht
      have T1 := s1 _ _ a1
      have V1 := a5.keep (Tup.of s1)
      have G1' := G.same s1
      walk_at "rd"
      refine ⟨a, rows, q, n', S', rfl, G1', a2, a3, by omega, by omega, fun H3 v3 s3 S3 => ?_⟩
      walk_at "rd"
      refine ⟨v3, v', _, rfl, S3, V1.keep (Tup.of s3), ?_⟩
      walk_at "rd"
      exact ⟨s1.trans s3, _, _, rfl⟩
    · rintro σ H' ⟨s1, x14, x15, rfl⟩
      walk_at "rd"
      exact k _
end
end JF

namespace JF
open PySem PySem.Spec PyProof.Rows L2
/-! ### the head: facts by names, the run; the end -/
theorem fn_ofE {P : Program} {w : World} {K : PySem.W.Frag} {mg : Str → Option Value} {k : Nat} {sp : Sp} {f : Addr} (hfa : mg ("law" : Str) = some (.ref f)) (T : Env fa fn K mg)
    (ok : ∀ base : Heap, K.In base → base.Ns mainGlobals mg → Good P w K mg base CX0 k ("law", none) ["_law_script"] sp) :
    ∃ fd : FuncData, (∀ (s : Shared) (v : Value), BindsTo s fd ⟨[v], []⟩ [("_law_script", v)]) ∧ ∀ base : Heap, K.In base → base.Ns mainGlobals mg → FnOk P w K mg base CX0 k f fd ["_law_script"] sp := by
  obtain ⟨fd, F⟩ := T.c.def_ (d := d_law) 32 rfl
  have e := hfa.symm.trans (T.glo 52)
  cases e
  have b := FunD.bindsA (ps := ["_law_script"]) F fun _ _ _ _ _ _ us hl => match us, hl with | [_], _ => rfl
  refine ⟨fd, fun s v => b s [v] rfl, fun base h1 h2 => ?_⟩
  obtain ⟨fd2, F2, _, _, l2⟩ := ok base h1 h2
  cases (fdAt_of (p := ("law", none)) F).eq l2
  exact F2
abbrev Rr : PySem.W.OpenRow := PySem.W.OpenLaw.row PySem.Challenge.rw_jumpfield_k25_the_box_of_a_field
abbrev AlE : Type := Bool × He.AlD
def obsE (K : PySem.W.Frag) : AlE := (tbB K, He.obsD fa fn K)
def valE : AlE := (true, He.valD fn)
def obsEG (g : Addr → Option Obj) : AlE := obsE (He.frG g (He.asD g 4))
def hk : PySem.W.Hook where
  α := AlE
  obs := fun s => obsEG s.heap.get?
  val := fun _ => valE
  says := fun _ h => ∃ K : PySem.W.Frag, K.In h ∧ obsE K = valE
  of := fun _ _ e => ⟨_, He.frG_in, e⟩
  keeps := fun _ _ _ ⟨K, hK, c⟩ k => ⟨K, PySem.W.Frag.In.keeps hK k, c⟩
def ob (s : PySem.W.SharedT) : hk.α := obsEG (HandSHeadRun.getT s)
theorem ob_eq (s : PySem.W.SharedT) : ob s = hk.obs s.abs := by
  have e : HandSHeadRun.getT s = s.abs.heap.get? := funext (HandSHeadRun.getT_eq s)
  show obsEG (HandSHeadRun.getT s) = obsEG s.abs.heap.get?
  rw [e]
theorem run (w : World) : HandSHeadRun.RunEq Rr (PySem.W.view Rr.prog [33]) hk ob 100000 looseN w := by
  intro os
  kernel_rfl
end JF
open PySem PySem.W PySem.Calls PyProof.Rows
theorem PySem.Challenge.cw_jumpfield_k25_the_box_of_a_field_holds : PySem.Challenge.rw_jumpfield_k25_the_box_of_a_field.Holds := by
  w_on; o_law
  refine HandSHeadRun.head_any (r := OpenLaw.row PySem.Challenge.rw_jumpfield_k25_the_box_of_a_field) (q := view (OpenLaw.row PySem.Challenge.rw_jumpfield_k25_the_box_of_a_field).prog [33]) (H := JF.hk) (ob := JF.ob) (M := 100000) (loose := JF.looseN) (d := HandSHeadRun.topDef (OpenLaw.row PySem.Challenge.rw_jumpfield_k25_the_box_of_a_field).prog 33) (kwd := []) JF.ob_eq
    (by kernel_rfl) (fun s => by kernel_rfl) JF.run (by kernel_rfl) (by kernel_rfl) (by kernel_rfl) (by rfl) (by first | assumption | decide +kernel) (by decide +kernel) ⟨rfl, rfl, rfl, rfl, rfl, by decide +kernel⟩ ?hw ?hc
  case hw => w_witness2
  case hc =>
    refine L2.walk_ofE (l := PySem.Challenge.rw_jumpfield_k25_the_box_of_a_field) (n := 63) (k := JF.lawLevel) (x := "_law_script") (CX := L2.CX0) rfl (by decide) (by kernel_rfl) ⟨rfl, by decide, by decide⟩ ?F (fun _ _ _ _ z => z)
    intro w mg fa h Y G hmg0
    obtain ⟨K, KX, c⟩ := Y
    have hmg : mg ("law" : PySem.Str) = some (.ref fa) := by
      have e : (HandSHeadRun.topDef (OpenLaw.row PySem.Challenge.rw_jumpfield_k25_the_box_of_a_field).prog 33).name = ("law" : PySem.Str) := by kernel_rfl
      rw [← e]
      exact hmg0
    have T : JF.Env JF.fa JF.fn K mg := ⟨congrArg (fun z : JF.AlE => z.2) c, ⟨h, KX, G⟩, congrArg (fun z : JF.AlE => z.1) c⟩
    obtain ⟨fd, hb, hF⟩ := JF.fn_ofE (P := (PySem.Challenge.rw_jumpfield_k25_the_box_of_a_field).prog) (w := w) hmg T (fun base h1 h2 => JF.ok_law T)
    exact ⟨K, fd, JF.sp_law K, KX, hb, fun H a ns hl hO hS => JF.sp_law_in H a ns hl hO hS, hF⟩
#print axioms PySem.Challenge.cw_jumpfield_k25_the_box_of_a_field_holds

