import PyProof.Rows.All
import Wide.All
import OpenK.AllK
import Wide.FinOn
import KE.KStateDown
import KE.GoesMore
import KE.GoesZip
import PyProof.EnumMake
import HandS.ForMost
import HandS.ForExc
import HandS.Flow
import HandS.Wide
import HandS.WideMore
import HandS.IsInst
import HandS.SetKeys
import HandS.Style
import HandS.TupLe
import HandS.Zip
import HandS.Defaults
import HandS.Head0
import HandS.Head1
import HandS.Head2
import HandS.HeadEnd
import HandS.HeadHook1
import HandS.HeadHook2
import HandS.Walk
import PyProof.DictMoreH
import HandS.SetFor
import HandS.ExcCtx
import HandS.ExcIs
import HandS.HotCalls
import PySem.Challenge.RW_jumpfield_k01_numbers_read
set_option Elab.async false
set_option linter.all false
set_option maxRecDepth 100000
set_option maxHeartbeats 4000000
/-! ### the frame: facts of the top, defs by their places, calls -/
namespace JF
open PySem PySem.Spec PyProof.Rows L2

/-! ### what the top has left, by facts with numbers -/
/-- the module's tuples of numbers -/
def tb : List (Str × List He.Dv) := []
/-- the module's own exceptions that are raised; how each stands to the classes that are asked for -/
def exN : List Str := ["NoNumber"]
def exP : List (Str × Sum Str String × Bool) := [("NoNumber", .inl "NoSquare", false), ("NoNumber", .inl "NoLevel", false), ("NoNumber", .inl "NoState", false), ("NoNumber", .inl "NoBox", false), ("NoNumber", .inl "TooFar", false), ("NoNumber", .inl "TooMany", false), ("NoNumber", .inl "NoSteps", false), ("NoNumber", .inl "NoPattern", false), ("NoNumber", .inl "NoName", false), ("NoNumber", .inl "NoRow", false), ("NoNumber", .inl "NoNumber", true), ("NoNumber", .inl "Restless", false), ("NoNumber", .inl "NoRule", false), ("NoNumber", .inr "ValueError", true), ("NoNumber", .inl "FieldError", true)]
def veT : List Value := [.type "ValueError", .type "Exception", .type "BaseException", .type "object"]
def exV (K : PySem.W.Frag) : Sum Str String → Value
  | .inl y => .ref (He.ga K y)
  | .inr t => .type t
def exB1 (K : PySem.W.Frag) (x : Str) : Bool :=
  PySem.W.excIn K (He.ga K x) veT "ValueError.__new__" && PySem.W.keepIn K (.ref (He.ga K x)) && (PySem.W.subIn K (.ref (He.ga K x)) (.type "BaseException") == some true) && (PySem.W.typeIn K (.ref (He.ga K x)) == some (.type "type")) &&
  (PySem.W.findIn K (.ref (He.ga K x)) "__getattribute__" == some (some (.builtin "BaseException.__getattribute__"))) && (PySem.W.findIn K (.ref (He.ga K x)) "__getattr__" == some none) && PySem.W.hasDictIn K (He.ga K x) &&
  (PySem.W.findIn K (.ref (He.ga K x)) "__class__" == some (some (.builtin "object.__class__"))) && (PySem.W.specialIn K (.builtin "object.__class__") "__get__" == some (some (.builtin "getset_descriptor.__get__"))) &&
  (PySem.W.takesIn K (.builtin "object.__class__") == some true) && (PySem.W.mroIn K (He.ga K x) (.type "object") == some true)
def exB2 (K : PySem.W.Frag) (t : Str × Sum Str String × Bool) : Bool :=
  (PySem.W.exmOne K (.ref (He.ga K t.1)) (exV K t.2.1) == some t.2.2) && (PySem.W.kitOne K (.ref (He.ga K t.1)) (exV K t.2.1) == some t.2.2)
def tbB (K : PySem.W.Frag) : Bool := (tb.all fun t => He.tupB K t.1 t.2) && (exN.all (exB1 K) && exP.all (exB2 K))
structure Env (fa : List He.Fa) (fn : List He.DefD) (K : PySem.W.Frag) (mg : Str → Option Value) : Prop where
  c : He.SaysD fa fn K
  ex : ∃ h : Heap, K.In h ∧ h.Ns mainGlobals mg
  tb : tbB K = true
section
variable {fa : List He.Fa} {fn : List He.DefD} {K : PySem.W.Frag} {mg : Str → Option Value}
theorem Env.glo (T : Env fa fn K mg) (i : Nat) {x : Str} (h : fa[i]? = some (.glo x) := by rfl) : mg x = some (.ref (He.ga K x)) := by
  obtain ⟨hp, X, G⟩ := T.ex
  exact He.glo_ok X G (T.c.fact i h)
theorem Env.tup (T : Env fa fn K mg) (i : Nat) {x : Str} {vs : List He.Dv} (H : Hp) (h : JF.tb[i]? = some (x, vs) := by rfl) : SqT K H (He.ga K x) (vs.map (He.Dv.v K)) :=
  He.tupB_ok (List.all_eq_true.mp (Bool.and_eq_true_iff.mp T.tb).1 _ (List.mem_of_getElem? h)) H
theorem Env.ex1 (T : Env fa fn K mg) {x : Str} (h : x ∈ JF.exN) : exB1 K x = true := List.all_eq_true.mp (Bool.and_eq_true_iff.mp (Bool.and_eq_true_iff.mp T.tb).2).1 _ h
theorem Env.ex2 (T : Env fa fn K mg) {t : Str × Sum Str String × Bool} (h : t ∈ JF.exP) : exB2 K t = true := List.all_eq_true.mp (Bool.and_eq_true_iff.mp (Bool.and_eq_true_iff.mp T.tb).2).2 _ h
theorem Env.free (T : Env fa fn K mg) (i : Nat) {x : Str} (h : fa[i]? = some (.free x) := by rfl) : mg x = none := by
  obtain ⟨hp, X, G⟩ := T.ex
  exact He.free_ok X G (T.c.fact i h)
theorem Env.int (T : Env fa fn K mg) (i : Nat) {x : Str} {n : Int} (h : fa[i]? = some (.int x n) := by rfl) : ∃ t, mg x = some (.int n t) := by
  obtain ⟨hp, X, G⟩ := T.ex
  exact He.int_ok X G (T.c.fact i h)
theorem Env.str (T : Env fa fn K mg) (i : Nat) {x z : Str} (h : fa[i]? = some (.str x z) := by rfl) : ∃ t, mg x = some (.str z t) := by
  obtain ⟨hp, X, G⟩ := T.ex
  exact He.str_ok X G (T.c.fact i h)
theorem Env.cls (T : Env fa fn K mg) (i : Nat) {x : Str} (h : fa[i]? = some (.cls x) := by rfl) : Cls K (He.ga K x) := He.cls_ok (T.c.fact i h)
theorem Env.noat (T : Env fa fn K mg) (i : Nat) {x f : Str} (h : fa[i]? = some (.noat x f) := by rfl) : NoAttr K (He.ga K x) f := He.noat_ok (T.c.fact i h)
theorem Env.meth (T : Env fa fn K mg) (i : Nat) {x m : Str} (h : fa[i]? = some (.meth x m) := by rfl) : Meth K (He.ga K x) m (He.ma K (He.ga K x) m) := He.meth_ok (T.c.fact i h)
theorem Env.mkr (T : Env fa fn K mg) (i : Nat) {x : Str} (h : fa[i]? = some (.mkr x) := by rfl) : Mk K (He.ga K x) (He.ma K (He.ga K x) "__init__") := He.mkr_ok (T.c.fact i h)
end

/-! ### a def that keeps its promise, by its place -/
/-- the def's datum stands there -/
def FdAt (K : PySem.W.Frag) (p : Str × Option Str) (fd : FuncData) : Prop := ∃ oc od osl, K.lookup (He.fAd K p) = some ⟨oc, od, .func fd, osl⟩
theorem FdAt.eq {K : PySem.W.Frag} {p : Str × Option Str} {fd fd' : FuncData} (h : FdAt K p fd) (h' : FdAt K p fd') : fd = fd' := by
  obtain ⟨a, b, c, e⟩ := h
  obtain ⟨a', b', c', e'⟩ := h'
  rw [e] at e'
  cases e'
  rfl
theorem fdAt_of {K : PySem.W.Frag} {x qual : Str} {params : Arguments} {body : List Stmt} {scope : Scope} {dvs : List V} {kws : List (Str × V)} {p : Str × Option Str} {fd : FuncData} (F : FunD K x qual params body scope dvs kws (He.fAd K p) fd) : FdAt K p fd := by
  obtain ⟨oc, od, dV, kV, doc, pm, an, cdv, ct, osl, e, lk, hcd, _, _⟩ := F.ex
  exact ⟨oc, od, osl, lk⟩
def Good (P : Program) (w : World) (K : PySem.W.Frag) (mg : Str → Option Value) (base : Heap) (CX : CXT) (k : Nat) (p : Str × Option Str) (ps : List Str) (sp : Sp) : Prop :=
  ∃ fd, FnOk P w K mg base CX k (He.fAd K p) fd ps sp ∧ Binds K fd ps [] ∧ PySem.W.keepIn K (.ref (He.fAd K p)) = true ∧ FdAt K p fd
section
variable {P : Program} {w : World} {K : PySem.W.Frag} {mg : Str → Option Value} {base : Heap} {fa : List He.Fa} {fn : List He.DefD}
theorem Good.mono {CX : CXT} {j k : Nat} {p : Str × Option Str} {ps : List Str} {sp : Sp} (G : Good P w K mg base CX j p ps sp) (h : j ≤ k) : Good P w K mg base CX k p ps sp := by
  obtain ⟨fd, F, b, kp, lk⟩ := G
  exact ⟨fd, F.mono h, b, kp, lk⟩
theorem Good.imp {CX : CXT} {k : Nat} {p : Str × Option Str} {ps : List Str} {sp sp' : Sp} (G : Good P w K mg base CX k p ps sp) (h : ∀ vs H Q E, sp' vs H Q E → sp vs H Q E) : Good P w K mg base CX k p ps sp' := by
  obtain ⟨fd, F, b, kp, lk⟩ := G
  exact ⟨fd, F.imp h, b, kp, lk⟩
/-- THE RULE of a def: nothing leaves it but by return -/
theorem good_mk (T : Env fa fn K mg) (i : Nat) {d : He.DefD} {k : Nat} {N ps : List Str} {sp : Sp} {x qual : Str} {st : Stmt} {at_ : Str × Option Str} (hi : fn[i]? = some d) (hd : d = ⟨at_, x, qual, defArgs st, defBody st, defScope st, [], []⟩) (S : FnScope N ps (defScope st))
    (hb : ∀ (kV doc pm : Value) (an : Option Addr) (cdv ct : Value) (us : List Value), us.length = ps.length → bindArgs (PySem.W.fnOf x qual (defArgs st) (defBody st) (defScope st) .none kV doc pm an cdv ct) ⟨us, []⟩ = pure (ps.zip us))
    (len : ∀ vs H Q E, sp vs H Q E → vs.length = ps.length)
    (hbody : ∀ (f : Addr) (cdv : Value) (A : Around) (outer : List PySem.Env) (s : Shared) (H : Hp) (vs : List V) (Q : VK) (E : XK), Room k (A.deeper (envOfC qual (defScope st) s.heap.objs.size f cdv)) → sp vs H Q E →
      ∃ t, PSs (cxOf CX0 P w K mg base N qual (defScope st) f cdv A outer s H E).nox (defBody st) t ∧ t { nx := fun _ H' => Q .non H', rt := Q } (start N vs) H) : Good P w K mg base CX0 (k + 1) at_ ps sp := by
  subst hd
  obtain ⟨fd, F⟩ := T.c.def_ i hi
  refine ⟨fd, ?_, FunD.bindsN F hb, F.kp, fdAt_of F⟩
  refine FunD.ok F S len fun cdv A outer s H vs Q E hr h => ?_
  obtain ⟨t, h1, h2⟩ := hbody _ cdv A outer s H vs Q E hr h
  exact ⟨t, h1.nox, h2⟩
end

/-! ### calls -/
section
variable {X : Cx} {k : Nat} {x m : Str} {ps : List Str} {sp : Sp} {p pos apos : Pos} {e o : Expr} {es : List Expr} {ta : TE} {t : TA} {C : Addr}
theorem pe_cg (G : Good X.prog X.w X.K X.mg X.base CX0 k (x, none) ps sp) (hr : Room k X.A) (hm : X.mg x = some (.ref (He.ga X.K x))) (ha : PA X (e :: es) t) (hg : Gl X x := by rfl)
    (hdb : (x == ("__debug__" : Str)) = false := by decide) (he : starEach (e :: es) X.env = (false, eval e X.env) :: starEach es X.env := by rfl) (hpl : (backTo pos (starEach es X.env)).any (·.1) = false := by rfl) :
    PE X (.Call (.Name x p) (e :: es) [] pos) (tCall sp [] E0 t) := by
  obtain ⟨fd, F, b, kp, lk⟩ := G
  exact pe_call F hr hg hm kp b .nil pass0 ha hdb he hpl
theorem pe_cg0 (G : Good X.prog X.w X.K X.mg X.base CX0 k (x, none) ps sp) (hr : Room k X.A) (hm : X.mg x = some (.ref (He.ga X.K x))) (hg : Gl X x := by rfl) (hdb : (x == ("__debug__" : Str)) = false := by decide) :
    PE X (.Call (.Name x p) [] [] pos) (tCall sp [] E0 tNil) := by
  obtain ⟨fd, F, b, kp, lk⟩ := G
  exact pe_call0 F hr hg hm kp b .nil pass0 hdb
theorem pe_mg {cn : Str} {pl : Sem Bool} (he : PE X o ta) (c : Cls X.K (He.ga X.K cn)) (hm : Meth X.K (He.ga X.K cn) m (He.ma X.K (He.ga X.K cn) m)) (G : Good X.prog X.w X.K X.mg X.base CX0 k (cn, some m) ps sp) (hr : Room k X.A) (ha : PA X (e :: es) t)
    (hst : starEach (e :: es) X.env = (false, eval e X.env) :: starEach es X.env := by rfl) (hpl : (backTo pos (starEach es X.env)).any (·.1) = false := by rfl)
    (ht : eval (.Call (.Attribute o m apos) (e :: es) [] pos) X.env = (do
      let ov ← eval o X.env
      standAt apos.atName
      let (f, first) ← holding [ov] (getMethod ov m pl)
      callWith pos f first (backTo pos (starEach (e :: es) X.env)) (backToKw pos (keywordEach [] X.env))) := by rfl) :
    PE X (.Call (.Attribute o m apos) (e :: es) [] pos) (tMeth (He.ga X.K cn) m sp [] E0 ta t) := by
  obtain ⟨fd, F, b, kp, lk⟩ := G
  exact pe_meth he c hm F hr b .nil pass0 ha hst hpl ht
theorem pe_mg0 {cn : Str} {pl : Sem Bool} (he : PE X o ta) (c : Cls X.K (He.ga X.K cn)) (hm : Meth X.K (He.ga X.K cn) m (He.ma X.K (He.ga X.K cn) m)) (G : Good X.prog X.w X.K X.mg X.base CX0 k (cn, some m) ps sp) (hr : Room k X.A)
    (ht : eval (.Call (.Attribute o m apos) [] [] pos) X.env = (do
      let ov ← eval o X.env
      standAt apos.atName
      let (f, first) ← holding [ov] (getMethod ov m pl)
      callWith pos f first (backTo pos (starEach [] X.env)) (backToKw pos (keywordEach [] X.env))) := by rfl) :
    PE X (.Call (.Attribute o m apos) [] [] pos) (tMeth (He.ga X.K cn) m sp [] E0 ta tNil) := by
  obtain ⟨fd, F, b, kp, lk⟩ := G
  exact pe_meth0 he c hm F hr b .nil pass0 ht
theorem pe_mk0 (M : Mk X.K (He.ga X.K x) (He.ma X.K (He.ga X.K x) "__init__")) (G : Good X.prog X.w X.K X.mg X.base CX0 k (x, some "__init__") ps sp) (hr : Room (k + 1) X.A) (hm : X.mg x = some (.ref (He.ga X.K x))) (hg : Gl X x := by rfl)
    (hdb : (x == ("__debug__" : Str)) = false := by decide) : PE X (.Call (.Name x p) [] [] pos) (tMake (He.ga X.K x) sp [] E0 tNil) := by
  obtain ⟨fd, F, b, kp, lk⟩ := G
  exact pe_make0 M F hr hg hm b .nil pass0 hdb
theorem pe_gint {i : Int} (h : ∃ t, X.mg x = some (.int i t)) (hg : Gl X x) (hd : (x == ("__debug__" : Str)) = false := by decide) : PE X (.Name x pos) (tC (.int i)) := by
  obtain ⟨t, e⟩ := h
  exact pe_glob hg e ⟨_, rfl⟩ hd
theorem pe_gstr {z : Str} (h : ∃ t, X.mg x = some (.str z t)) (hg : Gl X x) (hd : (x == ("__debug__" : Str)) = false := by decide) : PE X (.Name x pos) (tC (.str z)) := by
  obtain ⟨t, e⟩ := h
  exact pe_glob hg e ⟨_, rfl⟩ hd
theorem pe_gref (h : X.mg x = some (.ref (He.ga X.K x))) (hg : Gl X x) (hd : (x == ("__debug__" : Str)) = false := by decide) : PE X (.Name x pos) (tC (.ref (He.ga X.K x))) :=
  pe_glob hg h rfl hd
theorem pe_mk0K (K : PySem.W.Frag) (hK : X.K = K) (M : Mk K (He.ga K x) (He.ma K (He.ga K x) "__init__")) (G : Good X.prog X.w K X.mg X.base CX0 k (x, some "__init__") ps sp) (hr : Room (k + 1) X.A) (hm : X.mg x = some (.ref (He.ga K x))) (hg : Gl X x := by rfl)
    (hdb : (x == ("__debug__" : Str)) = false := by decide) : PE X (.Call (.Name x p) [] [] pos) (tMake (He.ga K x) sp [] E0 tNil) := by subst hK; exact pe_mk0 M G hr hm hg hdb
theorem pe_mkgK (K : PySem.W.Frag) (hK : X.K = K) (M : Mk K (He.ga K x) (He.ma K (He.ga K x) "__init__")) (G : Good X.prog X.w K X.mg X.base CX0 k (x, some "__init__") ps sp) (hr : Room (k + 1) X.A) (hm : X.mg x = some (.ref (He.ga K x))) (ha : PA X (e :: es) t) (hg : Gl X x := by rfl)
    (hdb : (x == ("__debug__" : Str)) = false := by decide) (hst : starEach (e :: es) X.env = (false, eval e X.env) :: starEach es X.env := by rfl) (hpl : (backTo pos (starEach es X.env)).any (·.1) = false := by rfl) : PE X (.Call (.Name x p) (e :: es) [] pos) (tMake (He.ga K x) sp [] E0 t) := by
  subst hK
  obtain ⟨fd, F, b, kp, lk⟩ := G
  exact pe_make M F hr hg hm b .nil pass0 ha hdb hst hpl
/-- one of two readings -/
theorem pe_or {t1 t2 : TE} (h1 : PE X e t1) (h2 : PE X e t2) : PE X e (fun σ H Q => t1 σ H Q ∨ t2 σ H Q) := ⟨fun pins s σ H Q I h => h.elim (h1.run pins s σ H Q I) (h2.run pins s σ H Q I)⟩
/-! the written part said outright (in a comprehension's block it is another word for the same) -/
variable {K : PySem.W.Frag} {f : Str} {a b i : Expr} {tb : TE}
theorem pe_fldK (K : PySem.W.Frag) (hK : X.K = K) (he : PE X e ta) (hb : attributeBase e f X.env (eval e X.env) = eval e X.env) : PE X (.Attribute e f pos) (tFld K ta f) := by subst hK; exact pe_fld he hb
theorem ix_listK (K : PySem.W.Frag) (hK : X.K = K) : IxR X (rIxL K) := by subst hK; exact ix_list
theorem ix_tupK (K : PySem.W.Frag) (hK : X.K = K) : IxR X (rIxT K) := by subst hK; exact ix_tup
theorem sl_listK (K : PySem.W.Frag) (hK : X.K = K) : SlR X (rSlL K) := by subst hK; exact sl_list
theorem sl_tupK (K : PySem.W.Frag) (hK : X.K = K) : SlR X (rSlT K) := by subst hK; exact sl_tup
theorem op_inK (K : PySem.W.Frag) (hK : X.K = K) : OpR X (compareOp .In) (rIn K false) := by subst hK; exact op_in_seq
theorem op_notInK (K : PySem.W.Frag) (hK : X.K = K) : OpR X (compareOp .NotIn) (rIn K true) := by subst hK; exact op_notIn_seq
theorem op_eqDK (K : PySem.W.Frag) (hK : X.K = K) (hu : X.A.units + 64 < cLine) : OpR X (compareOp .Eq) (rEqD K) := by subst hK; exact op_eqD hu
theorem op_neDK (K : PySem.W.Frag) (hK : X.K = K) (hu : X.A.units + 64 < cLine) : OpR X (compareOp .NotEq) (rNeD K) := by subst hK; exact op_neD hu
theorem op_catTK (K : PySem.W.Frag) (hK : X.K = K) : OpR X (binaryOp .Add) (rCatT K) := by subst hK; exact op_catT
theorem call_isiK (K : PySem.W.Frag) (hK : X.K = K) : CallR X (.builtin "isinstance") (rIsi K) := by subst hK; exact call_isi
def rLenS (K : PySem.W.Frag) : List V → Hp → VK → Prop := fun xs H Q => ∃ p ys, xs = [.ref p] ∧ (SqL K H p ys ∨ SqT K H p ys) ∧ Q (.int ys.length) H
theorem call_lenK (K : PySem.W.Frag) (hK : X.K = K) : CallR X (.builtin "len") (rLenS K) := by subst hK; exact call_len_seq
def rListOf (K : PySem.W.Frag) : List V → Hp → VK → Prop := fun xs H Q => ∃ p ys, xs = [.ref p] ∧ (SqL K H p ys ∨ SqT K H p ys) ∧ ∀ l, H l = none → Q (.ref l) (upd H l (.lst ys))
theorem call_listK (K : PySem.W.Frag) (hK : X.K = K) : CallR X (.type "list") (rListOf K) := by subst hK; exact call_list_of
theorem cr_sumK (K : PySem.W.Frag) (hK : X.K = K) (hc : X.calm = true) : CallR X (.builtin "sum") (rSum K) := by subst hK; exact cr_sum hc
theorem cr_maxK (K : PySem.W.Frag) (hK : X.K = K) (hc : X.calm = true) : CallR X (.builtin "max") (rMax K) := by subst hK; exact cr_max hc
theorem cr_minK (K : PySem.W.Frag) (hK : X.K = K) (hc : X.calm = true) : CallR X (.builtin "min") (rMin K) := by subst hK; exact cr_min hc
theorem pi_listK (K : PySem.W.Frag) (hK : X.K = K) {tg l : Expr} {tl : TE} (hl : PE X l tl) : PI X tg l (iList K tl) := by subst hK; exact pi_list hl
theorem pi_tupK (K : PySem.W.Frag) (hK : X.K = K) {tg l : Expr} {tl : TE} (hl : PE X l tl) : PI X tg l (iTup K tl) := by subst hK; exact pi_tup hl
theorem pe_mgK (K : PySem.W.Frag) (hK : X.K = K) {cn : Str} {pl : Sem Bool} (he : PE X o ta) (c : Cls K (He.ga K cn)) (hm : Meth K (He.ga K cn) m (He.ma K (He.ga K cn) m)) (G : Good X.prog X.w K X.mg X.base CX0 k (cn, some m) ps sp) (hr : Room k X.A) (ha : PA X (e :: es) t)
    (hst : starEach (e :: es) X.env = (false, eval e X.env) :: starEach es X.env := by rfl) (hpl : (backTo pos (starEach es X.env)).any (·.1) = false := by rfl)
    (ht : eval (.Call (.Attribute o m apos) (e :: es) [] pos) X.env = (do
      let ov ← eval o X.env
      standAt apos.atName
      let (f, first) ← holding [ov] (getMethod ov m pl)
      callWith pos f first (backTo pos (starEach (e :: es) X.env)) (backToKw pos (keywordEach [] X.env))) := by rfl) :
    PE X (.Call (.Attribute o m apos) (e :: es) [] pos) (tMeth (He.ga K cn) m sp [] E0 ta t) := by subst hK; exact pe_mg he c hm G hr ha hst hpl ht
theorem pe_mg0K (K : PySem.W.Frag) (hK : X.K = K) {cn : Str} {pl : Sem Bool} (he : PE X o ta) (c : Cls K (He.ga K cn)) (hm : Meth K (He.ga K cn) m (He.ma K (He.ga K cn) m)) (G : Good X.prog X.w K X.mg X.base CX0 k (cn, some m) ps sp) (hr : Room k X.A)
    (ht : eval (.Call (.Attribute o m apos) [] [] pos) X.env = (do
      let ov ← eval o X.env
      standAt apos.atName
      let (f, first) ← holding [ov] (getMethod ov m pl)
      callWith pos f first (backTo pos (starEach [] X.env)) (backToKw pos (keywordEach [] X.env))) := by rfl) :
    PE X (.Call (.Attribute o m apos) [] [] pos) (tMeth (He.ga K cn) m sp [] E0 ta tNil) := by subst hK; exact pe_mg0 he c hm G hr ht
theorem pe_cgK (K : PySem.W.Frag) (hK : X.K = K) (G : Good X.prog X.w K X.mg X.base CX0 k (x, none) ps sp) (hr : Room k X.A) (hm : X.mg x = some (.ref (He.ga K x))) (ha : PA X (e :: es) t) (hg : Gl X x := by rfl)
    (hdb : (x == ("__debug__" : Str)) = false := by decide) (he : starEach (e :: es) X.env = (false, eval e X.env) :: starEach es X.env := by rfl) (hpl : (backTo pos (starEach es X.env)).any (·.1) = false := by rfl) :
    PE X (.Call (.Name x p) (e :: es) [] pos) (tCall sp [] E0 t) := by subst hK; exact pe_cg G hr hm ha hg hdb he hpl
theorem pe_grefK (K : PySem.W.Frag) (hK : X.K = K) (h : X.mg x = some (.ref (He.ga K x))) (hg : Gl X x) (hd : (x == ("__debug__" : Str)) = false := by decide) : PE X (.Name x pos) (tC (.ref (He.ga K x))) := by subst hK; exact pe_gref h hg hd
end
end JF

/-! ### squares as trees: the mathematics of a grove, no program in sight -/
namespace JF
open PySem PySem.Spec PyProof.Rows L2

inductive Sq where
  | leaf (s : Int)
  | node (a b c d : Sq)
  deriving DecidableEq
abbrev Box := Int × Int × Int × Int
def rb : Option Box → Box → Box
  | none, o => o
  | some b, o => (min b.1 o.1, min b.2.1 o.2.1, max (b.1 + b.2.2.1) (o.1 + o.2.2.1) - min b.1 o.1, max (b.2.1 + b.2.2.2) (o.2.1 + o.2.2.2) - min b.2.1 o.2.1)
def r4step (half : Int) (at_ : Int) (f : Option Box) : Option Box → Option Box
  | none => f
  | some b => some (rb f (b.1 + half * (at_ % 2), b.2.1 + half * (at_ / 2), b.2.2.1, b.2.2.2))
def r4 (half : Int) (a b c d : Option Box) : Option Box := r4step half 3 (r4step half 2 (r4step half 1 (r4step half 0 none a) b) c) d
namespace Sq
def level : Sq → Nat
  | leaf _ => 0
  | node a _ _ _ => a.level + 1
def lives : Sq → Int
  | leaf s => if s = 0 then 0 else 1
  | node a b c d => a.lives + b.lives + c.lives + d.lives
def span : Sq → Option Box
  | leaf s => if s = 0 then none else some (0, 0, 1, 1)
  | node a b c d => r4 (2 ^ a.level : Int) a.span b.span c.span d.span
def wf : Sq → Prop
  | leaf s => 0 ≤ s ∧ s ≤ 7
  | node a b c d => a.wf ∧ b.wf ∧ c.wf ∧ d.wf ∧ b.level = a.level ∧ c.level = a.level ∧ d.level = a.level
def even : Nat → Int → Sq
  | 0, s => leaf s
  | k + 1, s => node (even k s) (even k s) (even k s) (even k s)
theorem level_even (k : Nat) (s : Int) : (even k s).level = k := by
  induction k with
  | zero => rfl
  | succ k ih => show (even k s).level + 1 = k + 1; rw [ih]
theorem wf_even {s : Int} (h0 : 0 ≤ s) (h1 : s ≤ 7) (k : Nat) : (even k s).wf := by
  induction k with
  | zero => exact ⟨h0, h1⟩
  | succ k ih => exact ⟨ih, ih, ih, ih, rfl, rfl, rfl⟩
theorem lives_nonneg : ∀ S : Sq, 0 ≤ S.lives
  | leaf s => by unfold lives; split <;> omega
  | node a b c d => by
    have h1 := lives_nonneg a; have h2 := lives_nonneg b; have h3 := lives_nonneg c; have h4 := lives_nonneg d
    unfold lives; omega
end Sq

/-! ### the dict of a grove: what was made, by numbers -/
def kvsOf : List (List Int) → Nat → List (List Key × V)
  | [], _ => []
  | m :: r, i => (m.map Sum.inl, V.int (i : Int)) :: kvsOf r (i + 1)
def lookI : List (List Int) → List Int → Nat → Option Nat
  | [], _, _ => none
  | m :: r, k, i => if m = k then some i else lookI r k (i + 1)
theorem inl_inj : ∀ {a b : List Int}, a.map (Sum.inl : Int → Key) = b.map Sum.inl → a = b
  | [], [], _ => rfl
  | [], _ :: _, h => by cases h
  | _ :: _, [], h => by cases h
  | x :: a, y :: b, h => by
    simp only [List.map_cons, List.cons.injEq, Sum.inl.injEq] at h
    rw [h.1, inl_inj h.2]
theorem kvsOf_len : ∀ (mk : List (List Int)) (i : Nat), (kvsOf mk i).length = mk.length
  | [], _ => rfl
  | _ :: r, i => by show (kvsOf r (i + 1)).length + 1 = r.length + 1; rw [kvsOf_len r]
theorem kvsOf_app : ∀ (mk : List (List Int)) (m : List Int) (i : Nat), kvsOf (mk ++ [m]) i = kvsOf mk i ++ [(m.map Sum.inl, V.int ((i + mk.length : Nat) : Int))]
  | [], m, i => rfl
  | x :: r, m, i => by
    show _ :: kvsOf (r ++ [m]) (i + 1) = _ :: (kvsOf r (i + 1) ++ _)
    rw [kvsOf_app r m (i + 1)]
    have e : i + 1 + r.length = i + (x :: r).length := by simp; omega
    rw [e]
theorem valV_kvsOf : ∀ (mk : List (List Int)) (k : List Int) (i : Nat), valV (kvsOf mk i) (k.map Sum.inl) = (lookI mk k i).map fun n : Nat => V.int (n : Int)
  | [], _, _ => rfl
  | m :: r, k, i => by
    by_cases h : m = k
    · subst h
      simp [kvsOf, lookI, valV]
    · have h' : ¬ (m.map (Sum.inl : Int → Key) = k.map Sum.inl) := fun e => h (inl_inj e)
      have ih := valV_kvsOf r k (i + 1)
      simp only [kvsOf, lookI, valV, List.find?_cons, h, h', decide_false, if_false] at ih ⊢
      exact ih
theorem lookI_some : ∀ {mk : List (List Int)} {k : List Int} {i n : Nat}, lookI mk k i = some n → i ≤ n ∧ mk[n - i]? = some k
  | [], _, _, _, h => by cases h
  | m :: r, k, i, n, h => by
    by_cases e : m = k
    · simp only [lookI, e, if_true, Option.some.injEq] at h
      subst h
      simp [e]
    · simp only [lookI, e, if_false] at h
      obtain ⟨h1, h2⟩ := lookI_some h
      refine ⟨by omega, ?_⟩
      have e2 : n - i = (n - (i + 1)) + 1 := by omega
      rw [e2, List.getElem?_cons_succ]
      exact h2
theorem lookI_none : ∀ {mk : List (List Int)} {k : List Int} {i : Nat}, lookI mk k i = none → k ∉ mk
  | [], _, _, _ => by simp
  | m :: r, k, i, h => by
    by_cases e : m = k
    · simp [lookI, e] at h
    · simp only [lookI, e, if_false] at h
      have := lookI_none h
      simp only [List.mem_cons, not_or]
      exact ⟨fun z => e z.symm, this⟩

/-- what a square is made of, by the numbers of its quarters -/
def Made (q : List Sq) : Sq → List Int → Prop
  | .leaf s, m => m = [s]
  | .node A B C D, m => ∃ a b c d : Nat, m = [(a : Int), (b : Int), (c : Int), (d : Int)] ∧ q[a]? = some A ∧ q[b]? = some B ∧ q[c]? = some C ∧ q[d]? = some D
theorem getElem?_app {α : Type} {q : List α} {i : Nat} {x : α} (h : q[i]? = some x) (t : List α) : (q ++ t)[i]? = some x := by
  rw [List.getElem?_append_left (List.getElem?_eq_some_iff.mp h).1]
  exact h
theorem Made.app {q : List Sq} {S : Sq} {m : List Int} (h : Made q S m) (t : List Sq) : Made (q ++ t) S m := by
  cases S with
  | leaf s => exact h
  | node A B C D =>
    obtain ⟨a, b, c, d, e, h1, h2, h3, h4⟩ := h
    exact ⟨a, b, c, d, e, getElem?_app h1 t, getElem?_app h2 t, getElem?_app h3 t, getElem?_app h4 t⟩
theorem nodup_at {q : List Sq} (hq : q.Nodup) {i j : Nat} {S : Sq} (a : q[i]? = some S) (b : q[j]? = some S) : i = j := by
  obtain ⟨h1, e1⟩ := List.getElem?_eq_some_iff.mp a
  obtain ⟨h2, e2⟩ := List.getElem?_eq_some_iff.mp b
  exact (List.getElem_inj hq).mp (e1.trans e2.symm)
theorem made_inj {q : List Sq} (hq : q.Nodup) {S : Sq} {m m' : List Int} (a : Made q S m) (b : Made q S m') : m = m' := by
  cases S with
  | leaf s => exact (show m = [s] from a).trans (show m' = [s] from b).symm
  | node A B C D =>
    obtain ⟨a1, b1, c1, d1, rfl, h1, h2, h3, h4⟩ := a
    obtain ⟨a2, b2, c2, d2, rfl, k1, k2, k3, k4⟩ := b
    rw [nodup_at hq h1 k1, nodup_at hq h2 k2, nodup_at hq h3 k3, nodup_at hq h4 k4]
theorem made_same {q : List Sq} {S S' : Sq} {m : List Int} (a : Made q S m) (b : Made q S' m) : S = S' := by
  cases S with
  | leaf s =>
    cases S' with
    | leaf s' =>
      have e : [s] = [s'] := (show m = [s] from a).symm.trans (show m = [s'] from b)
      simp only [List.cons.injEq, and_true] at e
      rw [e]
    | node A B C D =>
      obtain ⟨a2, b2, c2, d2, e, _⟩ := b
      have e1 : m = [s] := a
      rw [e1] at e
      simp at e
  | node A B C D =>
    obtain ⟨a1, b1, c1, d1, e1, h1, h2, h3, h4⟩ := a
    cases S' with
    | leaf s' =>
      have e2 : m = [s'] := b
      rw [e1] at e2
      simp at e2
    | node A' B' C' D' =>
      obtain ⟨a2, b2, c2, d2, e2, k1, k2, k3, k4⟩ := b
      rw [e1] at e2
      simp only [List.cons.injEq, Int.ofNat_inj, and_true] at e2
      obtain ⟨rfl, rfl, rfl, rfl⟩ := e2
      rw [h1] at k1; rw [h2] at k2; rw [h3] at k3; rw [h4] at k4
      cases k1; cases k2; cases k3; cases k4
      rfl
end JF

namespace JF
open PySem PySem.Spec PyProof.Rows L2
def top (i : Nat) : Stmt := PySem.Challenge.pw_jumpfield_k01_numbers_read.main.body.getD i (.Pass ⟨0, 0, 0, 0⟩)
abbrev st_is_whole : Stmt := top 18
theorem sc_is_whole : FnScope ["thing"] ["thing"] (defScope st_is_whole) := ⟨rfl, rfl, rfl, by decide +kernel, rfl, by decide +kernel, by decide +kernel⟩
def d_is_whole : He.DefD := ⟨("is_whole", none), "is_whole", "is_whole", defArgs (top 18), defBody (top 18), defScope (top 18), [], []⟩
abbrev st_read_whole : Stmt := top 19
theorem sc_read_whole : FnScope ["text", "figures", "sign"] ["text"] (defScope st_read_whole) := ⟨rfl, rfl, rfl, by decide +kernel, rfl, by decide +kernel, by decide +kernel⟩
def d_read_whole : He.DefD := ⟨("read_whole", none), "read_whole", "read_whole", defArgs (top 19), defBody (top 19), defScope (top 19), [], []⟩
abbrev st_w_at : Stmt := top 21
theorem sc_w_at : FnScope ["_law_script", "_law_k"] ["_law_script", "_law_k"] (defScope st_w_at) := ⟨rfl, rfl, rfl, by decide +kernel, rfl, by decide +kernel, by decide +kernel⟩
def d_w_at : He.DefD := ⟨("_law_at", none), "_law_at", "_law_at", defArgs (top 21), defBody (top 21), defScope (top 21), [], []⟩
abbrev st_w_mix : Stmt := top 22
theorem sc_w_mix : FnScope ["_law_cell", "_law_k", "_law_value"] ["_law_cell", "_law_k"] (defScope st_w_mix) := ⟨rfl, rfl, rfl, by decide +kernel, rfl, by decide +kernel, by decide +kernel⟩
def d_w_mix : He.DefD := ⟨("_law_mix", none), "_law_mix", "_law_mix", defArgs (top 22), defBody (top 22), defScope (top 22), [], []⟩
abbrev st_w_any_sign : Stmt := top 23
theorem sc_w_any_sign : FnScope ["_law_cell", "_law_some"] ["_law_cell"] (defScope st_w_any_sign) := ⟨rfl, rfl, rfl, by decide +kernel, rfl, by decide +kernel, by decide +kernel⟩
def d_w_any_sign : He.DefD := ⟨("_law_any_sign", none), "_law_any_sign", "_law_any_sign", defArgs (top 23), defBody (top 23), defScope (top 23), [], []⟩
abbrev st_w_odd : Stmt := top 24
theorem sc_w_odd : FnScope ["_law_cell", "_law_some"] ["_law_cell"] (defScope st_w_odd) := ⟨rfl, rfl, rfl, by decide +kernel, rfl, by decide +kernel, by decide +kernel⟩
def d_w_odd : He.DefD := ⟨("_law_odd", none), "_law_odd", "_law_odd", defArgs (top 24), defBody (top 24), defScope (top 24), [], []⟩
abbrev st_w_line : Stmt := top 25
theorem sc_w_line : FnScope ["_law_script", "_law_at_here", "_law_line_here", "_law_k", "_law_spot", "_law_way", "_law_sign"] ["_law_script", "_law_at_here"] (defScope st_w_line) := ⟨rfl, rfl, rfl, by decide +kernel, rfl, by decide +kernel, by decide +kernel⟩
def d_w_line : He.DefD := ⟨("_law_line", none), "_law_line", "_law_line", defArgs (top 25), defBody (top 25), defScope (top 25), [], []⟩
abbrev st_w_due : Stmt := top 26
theorem sc_w_due : FnScope ["_law_line_here", "_law_figures", "_law_value", "_law_sign"] ["_law_line_here"] (defScope st_w_due) := ⟨rfl, rfl, rfl, by decide +kernel, rfl, by decide +kernel, by decide +kernel⟩
def d_w_due : He.DefD := ⟨("_law_due", none), "_law_due", "_law_due", defArgs (top 26), defBody (top 26), defScope (top 26), [], []⟩
abbrev st_w_others : Stmt := top 27
theorem sc_w_others : FnScope ["_law_e", "_law_some"] ["_law_e"] (defScope st_w_others) := ⟨rfl, rfl, rfl, by decide +kernel, rfl, by decide +kernel, by decide +kernel⟩
def d_w_others : He.DefD := ⟨("_law_others", none), "_law_others", "_law_others", defArgs (top 27), defBody (top 27), defScope (top 27), [], []⟩
abbrev st_w_refused : Stmt := top 28
theorem sc_w_refused : FnScope ["_law_thing", "_law_e"] ["_law_thing"] (defScope st_w_refused) := ⟨rfl, rfl, rfl, by decide +kernel, rfl, by decide +kernel, by decide +kernel⟩
def d_w_refused : He.DefD := ⟨("_law_refused", none), "_law_refused", "_law_refused", defArgs (top 28), defBody (top 28), defScope (top 28), [], []⟩
abbrev st_w_read : Stmt := top 29
theorem sc_w_read : FnScope ["_law_line_here", "_law_found"] ["_law_line_here"] (defScope st_w_read) := ⟨rfl, rfl, rfl, by decide +kernel, rfl, by decide +kernel, by decide +kernel⟩
def d_w_read : He.DefD := ⟨("_law_read", none), "_law_read", "_law_read", defArgs (top 29), defBody (top 29), defScope (top 29), [], []⟩
abbrev st_w_right : Stmt := top 30
theorem sc_w_right : FnScope ["_law_line_here", "_law_due_here", "_law_found"] ["_law_line_here"] (defScope st_w_right) := ⟨rfl, rfl, rfl, by decide +kernel, rfl, by decide +kernel, by decide +kernel⟩
def d_w_right : He.DefD := ⟨("_law_right", none), "_law_right", "_law_right", defArgs (top 30), defBody (top 30), defScope (top 30), [], []⟩
abbrev st_law : Stmt := top 31
theorem sc_law : FnScope ["_law_script", "_law_at_here", "_law_number", "_law_thing"] ["_law_script"] (defScope st_law) := ⟨rfl, rfl, rfl, by decide +kernel, rfl, by decide +kernel, by decide +kernel⟩
def d_law : He.DefD := ⟨("law", none), "law", "law", defArgs (top 31), defBody (top 31), defScope (top 31), [], []⟩
def fn : List He.DefD := [d_is_whole, d_read_whole, d_w_at, d_w_mix, d_w_any_sign, d_w_odd, d_w_line, d_w_due, d_w_others, d_w_refused, d_w_read, d_w_right, d_law]
def fa : List He.Fa := [(.free "bool"), (.free "isinstance"), (.free "int"), (.free "str"), (.free "len"), (.int "MOST_FIGURES" 30), (.str "FIGURES" "0123456789"), (.glo "NoNumber"), (.free "range"), (.glo "_law_at"), (.glo "_law_mix"), (.glo "_law_any_sign"), (.glo "_law_odd"), (.glo "NoSquare"), (.glo "NoLevel"), (.glo "NoState"), (.glo "NoBox"), (.glo "TooFar"), (.glo "TooMany"), (.glo "NoSteps"), (.glo "NoPattern"), (.glo "NoName"), (.glo "NoRow"), (.glo "read_whole"), (.glo "_law_others"), (.glo "Restless"), (.glo "NoRule"), (.free "ValueError"), (.glo "FieldError"), (.glo "_law_due"), (.glo "_law_refused"), (.glo "_law_read"), (.glo "is_whole"), (.free "min"), (.free "max"), (.glo "_law_right"), (.glo "_law_line"), (.glo "law")]
def loose0 : List Str := ["FieldError", "NoNumber", "NoRule", "Restless", "NoSquare", "NoLevel", "NoState", "NoBox", "TooFar", "TooMany", "NoSteps", "NoPattern", "NoName", "NoRow", "FIGURES", "MOST_FIGURES", "is_whole", "read_whole", "_law_at", "_law_mix", "_law_any_sign", "_law_odd", "_law_line", "_law_due", "_law_others", "_law_refused", "_law_read", "_law_right"]
def looseN : List Str := loose0
end JF

/-! ### readings step by step: a rule for each construct, tried by «walk_at "rd"» -/
namespace JF
open PySem PySem.Spec PyProof.Rows L2
section
variable {D : Ends} {σ : L2.St} {H : Hp} {Q : VK} {QB : Bool → Hp → Prop} {QA : List V → Hp → Prop} {t u : TS} {te ta tb tc : TE} {g : TG} {c c' : TT} {v : V} {i : Nat} {K : PySem.W.Frag}
theorem rd_seq (h : t { D with nx := u D } σ H) : tSeq t u D σ H := h
/-- the walk halts ahead of a loop -/
def Halt (p : Prop) : Prop := p
theorem rd_seqF {wi : TI} (h : Halt (tSeq (tFor wi g t) u D σ H)) : tSeq (tFor wi g t) u D σ H := h
theorem rd_seqW (h : Halt (tSeq (tWhile c t) u D σ H)) : tSeq (tWhile c t) u D σ H := h
theorem rd_seqI {t' : TS} (h : Halt (tSeq (tIfS c t t') u D σ H)) : tSeq (tIfS c t t') u D σ H := h
theorem rd_next (h : D.nx σ H) : tNext D σ H := h
theorem rd_asg (h : te σ H fun x H1 => g x σ H1 D.nx) : tAsg te g D σ H := h
theorem rd_gname {R : L2.St → Hp → Prop} (h : R (σ.set i (some v)) H) : gName i v σ H R := h
theorem rd_ret (h : te σ H D.rt) : tRet te D σ H := h
theorem rd_retN (h : D.rt .non H) : tRetN D σ H := h
theorem rd_drop (h : te σ H fun _ H1 => D.nx σ H1) : tDrop te D σ H := h
theorem rd_if (h : c σ H fun b H1 => if b = true then t D σ H1 else u D σ H1) : tIfS c t u D σ H := h
theorem rd_ifE (h : c σ H fun b H1 => if b = true then ta σ H1 Q else tb σ H1 Q) : tIf c ta tb σ H Q := h
theorem rd_brk (h : D.bk σ H) : tBreak D σ H := h
theorem rd_cont (h : D.ct σ H) : tCont D σ H := h
theorem rd_var (h : σ[i]? = some (some v)) (q : Q v H) : tVar i σ H Q := ⟨v, h, q⟩
theorem rd_c (q : Q v H) : tC v σ H Q := q
theorem rd_op {r : R2} (h : ta σ H fun x H1 => tb σ H1 fun y H2 => r x y H2 Q) : tOp r ta tb σ H Q := h
theorem rd_un {r : V → Hp → VK → Prop} (h : ta σ H fun x H1 => r x H1 Q) : tUn r ta σ H Q := h
theorem rd_I0 {f : Int → Int → V} {a b : Int} (q : Q (f a b) H) : rI0 f (.int a) (.int b) H Q := ⟨a, b, rfl, rfl, q⟩
theorem rd_U {f : Int → V} {a : Int} (q : Q (f a) H) : rU f (.int a) H Q := ⟨a, rfl, q⟩
theorem rd_test (h : te σ H fun x H' => ∃ k, x = .bl k ∧ QB k H') : tTest te σ H QB := h
theorem rd_B (h : te σ H fun x H' => ∃ k, x = .bl k ∧ QB k H') : tB te σ H QB := h
theorem rd_bl {b : Bool} {R : Bool → Prop} (q : R b) : ∃ k, V.bl b = .bl k ∧ R k := ⟨b, rfl, q⟩
theorem iteT' {A B : Prop} (h : A) : if true = true then A else B := iteT h
theorem iteF' {A B : Prop} (h : B) : if false = true then A else B := iteF h
theorem iteNT {A B : Prop} (h : B) : if (!true) = true then A else B := iteF h
theorem iteNF {A B : Prop} (h : A) : if (!false) = true then A else B := iteT h
theorem rd_for {wi : TI} (h : wi σ H fun J H1 => ∃ W : Nat → Nat → L2.St → Hp → Prop, (∃ m, W 0 m σ H1) ∧ ∀ i m σ H, W i m σ H →
  (J.stop i H ∧ D.nx σ H) ∨ (J.go i H ∧ ∃ N : L2.St → Hp → Prop, (∀ σ' H', N σ' H' → ∃ m', m' < m ∧ W (i + 1) m' σ' H') ∧ ∀ x H', J.yld i H x H' → g x σ H' fun σ2 H2 => t { D with nx := N, ct := N, bk := D.nx } σ2 H2)) : tFor wi g t D σ H := h
theorem rd_and (h : c σ H fun b H1 => if b = true then c' σ H1 QB else QB false H1) : tAnd c c' σ H QB := h
theorem rd_or (h : c σ H fun b H1 => if b = true then QB true H1 else c' σ H1 QB) : tOr c c' σ H QB := h
theorem rd_not (h : c σ H fun b H1 => QB (!b) H1) : tNot c σ H QB := h
theorem rd_andV (h : ta σ H fun x H1 => ∃ k, x = .bl k ∧ if k = true then tb σ H1 Q else Q (.bl false) H1) : tAndV ta tb σ H Q := h
theorem rd_orV (h : ta σ H fun x H1 => ∃ k, x = .bl k ∧ if k = true then Q (.bl true) H1 else tb σ H1 Q) : tOrV ta tb σ H Q := h
theorem rd_notV (h : ta σ H fun x H1 => ∃ k, x = .bl k ∧ Q (.bl (!k)) H1) : tNotV ta σ H Q := h
theorem rd_eqI {a b : Int} (q : Q (.bl (decide (a = b))) H) : rEq (.int a) (.int b) H Q := ⟨rfl, by
  have e : decide (V.int a = V.int b) = decide (a = b) := by by_cases z : a = b <;> simp [z]
  rw [e]; exact q⟩
theorem rd_neI {a b : Int} (q : Q (.bl (!decide (a = b))) H) : rNe (.int a) (.int b) H Q := ⟨rfl, by
  have e : decide (V.int a = V.int b) = decide (a = b) := by by_cases z : a = b <;> simp [z]
  rw [e]; exact q⟩
theorem rd_eqS {a b : Str} (q : Q (.bl (decide (a = b))) H) : rEq (.str a) (.str b) H Q := ⟨rfl, by
  have e : decide (V.str a = V.str b) = decide (a = b) := by by_cases z : a = b <;> simp [z]
  rw [e]; exact q⟩
theorem rd_neS {a b : Str} (q : Q (.bl (!decide (a = b))) H) : rNe (.str a) (.str b) H Q := ⟨rfl, by
  have e : decide (V.str a = V.str b) = decide (a = b) := by by_cases z : a = b <;> simp [z]
  rw [e]; exact q⟩
theorem rd_nil (q : QA [] H) : tNil σ H QA := q
theorem rd_cons {tr : TA} (h : ta σ H fun x H1 => tr σ H1 fun xs H2 => QA (x :: xs) H2) : tCons ta tr σ H QA := h
theorem rd_call {sp : Sp} {dvs : List V} {E : XK} {tr : TA} (h : tr σ H fun vs H1 => sp (vs ++ dvs) H1 Q E) : tCall sp dvs E tr σ H Q := h
theorem rd_CB {r : List V → Hp → VK → Prop} {tr : TA} (h : tr σ H fun vs H1 => r vs H1 Q) : tCB r tr σ H Q := h
theorem rd_meth {C : Addr} {m : Str} {sp : Sp} {dvs : List V} {E : XK} {tr : TA} (h : ta σ H fun x H1 => ∃ a dx fs, x = .ref a ∧ H1 a = some (.ins C dx fs) ∧ fs.lookup m = none ∧ tr σ H1 fun vs H2 => sp (x :: (vs ++ dvs)) H2 Q E) : tMeth C m sp dvs E ta tr σ H Q := h
theorem rd_methR {a dx : Addr} {fs : List (Str × V)} {C : Addr} {m : Str} {R : Prop} (h1 : H a = some (.ins C dx fs)) (h2 : fs.lookup m = none) (q : R) : ∃ a' dx fs, V.ref a = .ref a' ∧ H a' = some (.ins C dx fs) ∧ fs.lookup m = none ∧ R := ⟨a, dx, fs, rfl, h1, h2, q⟩
theorem rd_fld {f : Str} (h : ta σ H fun x H1 => ∃ a C dx fs v, x = .ref a ∧ H1 a = some (.ins C dx fs) ∧ Cls K C ∧ NoAttr K C f ∧ fs.lookup f = some v ∧ Q v H1) : tFld K ta f σ H Q := h
theorem rd_fldR {a C dx : Addr} {fs : List (Str × V)} {f : Str} {R : V → Prop} (h1 : H a = some (.ins C dx fs)) (h2 : Cls K C) (h3 : NoAttr K C f) (h4 : fs.lookup f = some v) (q : R v) : ∃ a' C dx fs v, V.ref a = .ref a' ∧ H a' = some (.ins C dx fs) ∧ Cls K C ∧ NoAttr K C f ∧ fs.lookup f = some v ∧ R v := ⟨a, C, dx, fs, v, rfl, h1, h2, h3, h4, q⟩
theorem rd_chain {r r' : R2} (h : ta σ H fun x H1 => tb σ H1 fun y H2 => r x y H2 fun z H3 => ∃ k, z = .bl k ∧ (if k = true then tc σ H3 fun w' H4 => r' y w' H4 Q else Q (.bl false) H3)) : tChain r r' ta tb tc σ H Q := h
theorem rd_tup {tr : TA} (h : tr σ H fun xs H1 => xs.length ≤ sizeLine ∧ ∀ p, H1 p = none → Q (.ref p) (upd H1 p (.tup xs))) : tTup tr σ H Q := h
theorem rd_lst {tr : TA} (h : tr σ H fun xs H1 => xs.length ≤ sizeLine ∧ ∀ p, H1 p = none → Q (.ref p) (upd H1 p (.lst xs))) : tLst tr σ H Q := h
theorem rd_new {n : Nat} {R : Addr → Prop} (hn : n ≤ sizeLine := by (first | (show _ ≤ sizeLine; decide) | omega)) (h : ∀ p, H p = none → R p) : n ≤ sizeLine ∧ ∀ p, H p = none → R p := ⟨hn, h⟩
theorem rd_bm {T : String} {r : V → List V → Hp → VK → Prop} {tr : TA} (h : ta σ H fun x H1 => tyV K T x H1 ∧ tr σ H1 fun xs H2 => r x xs H2 Q) : tBM K T r ta tr σ H Q := h
theorem rd_bm0 {T : String} {r : V → List V → Hp → VK → Prop} (h : ta σ H fun x H1 => tyV K T x H1 ∧ r x [] H1 Q) : tBM0 K T r ta σ H Q := h
theorem rd_ixL {p : Addr} {xs : List V} {k : Int} (h1 : SqL K H p xs) (h2 : atI xs k = some v) (q : Q v H) : rIxL K (.ref p) (.int k) H Q := ⟨p, xs, k, v, rfl, rfl, h1, h2, q⟩
theorem rd_ixT {p : Addr} {xs : List V} {k : Int} (h1 : SqT K H p xs) (h2 : atI xs k = some v) (q : Q v H) : rIxT K (.ref p) (.int k) H Q := ⟨p, xs, k, v, rfl, rfl, h1, h2, q⟩
theorem rd_tyL {l : Addr} {xs : List V} {R : Prop} (h1 : H l = some (.lst xs)) (q : R) : tyV K "list" (.ref l) H ∧ R := ⟨Or.inl ⟨rfl, _, Or.inl (Or.inl h1)⟩, q⟩
theorem rd_append {l : Addr} {xs : List V} {y : V} (h1 : H l = some (.lst xs)) (h2 : xs.length < sizeLine) (q : Q .non (upd H l (.lst (xs ++ [y])))) : rAppend (.ref l) [y] H Q :=
  ⟨l, xs, y, rfl, rfl, h1, h2, q⟩
theorem rd_dget {td ty : TE} (h : td σ H fun x H1 => ty σ H1 fun y H2 => ∃ a v, x = .ref a ∧ DGet H2 a y (some v) ∧ Q v H2) : tDGet td ty σ H Q := h
theorem rd_din {td ty : TE} (h : ty σ H fun y H1 => td σ H1 fun x H2 => ∃ a o, x = .ref a ∧ DGet H2 a y o ∧ Q (.bl o.isSome) H2) : tDIn ty td σ H Q := h
theorem rd_dput {td ty tv : TE} (h : tv σ H fun v H1 => td σ H1 fun x H2 => ty σ H2 fun y H3 => ∃ a H4, x = .ref a ∧ DPut H3 a y v H4 ∧ D.nx σ H4) : sDPut td ty tv D σ H := h
theorem rd_2I {a b : Int} {R : Int → Int → Prop} (h : R a b) : ∃ i j, [V.int a, V.int b] = [V.int i, V.int j] ∧ R i j := ⟨a, b, rfl, h⟩
theorem rd_I {C : Int → Int → Prop} {f : Int → Int → V} {a b : Int} (hc : C a b) (q : Q (f a b) H) : rI C f (.int a) (.int b) H Q := ⟨a, b, rfl, rfl, hc, q⟩
theorem rd_mod {f : Int → Int → V} {a b : Int} (hc : 0 < b) (q : Q (f a b) H) : rI (fun _ j => 0 < j) f (.int a) (.int b) H Q := ⟨a, b, rfl, rfl, hc, q⟩
theorem rd_fdiv {f : Int → Int → V} {a b : Int} (h1 : 0 < b) (h2 : b < 2 ^ 100) (q : Q (f a b) H) : rI CDivW f (.int a) (.int b) H Q :=
  ⟨a, b, rfl, rfl, wide_div h1 (b := 100) (by have h3 : (b.natAbs : Int) = b := by omega
                                              have h4 : (b.natAbs : Int) < ((2 ^ 100 : Nat) : Int) := by rw [h3]; exact h2
                                              exact Int.ofNat_lt.mp h4) (by decide) (by decide), q⟩
theorem mulW_of {a b : Int} (h1 : -(2 ^ 2000) < a) (h2 : a < 2 ^ 2000) (h3 : -(2 ^ 2000) < b) (h4 : b < 2 ^ 2000) : CMulW a b := by
  have e : ∀ x : Int, -(2 ^ 2000) < x → x < 2 ^ 2000 → x.natAbs < 2 ^ 2000 := fun x p q => by
    have e1 : ((2 ^ 2000 : Nat) : Int) = (2 : Int) ^ 2000 := by norm_cast
    have h : (x.natAbs : Int) < ((2 ^ 2000 : Nat) : Int) := by rw [e1]; omega
    exact Int.ofNat_lt.mp h
  exact wide_mul (e a h1 h2) (e b h3 h4) (by decide) (by decide) (by decide)
theorem rd_nn {R : Prop} (h : R) : V.non = V.non ∧ R := ⟨rfl, h⟩
theorem rd_len {p : Addr} {ys : List V} {R : List V → Prop} (h : SqL K H p ys) (q : R ys) : ∃ p' ys, [V.ref p] = [V.ref p'] ∧ (SqL K H p' ys ∨ SqT K H p' ys) ∧ R ys := ⟨p, ys, rfl, .inl h, q⟩
theorem rd_lenT {p : Addr} {ys : List V} {R : List V → Prop} (h : SqT K H p ys) (q : R ys) : ∃ p' ys, [V.ref p] = [V.ref p'] ∧ (SqL K H p' ys ∨ SqT K H p' ys) ∧ R ys := ⟨p, ys, rfl, .inr h, q⟩
theorem rd_iE {tr : TA} {R : It → Hp → Prop} (h : tr σ H fun vs H1 => ∃ a xs, vs = [.ref a] ∧ SqL K H1 a xs ∧ R (Ite K a) H1) : iEnum K tr σ H R := h
theorem rd_iL {R : It → Hp → Prop} (h : te σ H fun x H1 => ∃ a, x = .ref a ∧ (∃ xs, SqL K H1 a xs) ∧ R (Itl K a) H1) : iList K te σ H R := h
theorem rd_iT {R : It → Hp → Prop} (h : te σ H fun x H1 => ∃ a, x = .ref a ∧ (∃ xs, SqT K H1 a xs) ∧ R (Itt K a) H1) : iTup K te σ H R := h
theorem rd_iR1 {tr : TA} {R : It → Hp → Prop} (h : tr σ H fun vs H1 => ∃ j : Int, vs = [.int j] ∧ -(2 ^ 62) ≤ j ∧ j < 2 ^ 62 ∧ R (Itr 0 j.toNat) H1) : iRng1 tr σ H R := h
theorem rd_iR2 {tr : TA} {R : It → Hp → Prop} (h : tr σ H fun vs H1 => ∃ i j : Int, vs = [.int i, .int j] ∧ (-(2 ^ 62) ≤ i ∧ i < 2 ^ 62 ∧ -(2 ^ 62) ≤ j ∧ j < 2 ^ 62) ∧ R (Itr i (j - i).toNat) H1) : iRng2 tr σ H R := h
theorem rd_iR3 {tr : TA} {R : It → Hp → Prop} (h : tr σ H fun vs H1 => ∃ (i j c : Int) (n : Nat), vs = [.int i, .int j, .int c] ∧ RgC i j c n ∧ R (Itc i c n) H1) : iRng3 tr σ H R := h
theorem rd_iS {R : It → Hp → Prop} (h : te σ H fun v H1 => ∃ x, v = .str x ∧ R (Its x) H1) : iStr te σ H R := h
theorem rd_iZ {tr : TA} {R : It → Hp → Prop} (h : tr σ H fun vs H1 => ∃ a b xs ys, vs = [.ref a, .ref b] ∧ SqL K H1 a xs ∧ SqL K H1 b ys ∧ R (Itz K a b) H1) : iZip K tr σ H R := h
theorem rd_sl {r : V → Option Int → Option Int → Hp → VK → Prop} {tl th : TO} (h : te σ H fun x H1 => tl σ H1 fun l H2 => th σ H2 fun u H3 => r x l u H3 Q) : tSl r te tl th σ H Q := h
theorem rd_np {R : Option Int → Hp → Prop} (h : R none H) : tNoPart σ H R := h
theorem rd_pt {R : Option Int → Hp → Prop} (h : te σ H fun x H1 => ∃ i, x = .int i ∧ R (some i) H1) : tPart te σ H R := h
theorem rd_int {a : Int} {R : Int → Prop} (h : R a) : ∃ i, V.int a = .int i ∧ R i := ⟨a, rfl, h⟩
theorem rd_gtup {n : Nat} {tt : TGs} {a : Addr} {xs : List V} {R : L2.St → Hp → Prop} (h1 : SqT K H a xs) (h2 : xs.length = n) (q : tt xs σ H R) : gTup K n tt (.ref a) σ H R := ⟨a, xs, rfl, h1, h2, q⟩
theorem rd_gcons {tt : TGs} {r : List V} {R : L2.St → Hp → Prop} (q : g v σ H fun σ' H' => tt r σ' H' R) : gCons g tt (v :: r) σ H R := ⟨v, r, rfl, q⟩
theorem rd_gsub {to ti : TE} {ts : TSet} {R : L2.St → Hp → Prop} (h : to σ H fun o H1 => ti σ H1 fun i H2 => ts o i v H2 fun H3 => R σ H3) : gSub to ti ts v σ H R := h
theorem rd_gnil {R : L2.St → Hp → Prop} (q : R σ H) : gNil [] σ H R := ⟨rfl, q⟩
theorem rd_lc {wi : TI} {vs : List Nat} (h : wi σ H fun J H1 => ∀ D, H1 D = none → ∃ W : Nat → Nat → Hp → Prop, (∃ m, W 0 m (upd H1 D (.lst []))) ∧ ∀ i m H, W i m H →
  (J.stop i H ∧ Q (.ref D) H) ∨ (J.go i H ∧ ∃ Nx : Hp → Prop, (∀ H', Nx H' → ∃ m', m' < m ∧ W (i + 1) m' H') ∧ ∀ x H', J.yld i H x H' → g x (wipe σ vs) H' fun σ2 H2 => wipe σ2 vs = wipe σ vs ∧ c σ2 H2 fun b H3 =>
    if b = true then te σ2 H3 fun y H4 => ∃ acc, H4 D = some (.lst acc) ∧ acc.length < sizeLine ∧ Nx (upd H4 D (.lst (acc ++ [y]))) else Nx H3)) : tLc wi g c te vs σ H Q := h
theorem rd_yes (h : QB true H) : tYes σ H QB := h
theorem rd_dsetd {td ty tx : TE} (h : td σ H fun x H1 => ∃ a, x = .ref a ∧ IsD H1 a ∧ ty σ H1 fun y H2 => tx σ H2 fun z H3 => ∃ (kvs : List (Key × V)) (k : Key), H3 a = some (.dK kvs) ∧ y = kV k ∧ kvs.length < sizeLine ∧
  (∀ v, valV kvs k = some v → Q v H3) ∧ (valV kvs k = none → Q z (upd H3 a (.dK (putK kvs k z))))) : tDSetd td ty tx σ H Q := h
theorem rd_isD {a : Addr} {kvs : List (Key × V)} {R : Addr → Prop} (h : H a = some (.dK kvs)) (q : R a) : ∃ b, V.ref a = .ref b ∧ IsD H b ∧ R b := ⟨a, rfl, .inl ⟨kvs, .inl h⟩, q⟩
theorem rd_fldS {ta tv : TE} {f : Str} (h : tv σ H fun y H1 => ta σ H1 fun x H2 => ∃ a C dx fs, x = .ref a ∧ H2 a = some (.ins C dx fs) ∧ Cls K C ∧ NoAttr K C f ∧ fs.length < 1000 ∧ D.nx σ (upd H2 a (.ins C dx (putF f y fs)))) : sFld K ta tv f D σ H := h
theorem rd_newK {R : Addr → Prop} (h : ∀ p, H p = none → R p) : ∀ p, H p = none → R p := h
theorem dp_ints {ns : List Int} : DpAll K H (ns.map V.int) (ns.map PyData.int) := by
  induction ns with
  | nil => exact .nil
  | cons n r ih => exact .cons (.int n) ih
theorem rd_eqDI {p p' : Addr} {ns ms : List Int} (h1 : SqL K H p (ns.map V.int)) (h2 : SqL K H p' (ms.map V.int)) (s1 : SeqAt.shaped (.list (ns.map PyData.int)) = true) (s2 : SeqAt.shaped (.list (ms.map PyData.int)) = true)
    (q : Q (.bl (PyData.eqv (.list (ns.map PyData.int)) (.list (ms.map PyData.int)))) H) : rEqD K (.ref p) (.ref p') H Q := ⟨_, _, .lst h1 dp_ints, .lst h2 dp_ints, s1, s2, q⟩
theorem rd_neDI {p p' : Addr} {ns ms : List Int} (h1 : SqL K H p (ns.map V.int)) (h2 : SqL K H p' (ms.map V.int)) (s1 : SeqAt.shaped (.list (ns.map PyData.int)) = true) (s2 : SeqAt.shaped (.list (ms.map PyData.int)) = true)
    (q : Q (.bl (!PyData.eqv (.list (ns.map PyData.int)) (.list (ms.map PyData.int)))) H) : rNeD K (.ref p) (.ref p') H Q := ⟨_, _, .lst h1 dp_ints, .lst h2 dp_ints, s1, s2, q⟩
theorem rd_rep {l : Addr} {k : Int} {xs : List V} (h1 : H l = some (.lst xs)) (h2 : -(2 ^ 63) ≤ k) (h3 : k < 2 ^ 63) (h4 : xs.length * k.toNat ≤ sizeLine) (q : ∀ p, H p = none → Q (.ref p) (upd H p (.lst (List.replicate k.toNat xs).flatten))) : rRep (.ref l) (.int k) H Q :=
  ⟨l, k, xs, rfl, rfl, h1, h2, h3, h4, q⟩
theorem ite_d {p : Prop} [Decidable p] {A B : Prop} (h1 : p → A) (h2 : ¬ p → B) : if decide p = true then A else B := by
  by_cases h : p
  · rw [decide_eq_true h, if_pos rfl]; exact h1 h
  · rw [decide_eq_false h, if_neg Bool.false_ne_true]; exact h2 h
theorem ite_nd {p : Prop} [Decidable p] {A B : Prop} (h1 : ¬ p → A) (h2 : p → B) : if (!decide p) = true then A else B := by
  by_cases h : p
  · rw [decide_eq_true h]; exact iteF (h2 h)
  · rw [decide_eq_false h]; exact iteT (h1 h)
theorem ite_b {b : Bool} {A B : Prop} (h1 : b = true → A) (h2 : b = false → B) : if b = true then A else B := by
  cases b
  · exact iteF (h2 rfl)
  · exact iteT (h1 rfl)
theorem ite_nb {b : Bool} {A B : Prop} (h1 : b = false → A) (h2 : b = true → B) : if (!b) = true then A else B := by
  cases b
  · exact iteT (h1 rfl)
  · exact iteF (h2 rfl)
end
end JF

local macro_rules | `(tactic| walk_at "rs1") => `(tactic| first
  | with_reducible refine JF.rd_seq ?_ | with_reducible refine JF.rd_asg ?_ | with_reducible refine JF.rd_gname ?_
  | with_reducible refine JF.rd_var rfl ?_ | with_reducible refine JF.rd_c ?_ | with_reducible refine JF.rd_op ?_ | with_reducible refine JF.rd_I0 ?_
  | with_reducible refine JF.rd_if ?_ | with_reducible refine JF.rd_test ?_ | with_reducible refine JF.rd_bl ?_
  | with_reducible refine JF.rd_eqI ?_ | with_reducible refine JF.rd_neI ?_ | with_reducible refine JF.rd_eqS ?_ | with_reducible refine JF.rd_neS ?_
  | with_reducible refine JF.rd_cons ?_ | with_reducible refine JF.rd_nil ?_ | with_reducible refine JF.rd_call ?_ | with_reducible refine JF.rd_meth ?_ | with_reducible refine JF.rd_fld ?_ | with_reducible refine JF.rd_CB ?_
  | with_reducible refine JF.rd_ret ?_ | with_reducible refine JF.rd_drop ?_ | with_reducible refine JF.rd_next ?_ | with_reducible refine JF.rd_and ?_ | with_reducible refine JF.rd_or ?_ | with_reducible refine JF.rd_not ?_
  | with_reducible refine JF.rd_andV ?_ | with_reducible refine JF.rd_orV ?_ | with_reducible refine JF.rd_notV ?_ | with_reducible refine JF.rd_B ?_ | with_reducible refine JF.rd_un ?_ | with_reducible refine JF.rd_U ?_
  | with_reducible refine JF.rd_chain ?_ | with_reducible refine JF.rd_tup ?_ | with_reducible refine JF.rd_lst ?_ | with_reducible refine JF.rd_bm ?_ | with_reducible refine JF.rd_bm0 ?_
  | with_reducible refine JF.rd_dget ?_ | with_reducible refine JF.rd_din ?_ | with_reducible refine JF.rd_dput ?_ | with_reducible refine JF.rd_ifE ?_ | with_reducible refine JF.rd_retN ?_ | with_reducible refine JF.rd_brk ?_ | with_reducible refine JF.rd_cont ?_
  | with_reducible refine JF.iteT' ?_ | with_reducible refine JF.iteF' ?_ | with_reducible refine JF.iteNT ?_ | with_reducible refine JF.iteNF ?_ | ((with_reducible refine' JF.rd_fldR ?h1 ?h2 ?h3 ?h4 ?q); (case h1 => assumption); (case h2 => assumption); (case h3 => assumption); (case h4 => exact rfl))
  | with_reducible refine JF.rd_dsetd ?_ | with_reducible refine JF.rd_fldS ?_
  | with_reducible refine JF.rd_yes ?_ | with_reducible refine JF.rd_iE ?_ | with_reducible refine JF.rd_iL ?_ | with_reducible refine JF.rd_iT ?_ | with_reducible refine JF.rd_iR1 ?_ | with_reducible refine JF.rd_iR2 ?_ | with_reducible refine JF.rd_iR3 ?_ | with_reducible refine JF.rd_iS ?_ | with_reducible refine JF.rd_iZ ?_ | with_reducible refine JF.rd_sl ?_ | with_reducible refine JF.rd_np ?_ | with_reducible refine JF.rd_pt ?_ | with_reducible refine JF.rd_int ?_
  | ((with_reducible refine' JF.rd_gtup ?h1 ?h2 ?q); (case h1 => exact L2.SqT.of (by assumption)); (case h2 => exact rfl)) | with_reducible refine JF.rd_gcons ?_ | with_reducible refine JF.rd_gnil ?_ | with_reducible refine JF.rd_gsub ?_
  | with_reducible refine JF.rd_2I ?_ | ((with_reducible refine' JF.rd_ixT ?h1 ?h2 ?q); (case h1 => exact L2.SqT.of (by assumption)); (case h2 => exact rfl)) | ((with_reducible refine JF.rd_mod ?_ ?_); · decide) | ((with_reducible refine JF.rd_fdiv ?h1 ?h2 ?_); (case h1 => decide); (case h2 => decide)) | with_reducible refine JF.rd_nn ?_)
local macro_rules | `(tactic| walk_at "rd1") => `(tactic| first | walk_at "rs1" | with_reducible refine JF.rd_for ?_ | with_reducible refine JF.rd_lc ?_)
local macro_rules | `(tactic| walk_at "rh") => `(tactic| repeat (first | with_reducible refine JF.rd_seqF ?_ | with_reducible refine JF.rd_seqW ?_ | walk_at "rs1"))
local macro_rules | `(tactic| walk_at "rhi") => `(tactic| repeat (first | with_reducible refine JF.rd_seqF ?_ | with_reducible refine JF.rd_seqW ?_ | with_reducible refine JF.rd_seqI ?_ | walk_at "rs1"))
local macro_rules | `(tactic| walk_at "rs") => `(tactic| repeat walk_at "rs1")
local macro_rules | `(tactic| walk_at "rd") => `(tactic| repeat walk_at "rd1")
local macro_rules | `(tactic| walk_at "ne") => `(tactic| first | assumption | (apply Ne.symm; assumption))
local macro_rules | `(tactic| walk_at "hp") => `(tactic| first | assumption | exact L2.upd_same | ((with_reducible refine (L2.upd_ne ?h1).trans ?h2); (case h1 => walk_at "ne"); (case h2 => walk_at "hp")))

/-! ### readings are monotone in what is wanted; a cut between two statements -/
namespace JF
open PySem PySem.Spec PyProof.Rows L2
def MonE (t : TE) : Prop := ∀ σ H (Q Q' : VK), (∀ v H, Q v H → Q' v H) → t σ H Q → t σ H Q'
def MonT (t : TT) : Prop := ∀ σ H (Q Q' : Bool → Hp → Prop), (∀ v H, Q v H → Q' v H) → t σ H Q → t σ H Q'
def MonA (t : TA) : Prop := ∀ σ H (Q Q' : List V → Hp → Prop), (∀ v H, Q v H → Q' v H) → t σ H Q → t σ H Q'
def MonO (t : TO) : Prop := ∀ σ H (Q Q' : Option Int → Hp → Prop), (∀ v H, Q v H → Q' v H) → t σ H Q → t σ H Q'
def MonR (r : R2) : Prop := ∀ x y H (Q Q' : VK), (∀ v H, Q v H → Q' v H) → r x y H Q → r x y H Q'
def MonU (r : V → Hp → VK → Prop) : Prop := ∀ x H (Q Q' : VK), (∀ v H, Q v H → Q' v H) → r x H Q → r x H Q'
def MonC (r : List V → Hp → VK → Prop) : Prop := ∀ x H (Q Q' : VK), (∀ v H, Q v H → Q' v H) → r x H Q → r x H Q'
def MonM (r : V → List V → Hp → VK → Prop) : Prop := ∀ x y H (Q Q' : VK), (∀ v H, Q v H → Q' v H) → r x y H Q → r x y H Q'
def MonL (r : V → Option Int → Option Int → Hp → VK → Prop) : Prop := ∀ x y z H (Q Q' : VK), (∀ v H, Q v H → Q' v H) → r x y z H Q → r x y z H Q'
def MonG (g : TG) : Prop := ∀ v σ H (Q Q' : L2.St → Hp → Prop), (∀ σ H, Q σ H → Q' σ H) → g v σ H Q → g v σ H Q'
def MonGs (g : TGs) : Prop := ∀ v σ H (Q Q' : L2.St → Hp → Prop), (∀ σ H, Q σ H → Q' σ H) → g v σ H Q → g v σ H Q'
def MonI (t : TI) : Prop := ∀ σ H (Q Q' : It → Hp → Prop), (∀ v H, Q v H → Q' v H) → t σ H Q → t σ H Q'
def MonP (sp : Sp) : Prop := ∀ vs H (Q Q' : VK) E, (∀ v H, Q v H → Q' v H) → sp vs H Q E → sp vs H Q' E
def EndsLe (D D' : Ends) : Prop := (∀ σ H, D.nx σ H → D'.nx σ H) ∧ (∀ v H, D.rt v H → D'.rt v H) ∧ (∀ σ H, D.bk σ H → D'.bk σ H) ∧ (∀ σ H, D.ct σ H → D'.ct σ H)
def MonS (t : TS) : Prop := ∀ D D' σ H, EndsLe D D' → t D σ H → t D' σ H
section
variable {t u : TS} {te ta tb tc : TE} {c c' : TT} {g : TG} {gs : TGs} {tr : TA} {r r' : R2} {wi : TI}
/-- THE CUT: P holds between both -/
theorem rd_cut {D : Ends} {σ : L2.St} {H : Hp} (P : L2.St → Hp → Prop) (m : MonS t) (h1 : t { D with nx := P } σ H) (h2 : ∀ σ H, P σ H → u D σ H) : tSeq t u D σ H :=
  m { D with nx := P } { D with nx := u D } σ H ⟨h2, fun _ _ h => h, fun _ _ h => h, fun _ _ h => h⟩ h1
theorem rd_cutE {σ : L2.St} {H : Hp} {Q : VK} (P : VK) (m : MonE te) (h1 : te σ H P) (h2 : ∀ v H, P v H → Q v H) : te σ H Q := m _ _ _ _ h2 h1
theorem me_var {i : Nat} : MonE (tVar i) := fun σ H Q Q' h ⟨v, e, q⟩ => ⟨v, e, h _ _ q⟩
theorem me_c {v : V} : MonE (tC v) := fun σ H Q Q' h q => h _ _ q
theorem me_op (m : MonR r) (a : MonE ta) (b : MonE tb) : MonE (tOp r ta tb) := fun σ H Q Q' h q => a _ _ _ _ (fun _ _ z => b _ _ _ _ (fun _ _ z' => m _ _ _ _ _ h z') z) q
theorem me_un {r : V → Hp → VK → Prop} (m : MonU r) (a : MonE ta) : MonE (tUn r ta) := fun σ H Q Q' h q => a _ _ _ _ (fun _ _ z => m _ _ _ _ h z) q
theorem me_fld {K : PySem.W.Frag} {f : Str} (a : MonE ta) : MonE (tFld K ta f) := fun σ H Q Q' h q => a _ _ _ _ (fun _ _ ⟨x, C, dx, fs, v, e1, e2, e3, e4, e5, z⟩ => ⟨x, C, dx, fs, v, e1, e2, e3, e4, e5, h _ _ z⟩) q
theorem me_tup (a : MonA tr) : MonE (tTup tr) := fun σ H Q Q' h q => a _ _ _ _ (fun _ _ ⟨l, z⟩ => ⟨l, fun p hp => h _ _ (z p hp)⟩) q
theorem me_lst (a : MonA tr) : MonE (tLst tr) := fun σ H Q Q' h q => a _ _ _ _ (fun _ _ ⟨l, z⟩ => ⟨l, fun p hp => h _ _ (z p hp)⟩) q
theorem me_call {sp : Sp} {dvs : List V} {E : XK} (m : MonP sp) (a : MonA tr) : MonE (tCall sp dvs E tr) := fun σ H Q Q' h q => a _ _ _ _ (fun _ _ z => m _ _ _ _ _ h z) q
theorem me_meth {C : Addr} {n : Str} {sp : Sp} {dvs : List V} {E : XK} (m : MonP sp) (a : MonE ta) (b : MonA tr) : MonE (tMeth C n sp dvs E ta tr) := fun σ H Q Q' h q => a _ _ _ _ (fun _ _ ⟨x, dx, fs, e1, e2, e3, z⟩ => ⟨x, dx, fs, e1, e2, e3, b _ _ _ _ (fun _ _ y => m _ _ _ _ _ h y) z⟩) q
theorem me_cb {r : List V → Hp → VK → Prop} (m : MonC r) (a : MonA tr) : MonE (tCB r tr) := fun σ H Q Q' h q => a _ _ _ _ (fun _ _ z => m _ _ _ _ h z) q
theorem me_bm {K : PySem.W.Frag} {T : String} {r : V → List V → Hp → VK → Prop} (m : MonM r) (a : MonE ta) (b : MonA tr) : MonE (tBM K T r ta tr) := fun σ H Q Q' h q => a _ _ _ _ (fun _ _ ⟨y, z⟩ => ⟨y, b _ _ _ _ (fun _ _ z' => m _ _ _ _ _ h z') z⟩) q
theorem me_bm0 {K : PySem.W.Frag} {T : String} {r : V → List V → Hp → VK → Prop} (m : MonM r) (a : MonE ta) : MonE (tBM0 K T r ta) := fun σ H Q Q' h q => a _ _ _ _ (fun _ _ ⟨y, z⟩ => ⟨y, m _ _ _ _ _ h z⟩) q
theorem me_andV (a : MonE ta) (b : MonE tb) : MonE (tAndV ta tb) := fun σ H Q Q' h q => a _ _ _ _ (fun _ _ ⟨k, e, z⟩ => ⟨k, e, by cases k; exact h _ _ z; exact b _ _ _ _ h z⟩) q
theorem me_orV (a : MonE ta) (b : MonE tb) : MonE (tOrV ta tb) := fun σ H Q Q' h q => a _ _ _ _ (fun _ _ ⟨k, e, z⟩ => ⟨k, e, by cases k; exact b _ _ _ _ h z; exact h _ _ z⟩) q
theorem me_notV (a : MonE ta) : MonE (tNotV ta) := fun σ H Q Q' h q => a _ _ _ _ (fun _ _ ⟨k, e, z⟩ => ⟨k, e, h _ _ z⟩) q
theorem me_if (m : MonT c) (a : MonE ta) (b : MonE tb) : MonE (tIf c ta tb) := fun σ H Q Q' h q => m _ _ _ _ (fun k _ z => by cases k; exact b _ _ _ _ h z; exact a _ _ _ _ h z) q
theorem me_chain (m : MonR r) (m' : MonR r') (a : MonE ta) (b : MonE tb) (d : MonE tc) : MonE (tChain r r' ta tb tc) := fun σ H Q Q' h q =>
  a _ _ _ _ (fun _ _ z => b _ _ _ _ (fun _ _ z' => m _ _ _ _ _ (fun _ _ ⟨k, e, y⟩ => ⟨k, e, by cases k; exact h _ _ y; exact d _ _ _ _ (fun _ _ y' => m' _ _ _ _ _ h y') y⟩) z') z) q
theorem me_sl {rl : V → Option Int → Option Int → Hp → VK → Prop} {tl th : TO} (m : MonL rl) (a : MonE te) (b : MonO tl) (d : MonO th) : MonE (tSl rl te tl th) := fun σ H Q Q' h q => a _ _ _ _ (fun _ _ z => b _ _ _ _ (fun _ _ z => d _ _ _ _ (fun _ _ z => m _ _ _ _ _ _ h z) z) z) q
theorem me_dget {td ty : TE} (a : MonE td) (b : MonE ty) : MonE (tDGet td ty) := fun σ H Q Q' h q => a _ _ _ _ (fun _ _ z => b _ _ _ _ (fun _ _ ⟨x, v, e1, e2, z⟩ => ⟨x, v, e1, e2, h _ _ z⟩) z) q
theorem me_dget2 {td ty tx : TE} (a : MonE td) (b : MonE ty) (d : MonE tx) : MonE (tDGet2 td ty tx) := fun σ H Q Q' h q => a _ _ _ _ (fun _ _ ⟨x, e1, e2, z⟩ => ⟨x, e1, e2, b _ _ _ _ (fun _ _ z => d _ _ _ _ (fun _ _ ⟨o, e3, z⟩ => ⟨o, e3, h _ _ z⟩) z) z⟩) q
theorem me_din {td ty : TE} (a : MonE td) (b : MonE ty) : MonE (tDIn ty td) := fun σ H Q Q' h q => b _ _ _ _ (fun _ _ z => a _ _ _ _ (fun _ _ ⟨x, v, e1, e2, z⟩ => ⟨x, v, e1, e2, h _ _ z⟩) z) q
theorem me_dnotin {td ty : TE} (a : MonE td) (b : MonE ty) : MonE (tDNotIn ty td) := fun σ H Q Q' h q => b _ _ _ _ (fun _ _ z => a _ _ _ _ (fun _ _ ⟨x, v, e1, e2, z⟩ => ⟨x, v, e1, e2, h _ _ z⟩) z) q
theorem me_dsetd {td ty tx : TE} (a : MonE td) (b : MonE ty) (d : MonE tx) : MonE (tDSetd td ty tx) := fun σ H Q Q' h q =>
  a _ _ _ _ (fun _ _ ⟨x, e1, e2, z⟩ => ⟨x, e1, e2, b _ _ _ _ (fun _ _ z => d _ _ _ _ (fun _ _ ⟨kvs, k, e3, e4, e5, z1, z2⟩ => ⟨kvs, k, e3, e4, e5, fun v hv => h _ _ (z1 v hv), fun hv => h _ _ (z2 hv)⟩) z) z⟩) q
theorem mt_test' (a : MonE te) : MonT (tTest te) := fun σ H Q Q' h q => a _ _ _ _ (fun _ _ ⟨k, e, z⟩ => ⟨k, e, h _ _ z⟩) q
theorem mt_B (a : MonE te) : MonT (tB te) := fun σ H Q Q' h q => a _ _ _ _ (fun _ _ ⟨k, e, z⟩ => ⟨k, e, h _ _ z⟩) q
theorem mt_and (a : MonT c) (b : MonT c') : MonT (tAnd c c') := fun σ H Q Q' h q => a _ _ _ _ (fun k _ z => by cases k; exact h _ _ z; exact b _ _ _ _ h z) q
theorem mt_or (a : MonT c) (b : MonT c') : MonT (tOr c c') := fun σ H Q Q' h q => a _ _ _ _ (fun k _ z => by cases k; exact b _ _ _ _ h z; exact h _ _ z) q
theorem mt_not (a : MonT c) : MonT (tNot c) := fun σ H Q Q' h q => a _ _ _ _ (fun k _ z => h _ _ z) q
theorem ma_nil : MonA tNil := fun σ H Q Q' h q => h _ _ q
theorem ma_cons (a : MonE ta) (b : MonA tr) : MonA (tCons ta tr) := fun σ H Q Q' h q => a _ _ _ _ (fun _ _ z => b _ _ _ _ (fun _ _ y => h _ _ y) z) q
theorem mo_none : MonO tNoPart := fun σ H Q Q' h q => h _ _ q
theorem mo_some (a : MonE te) : MonO (tPart te) := fun σ H Q Q' h q => a _ _ _ _ (fun _ _ ⟨i, e, z⟩ => ⟨i, e, h _ _ z⟩) q
theorem mr_I0 {f : Int → Int → V} : MonR (rI0 f) := fun x y H Q Q' h ⟨i, j, a, b, q⟩ => ⟨i, j, a, b, h _ _ q⟩
theorem mr_I {C : Int → Int → Prop} {f : Int → Int → V} : MonR (rI C f) := fun x y H Q Q' h ⟨i, j, a, b, d, q⟩ => ⟨i, j, a, b, d, h _ _ q⟩
theorem mr_eq : MonR rEq := fun x y H Q Q' h ⟨a, q⟩ => ⟨a, h _ _ q⟩
theorem mr_ne : MonR rNe := fun x y H Q Q' h ⟨a, q⟩ => ⟨a, h _ _ q⟩
theorem mr_ixL {K : PySem.W.Frag} : MonR (rIxL K) := fun x y H Q Q' h ⟨p, xs, i, v, a, b, c, d, q⟩ => ⟨p, xs, i, v, a, b, c, d, h _ _ q⟩
theorem mr_ixT {K : PySem.W.Frag} : MonR (rIxT K) := fun x y H Q Q' h ⟨p, xs, i, v, a, b, c, d, q⟩ => ⟨p, xs, i, v, a, b, c, d, h _ _ q⟩
theorem mr_ixS : MonR rIxS := fun x y H Q Q' h ⟨p, xs, i, a, b, c, d, q⟩ => ⟨p, xs, i, a, b, c, d, h _ _ q⟩
theorem mr_cat : MonR rCat := fun x y H Q Q' h ⟨l, b, xs, zs, e1, e2, e3, e4, e5, q⟩ => ⟨l, b, xs, zs, e1, e2, e3, e4, e5, fun p hp => h _ _ (q p hp)⟩
theorem mr_in {K : PySem.W.Frag} {neg : Bool} : MonR (rIn K neg) := fun x y H Q Q' h ⟨p, xs, e1, e2, e3, e4, q⟩ => ⟨p, xs, e1, e2, e3, e4, h _ _ q⟩
theorem mr_isN : MonR (fun x y H Q => y = V.non ∧ Q (.bl (decide (x = .non))) H) := fun x y H Q Q' h ⟨a, q⟩ => ⟨a, h _ _ q⟩
theorem mr_notN : MonR (fun x y H Q => y = V.non ∧ Q (.bl (!decide (x = .non))) H) := fun x y H Q Q' h ⟨a, q⟩ => ⟨a, h _ _ q⟩
theorem mu_U {f : Int → V} : MonU (rU f) := fun x H Q Q' h ⟨i, a, q⟩ => ⟨i, a, h _ _ q⟩
theorem mc_len {K : PySem.W.Frag} : MonC (rLenS K) := fun x H Q Q' h ⟨p, ys, a, b, q⟩ => ⟨p, ys, a, b, h _ _ q⟩
theorem mc_isi {K : PySem.W.Frag} : MonC (rIsi K) := fun x H Q Q' h ⟨x', c, t, u, b, a1, a2, a3, a4, q⟩ => ⟨x', c, t, u, b, a1, a2, a3, a4, h _ _ q⟩
theorem mm_append : MonM rAppend := fun x y H Q Q' h ⟨l, xs, z, a, b, c, d, q⟩ => ⟨l, xs, z, a, b, c, d, h _ _ q⟩
theorem mg_name {i : Nat} : MonG (gName i) := fun v σ H Q Q' h q => h _ _ q
theorem mg_tup {K : PySem.W.Frag} {n : Nat} (m : MonGs gs) : MonG (gTup K n gs) := fun v σ H Q Q' h ⟨a, xs, e1, e2, e3, q⟩ => ⟨a, xs, e1, e2, e3, m _ _ _ _ _ h q⟩
theorem mgs_nil : MonGs gNil := fun v σ H Q Q' h ⟨e, q⟩ => ⟨e, h _ _ q⟩
theorem mgs_cons (a : MonG g) (b : MonGs gs) : MonGs (gCons g gs) := fun v σ H Q Q' h ⟨x, r, e, q⟩ => ⟨x, r, e, a _ _ _ _ _ (fun _ _ z => b _ _ _ _ _ h z) q⟩
theorem mi_L {K : PySem.W.Frag} (a : MonE te) : MonI (iList K te) := fun σ H Q Q' h q => a _ _ _ _ (fun _ _ ⟨x, e1, e2, z⟩ => ⟨x, e1, e2, h _ _ z⟩) q
theorem mi_T {K : PySem.W.Frag} (a : MonE te) : MonI (iTup K te) := fun σ H Q Q' h q => a _ _ _ _ (fun _ _ ⟨x, e1, e2, z⟩ => ⟨x, e1, e2, h _ _ z⟩) q
theorem mi_R1 (a : MonA tr) : MonI (iRng1 tr) := fun σ H Q Q' h q => a _ _ _ _ (fun _ _ ⟨j, e1, e2, e3, z⟩ => ⟨j, e1, e2, e3, h _ _ z⟩) q
theorem mi_R2 (a : MonA tr) : MonI (iRng2 tr) := fun σ H Q Q' h q => a _ _ _ _ (fun _ _ ⟨i, j, e1, e2, z⟩ => ⟨i, j, e1, e2, h _ _ z⟩) q
theorem mi_R3 (a : MonA tr) : MonI (iRng3 tr) := fun σ H Q Q' h q => a _ _ _ _ (fun _ _ ⟨i, j, c, n, e1, e2, z⟩ => ⟨i, j, c, n, e1, e2, h _ _ z⟩) q
theorem mi_E {K : PySem.W.Frag} (a : MonA tr) : MonI (iEnum K tr) := fun σ H Q Q' h q => a _ _ _ _ (fun _ _ ⟨x, xs, e1, e2, z⟩ => ⟨x, xs, e1, e2, h _ _ z⟩) q
theorem mi_S (a : MonE te) : MonI (iStr te) := fun σ H Q Q' h q => a _ _ _ _ (fun _ _ ⟨x, e1, z⟩ => ⟨x, e1, h _ _ z⟩) q
theorem mi_Z {K : PySem.W.Frag} (a : MonA tr) : MonI (iZip K tr) := fun σ H Q Q' h q => a _ _ _ _ (fun _ _ ⟨x, y, xs, ys, e1, e2, e3, z⟩ => ⟨x, y, xs, ys, e1, e2, e3, h _ _ z⟩) q
theorem EndsLe.seq {D D' : Ends} (h : EndsLe D D') {P P' : L2.St → Hp → Prop} (hp : ∀ σ H, P σ H → P' σ H) : EndsLe { D with nx := P } { D' with nx := P' } := ⟨hp, h.2.1, h.2.2.1, h.2.2.2⟩
theorem ms_next : MonS tNext := fun D D' σ H h q => h.1 _ _ q
theorem ms_seq (a : MonS t) (b : MonS u) : MonS (tSeq t u) := fun D D' σ H h q => a _ _ _ _ (h.seq fun _ _ z => b _ _ _ _ h z) q
theorem ms_asg (a : MonE te) (b : MonG g) : MonS (tAsg te g) := fun D D' σ H h q => a _ _ _ _ (fun _ _ z => b _ _ _ _ _ h.1 z) q
theorem ms_drop (a : MonE te) : MonS (tDrop te) := fun D D' σ H h q => a _ _ _ _ (fun _ _ z => h.1 _ _ z) q
theorem ms_ret (a : MonE te) : MonS (tRet te) := fun D D' σ H h q => a _ _ _ _ h.2.1 q
theorem ms_retN : MonS tRetN := fun D D' σ H h q => h.2.1 _ _ q
theorem ms_if (a : MonT c) (b : MonS t) (d : MonS u) : MonS (tIfS c t u) := fun D D' σ H h q => a _ _ _ _ (fun k _ z => by cases k; exact d _ _ _ _ h z; exact b _ _ _ _ h z) q
theorem ms_brk : MonS tBreak := fun D D' σ H h q => h.2.2.1 _ _ q
theorem ms_cont : MonS tCont := fun D D' σ H h q => h.2.2.2 _ _ q
theorem ms_never : MonS tNever := fun D D' σ H h q => q
theorem ms_dput {td ty tv : TE} (a : MonE td) (b : MonE ty) (d : MonE tv) : MonS (sDPut td ty tv) := fun D D' σ H h q => d _ _ _ _ (fun _ _ z => a _ _ _ _ (fun _ _ z => b _ _ _ _ (fun _ _ ⟨x, H4, e1, e2, z⟩ => ⟨x, H4, e1, e2, h.1 _ _ z⟩) z) z) q
theorem ms_fldS {K : PySem.W.Frag} {f : Str} (a : MonE ta) (b : MonE tb) : MonS (sFld K ta tb f) := fun D D' σ H h q => b _ _ _ _ (fun _ _ z => a _ _ _ _ (fun _ _ ⟨x, C, dx, fs, e1, e2, e3, e4, e5, z⟩ => ⟨x, C, dx, fs, e1, e2, e3, e4, e5, h.1 _ _ z⟩) z) q
theorem ms_for (a : MonI wi) (b : MonG g) (d : MonS t) : MonS (tFor wi g t) := fun D D' σ H h q =>
  a _ _ _ _ (fun J H1 ⟨W, w0, z⟩ => ⟨W, w0, fun i m σ H hw => by
    rcases z i m σ H hw with ⟨s, y⟩ | ⟨s, N, hN, y⟩
    · exact .inl ⟨s, h.1 _ _ y⟩
    · exact .inr ⟨s, N, hN, fun x H' hy => b _ _ _ _ _ (fun _ _ y' => d { D with nx := N, ct := N, bk := D.nx } { D' with nx := N, ct := N, bk := D'.nx } _ _ ⟨fun _ _ z => z, h.2.1, h.1, fun _ _ z => z⟩ y') (y x H' hy)⟩⟩) q
theorem ms_while (a : MonT c) (b : MonS t) : MonS (tWhile c t) := fun D D' σ H h ⟨W, w0, z⟩ => ⟨W, w0, fun m σ H hw => a _ _ _ _ (fun k H1 y => by
  cases k
  · exact h.1 _ _ y
  · obtain ⟨N, hN, y⟩ := y
    exact ⟨N, hN, b { D with nx := N, ct := N, bk := D.nx } { D' with nx := N, ct := N, bk := D'.nx } _ _ ⟨fun _ _ z => z, h.2.1, h.1, fun _ _ z => z⟩ y⟩) (z m σ H hw)⟩
theorem me_lc {te' : TE} {tt' : TT} {g' : TG} {vs : List Nat} (a : MonI wi) : MonE (tLc wi g' tt' te' vs) := fun σ H Q Q' h q => a _ _ _ _ (fun J H1 z D hD => by
  obtain ⟨W, w0, z⟩ := z D hD
  exact ⟨W, w0, fun i m H hw => (z i m H hw).imp (fun ⟨s, y⟩ => ⟨s, h _ _ y⟩) id⟩) q
theorem me_m1 {rm : V → List V → Hp → VK → Prop} (m : MonM rm) (a : MonE ta) (b : MonE tb) : MonE (tM1 rm ta tb) := fun σ H Q Q' h q => a _ _ _ _ (fun _ _ ⟨e, z⟩ => ⟨e, b _ _ _ _ (fun _ _ z' => m _ _ _ _ _ h z') z⟩) q
theorem mm_split : MonM (fun x xs H Q => ∃ a b, x = .str a ∧ xs = [.str b] ∧ (b.length == 0) = false ∧ a.length + 2 ≤ sizeLine ∧ rNewStrs (Txt.split a b) H Q) := fun x y H Q Q' h ⟨a, b, e1, e2, e3, e4, q⟩ => ⟨a, b, e1, e2, e3, e4, fun p hp => h _ _ (q p hp)⟩
end
end JF

local macro_rules | `(tactic| walk_at "mono1") => `(tactic| first | assumption | (with_reducible apply JF.me_var) | (with_reducible apply JF.me_c) | (with_reducible apply JF.me_op) | (with_reducible apply JF.me_un) | (with_reducible apply JF.me_fld) | (with_reducible apply JF.me_tup) | (with_reducible apply JF.me_lst) | (with_reducible apply JF.me_call) | (with_reducible apply JF.me_meth) | (with_reducible apply JF.me_cb) | (with_reducible apply JF.me_bm) | (with_reducible apply JF.me_bm0) | (with_reducible apply JF.me_andV) | (with_reducible apply JF.me_orV) | (with_reducible apply JF.me_notV) | (with_reducible apply JF.me_if) | (with_reducible apply JF.me_chain) | (with_reducible apply JF.me_sl) | (with_reducible apply JF.me_dget) | (with_reducible apply JF.me_dget2) | (with_reducible apply JF.me_din) | (with_reducible apply JF.me_dnotin) | (with_reducible apply JF.me_dsetd) | (with_reducible apply JF.me_lc) | (with_reducible apply JF.me_m1) | (with_reducible exact JF.mm_split) | (with_reducible apply JF.mt_test') | (with_reducible apply JF.mt_B) | (with_reducible apply JF.mt_and) | (with_reducible apply JF.mt_or) | (with_reducible apply JF.mt_not) | (with_reducible apply JF.ma_nil) | (with_reducible apply JF.ma_cons) | (with_reducible apply JF.mo_none) | (with_reducible apply JF.mo_some) | (with_reducible apply JF.mr_I0) | (with_reducible apply JF.mr_I) | (with_reducible apply JF.mr_eq) | (with_reducible apply JF.mr_ne) | (with_reducible apply JF.mr_ixL) | (with_reducible apply JF.mr_ixT) | (with_reducible apply JF.mr_ixS) | (with_reducible apply JF.mr_cat) | (with_reducible apply JF.mr_in) | (with_reducible apply JF.mr_isN) | (with_reducible apply JF.mr_notN) | (with_reducible apply JF.mu_U) | (with_reducible apply JF.mc_len) | (with_reducible apply JF.mc_isi) | (with_reducible apply JF.mm_append) | (with_reducible apply JF.mg_name) | (with_reducible apply JF.mg_tup) | (with_reducible apply JF.mgs_nil) | (with_reducible apply JF.mgs_cons) | (with_reducible apply JF.mi_L) | (with_reducible apply JF.mi_T) | (with_reducible apply JF.mi_R1) | (with_reducible apply JF.mi_R2) | (with_reducible apply JF.mi_R3) | (with_reducible apply JF.mi_E) | (with_reducible apply JF.mi_S) | (with_reducible apply JF.mi_Z) | (with_reducible apply JF.ms_next) | (with_reducible apply JF.ms_seq) | (with_reducible apply JF.ms_asg) | (with_reducible apply JF.ms_drop) | (with_reducible apply JF.ms_ret) | (with_reducible apply JF.ms_retN) | (with_reducible apply JF.ms_if) | (with_reducible apply JF.ms_brk) | (with_reducible apply JF.ms_cont) | (with_reducible apply JF.ms_never) | (with_reducible apply JF.ms_dput) | (with_reducible apply JF.ms_fldS) | (with_reducible apply JF.ms_for) | (with_reducible apply JF.ms_while))
local macro_rules | `(tactic| walk_at "mono") => `(tactic| repeat' walk_at "mono1")
/-! ### a grove in the heap -/
namespace JF
open PySem PySem.Spec PyProof.Rows L2
theorem nodup_sub_len {α : Type} [DecidableEq α] : ∀ (l m : List α), l.Nodup → (∀ x ∈ l, x ∈ m) → l.length ≤ m.length
  | [], m, _, _ => Nat.zero_le _
  | x :: l, m, h, hs => by
    rw [List.nodup_cons] at h
    have hx : x ∈ m := hs x List.mem_cons_self
    have ih := nodup_sub_len l (m.erase x) h.2 fun y hy => (List.mem_erase_of_ne (fun e => h.1 (by rw [← e]; exact hy))).mpr (hs y (List.mem_cons_of_mem _ hy))
    rw [List.length_erase_of_mem hx] at ih
    have : 0 < m.length := List.length_pos_of_mem hx
    show l.length + 1 ≤ m.length
    omega
theorem states_len {l : List Int} (h : l.Nodup) (hs : ∀ x ∈ l, 0 ≤ x ∧ x ≤ 7) : l.length ≤ 8 :=
  nodup_sub_len l [0, 1, 2, 3, 4, 5, 6, 7] h fun x hx => by
    have := hs x hx
    simp only [List.mem_cons, List.not_mem_nil, or_false]
    omega
structure GA where
  g : Addr
  dx : Addr
  dn : Addr
  dm : Addr
  dl : Addr
  dv : Addr
  ds : Addr
  dp : Addr
def GA.flds (a : GA) : List (Str × V) := [("numbers", .ref a.dn), ("made", .ref a.dm), ("levels", .ref a.dl), ("lives", .ref a.dv), ("spans", .ref a.ds), ("plain", .ref a.dp)]
def GA.m5 (a : GA) : List Addr := [a.dn, a.dm, a.dl, a.dv, a.ds]
def GA.muts (a : GA) (rows : List (Int × Addr)) : List Addr := a.m5 ++ a.dp :: rows.map (·.2)
/-- a span as a value -/
def SpanV (H : Hp) (v : V) : Option Box → Prop
  | none => v = .non
  | some b => ∃ p, v = .ref p ∧ H p = some (.tup [.int b.1, .int b.2.1, .int b.2.2.1, .int b.2.2.2])
theorem SpanV.keep {H H' : Hp} {v : V} {o : Option Box} (h : SpanV H v o) (k : ∀ b xs, H b = some (.tup xs) → H' b = some (.tup xs)) : SpanV H' v o := by
  cases o with
  | none => exact h
  | some b =>
    obtain ⟨p, e, hp⟩ := h
    exact ⟨p, e, k _ _ hp⟩
/-- what the lists of a grove hold -/
structure GData (H : Hp) (a : GA) (q : List Sq) (tups : List Addr) (mk : List (List Int)) (spt : List V) : Prop where
  hn : H a.dn = some (.dT (kvsOf mk 0))
  hm : H a.dm = some (.lst (tups.map V.ref))
  hl : H a.dl = some (.lst (q.map fun S => V.int (S.level : Int)))
  hv : H a.dv = some (.lst (q.map fun S => V.int S.lives))
  hs : H a.ds = some (.lst spt)
  lt : tups.length = q.length
  lm : mk.length = q.length
  ls : spt.length = q.length
  tu : ∀ (i : Nat) t m, tups[i]? = some t → mk[i]? = some m → H t = some (.tup (m.map V.int))
  sp : ∀ (i : Nat) v S, spt[i]? = some v → q[i]? = some S → SpanV H v S.span
  md : ∀ (i : Nat) m S, mk[i]? = some m → q[i]? = some S → Made q S m
structure GAt (C : Addr) (H : Hp) (a : GA) (rows : List (Int × Addr)) (q : List Sq) : Prop where
  ob : H a.g = some (.ins C a.dx a.flds)
  da : ∃ tups mk spt, GData H a q tups mk spt
  wf : ∀ S ∈ q, S.wf
  qn : q.Nodup
  pl : H a.dp = some (.dK (rows.map fun sa => ((Sum.inl sa.1 : Key), V.ref sa.2)))
  nd : (a.g :: a.muts rows).Nodup
  rn : (rows.map (·.1)).Nodup
  rs : ∀ s ∈ rows.map (·.1), 0 ≤ s ∧ s ≤ 7
  ro : ∀ s b, (s, b) ∈ rows → ∃ ns : List Nat, H b = some (.lst (ns.map fun (n : Nat) => V.int (n : Int))) ∧ ∀ (i : Nat) n, ns[i]? = some n → q[n]? = some (Sq.even i s)
/-- all but what stands at these addresses is as it was -/
def Fr (S : List Addr) (H H' : Hp) : Prop := ∀ b o, H b = some o → b ∉ S → H' b = some o
theorem Fr.refl (S : List Addr) (H : Hp) : Fr S H H := fun _ _ h _ => h
theorem Fr.trans {S : List Addr} {H H1 H2 : Hp} (x : Fr S H H1) (y : Fr S H1 H2) : Fr S H H2 := fun b o h n => y b o (x b o h n) n
theorem Fr.mono {S S' : List Addr} {H H' : Hp} (x : Fr S H H') (h : ∀ b ∈ S, b ∈ S') : Fr S' H H' := fun b o e n => x b o e fun z => n (h b z)
theorem fr_of {S : List Addr} {H H' : Hp} (x : Same H H') : Fr S H H' := fun b o e _ => x b o e
def HO.still : HO → Prop
  | .tup _ | .ins _ _ _ | .own _ => True
  | _ => False
/-- a grove stands where its own lists, the tuples and the instances are kept -/
theorem GAt.keep {C : Addr} {H H' : Hp} {a : GA} {rows : List (Int × Addr)} {q : List Sq} (G : GAt C H a rows q) (k : ∀ b o, H b = some o → HO.still o ∨ b ∈ a.muts rows → H' b = some o) : GAt C H' a rows q := by
  obtain ⟨tups, mk, spt, D⟩ := G.da
  have mem : ∀ b, b ∈ a.m5 → b ∈ a.muts rows := fun b h => List.mem_append_left _ h
  refine ⟨k _ _ G.ob (.inl trivial), ⟨tups, mk, spt, k _ _ D.hn (.inr (mem _ (by simp [GA.m5]))), k _ _ D.hm (.inr (mem _ (by simp [GA.m5]))), k _ _ D.hl (.inr (mem _ (by simp [GA.m5]))), k _ _ D.hv (.inr (mem _ (by simp [GA.m5]))), k _ _ D.hs (.inr (mem _ (by simp [GA.m5]))), D.lt, D.lm, D.ls,
    fun i t m h1 h2 => k _ _ (D.tu i t m h1 h2) (.inl trivial), fun i v S h1 h2 => (D.sp i v S h1 h2).keep fun b xs e => k _ _ e (.inl trivial), D.md⟩, G.wf, G.qn, k _ _ G.pl (.inr (by simp [GA.muts])), G.nd, G.rn, G.rs, fun s b h => ?_⟩
  obtain ⟨ns, h1, h2⟩ := G.ro s b h
  refine ⟨ns, k _ _ h1 (.inr ?_), h2⟩
  unfold GA.muts
  exact List.mem_append_right _ (List.mem_cons_of_mem _ (List.mem_map_of_mem (f := fun sa : Int × Addr => sa.2) h))
theorem GAt.same {C : Addr} {H H' : Hp} {a : GA} {rows : List (Int × Addr)} {q : List Sq} (G : GAt C H a rows q) (s : Same H H') : GAt C H' a rows q := G.keep fun b o e _ => s b o e
/-- a new object is laid -/
theorem same_upd {H : Hp} {p : Addr} {o : HO} (h : H p = none) : Same H (upd H p o) := fun b u e => by rw [upd_ne (ne_of_none e h)]; exact e
/-- a list, a dict of the asker's own is changed -/
theorem GAt.upd {C : Addr} {H : Hp} {a : GA} {rows : List (Int × Addr)} {q : List Sq} {p : Addr} {o : HO} (G : GAt C H a rows q) (hp : ∀ u, H p = some u → ¬ HO.still u) (hn : p ∉ a.muts rows) : GAt C (upd H p o) a rows q :=
  G.keep fun b u e h => by
    rw [upd_ne]
    · exact e
    · rintro rfl
      rcases h with h | h
      · exact hp u e h
      · exact hn h
/-- a grove goes on: what was is as it was, squares were added -/
structure GStep (C : Addr) (H : Hp) (a : GA) (rows : List (Int × Addr)) (q : List Sq) (H' : Hp) (rows' : List (Int × Addr)) (q' : List Sq) : Prop where
  gat : GAt C H' a rows' q'
  pre : q <+: q'
  fr : Fr (a.muts rows) H H'
  new : ∀ b ∈ a.muts rows', b ∈ a.muts rows ∨ H b = none
theorem GStep.refl {C : Addr} {H : Hp} {a : GA} {rows : List (Int × Addr)} {q : List Sq} (G : GAt C H a rows q) : GStep C H a rows q H rows q := ⟨G, List.prefix_refl _, Fr.refl _ _, fun _ h => .inl h⟩
theorem GStep.trans {C : Addr} {H H1 H2 : Hp} {a : GA} {rows r1 r2 : List (Int × Addr)} {q q1 q2 : List Sq} (x : GStep C H a rows q H1 r1 q1) (y : GStep C H1 a r1 q1 H2 r2 q2) : GStep C H a rows q H2 r2 q2 := by
  refine ⟨y.gat, x.pre.trans y.pre, fun b o e n => ?_, fun b h => ?_⟩
  · refine y.fr b o (x.fr b o e n) fun z => ?_
    rcases x.new b z with z | z
    · exact n z
    · rw [e] at z; cases z
  · rcases y.new b h with z | z
    · exact x.new b z
    · by_cases hb : b ∈ a.muts rows
      · exact .inl hb
      · right
        cases q : H b with
        | none => rfl
        | some o =>
          rw [x.fr b o q hb] at z
          cases z
/-- the asker's own things are kept, and stay the asker's own -/
theorem GStep.own {C : Addr} {H H1 : Hp} {a : GA} {rows r1 : List (Int × Addr)} {q q1 : List Sq} (x : GStep C H a rows q H1 r1 q1) {b : Addr} {o : HO} (h : H b = some o) (n : b ∉ a.muts rows) : H1 b = some o ∧ b ∉ a.muts r1 :=
  ⟨x.fr b o h n, fun z => (x.new b z).elim n fun z => by rw [h] at z; cases z⟩
theorem pre_get {q q' : List Sq} (h : q <+: q') {n : Nat} {S : Sq} (e : q[n]? = some S) : q'[n]? = some S := by
  obtain ⟨t, rfl⟩ := h
  exact getElem?_app e t
theorem ne_app {H : Hp} {b : Addr} {o : HO} {S : List Addr} (h : H b = some o) (hs : ∀ c ∈ S, ∀ u, H c = some u → o ≠ u) (hn : ∀ c ∈ S, ∃ u, H c = some u) : b ∉ S := fun z => by
  obtain ⟨u, e⟩ := hn b z
  refine hs b z u e ?_
  rw [h] at e
  exact Option.some.inj e
/-- a tuple is none of a grove's own lists -/
theorem GAt.tup_out {C : Addr} {H : Hp} {a : GA} {rows : List (Int × Addr)} {q : List Sq} (G : GAt C H a rows q) {b : Addr} {xs : List V} (h : H b = some (.tup xs)) : b ∉ a.muts rows := by
  obtain ⟨tups, mk, spt, D⟩ := G.da
  intro z
  unfold GA.muts GA.m5 at z
  simp only [List.cons_append, List.nil_append, List.mem_cons, List.mem_map] at z
  rcases z with rfl | rfl | rfl | rfl | rfl | rfl | ⟨sa, hm, rfl⟩
  · rw [D.hn] at h; cases h
  · rw [D.hm] at h; cases h
  · rw [D.hl] at h; cases h
  · rw [D.hv] at h; cases h
  · rw [D.hs] at h; cases h
  · rw [G.pl] at h; cases h
  · obtain ⟨ns, e, _⟩ := G.ro sa.1 sa.2 hm
    rw [e] at h; cases h
/-- what is new is none of them -/
theorem GAt.new_out {C : Addr} {H : Hp} {a : GA} {rows : List (Int × Addr)} {q : List Sq} (G : GAt C H a rows q) {b : Addr} (h : H b = none) : b ∉ a.muts rows := by
  obtain ⟨tups, mk, spt, D⟩ := G.da
  intro z
  unfold GA.muts GA.m5 at z
  simp only [List.cons_append, List.nil_append, List.mem_cons, List.mem_map] at z
  rcases z with rfl | rfl | rfl | rfl | rfl | rfl | ⟨sa, hm, rfl⟩
  · rw [D.hn] at h; cases h
  · rw [D.hm] at h; cases h
  · rw [D.hl] at h; cases h
  · rw [D.hv] at h; cases h
  · rw [D.hs] at h; cases h
  · rw [G.pl] at h; cases h
  · obtain ⟨ns, e, _⟩ := G.ro sa.1 sa.2 hm
    rw [e] at h; cases h
end JF

/-! ### the grove's small defs -/
namespace JF
open PySem PySem.Spec PyProof.Rows L2
section
variable {P : Program} {w : World} {K : PySem.W.Frag} {mg : Str → Option Value} {base : Heap}
/-- is_whole of a whole number, a truth, a text, None -/
def wholeV : V → Bool
  | .int _ => true
  | _ => false
def sp_is_whole : Sp := fun vs H Q _ => ∃ x : V, vs = [x] ∧ ((∃ i, x = .int i) ∨ (∃ b, x = .bl b) ∨ (∃ z, x = .str z) ∨ x = .non) ∧ Q (.bl (wholeV x)) H
theorem isi_ty {H : Hp} {Q : VK} {x : V} {a b : String} {r : Bool} (h : TyX K H x (.type a)) (k : kitB a b = some r) (q : Q (.bl r) H) : rIsi K [x, .ty b] H Q :=
  ⟨x, .ty b, _, _, r, rfl, .ty b, h, kit_ty k, q⟩
theorem ok_is_whole (T : Env fa fn K mg) : Good P w K mg base CX0 1 ("is_whole", none) ["thing"] sp_is_whole := by
  refine good_mk T 0 (d := d_is_whole) (N := ["thing"]) (ps := ["thing"]) rfl rfl sc_is_whole (fun _ _ _ _ _ _ us hl => match us, hl with | [_], _ => rfl) (fun vs H Q E h => ?_) (fun f cdv A outer s H vs Q E hr h => ?_)
  · obtain ⟨x, rfl, _⟩ := h; rfl
  · obtain ⟨x, rfl, hx, k⟩ := h
    refine ⟨_, (pss_one (ps_ret (pe_and (pe_callB (call_isiK K rfl) (by rfl) (T.free 1) (by decide +kernel) (pa_cons (pv 0) (pa_cons (pe_bltn (v := V.ty "int") rfl (T.free 2) (by decide +kernel) rfl) pa_nil))) (pe_one (pe_not (pe_callB (call_isiK K rfl) (by rfl) (T.free 1) (by decide +kernel) (pa_cons (pv 0) (pa_cons (pe_bltn (v := V.ty "bool") rfl (T.free 0) (by decide +kernel) rfl) pa_nil)))))))), ?_⟩
    walk_at "rd"
    rcases hx with ⟨i, rfl⟩ | ⟨b, rfl⟩ | ⟨z, rfl⟩ | rfl
    · refine isi_ty (.base (.int i)) (by decide +kernel : kitB "int" "int" = some true) ?_
      walk_at "rd"
      refine isi_ty (.base (.int i)) (by decide +kernel : kitB "int" "bool" = some false) ?_
      walk_at "rd"
      exact k
    · refine isi_ty (.base (.bl b)) (by decide +kernel : kitB "bool" "int" = some true) ?_
      walk_at "rd"
      refine isi_ty (.base (.bl b)) (by decide +kernel : kitB "bool" "bool" = some true) ?_
      walk_at "rd"
      exact k
    · refine isi_ty (.base (.str z)) (by decide +kernel : kitB "str" "int" = some false) ?_
      walk_at "rd"
      exact k
    · refine isi_ty (.base .non) (by decide +kernel : kitB "NoneType" "int" = some false) ?_
      walk_at "rd"
      exact k
/-! ### a state -/
def stateV : V → Bool
  | .int i => decide (0 ≤ i) && decide (i ≤ 7)
  | _ => false
theorem stateV_ok {s : Int} (h0 : 0 ≤ s) (h7 : s ≤ 7) : stateV (.int s) = true := by show (decide (0 ≤ s) && decide (s ≤ 7)) = true; rw [decide_eq_true h0, decide_eq_true h7]; rfl
def sp_is_state : Sp := fun vs H Q _ => ∃ x : V, vs = [x] ∧ ((∃ i, x = .int i) ∨ (∃ b, x = .bl b) ∨ (∃ z, x = .str z) ∨ x = .non) ∧ Q (.bl (stateV x)) H
/-! ### boxes -/
def sp_round_both : Sp := fun vs H Q _ => ∃ (v : V) (o : Option Box) (p : Addr) (b : Box), vs = [v, .ref p] ∧ SpanV H v o ∧ SpanV H (.ref p) (some b) ∧ ∀ H' u, Same H H' → SpanV H' u (some (rb o b)) → Q u H'
theorem min_if (a b : Int) : (if b < a then b else a) = min a b := by rw [Int.min_def]; split <;> split <;> omega
theorem max_if (a b : Int) : (if b > a then b else a) = max a b := by rw [Int.max_def]; split <;> split <;> omega
/-! ### the span of four -/
def acc4 (half : Int) (os : List (Option Box)) : Nat → Option Box
  | 0 => none
  | k + 1 => r4step half (k : Int) (acc4 half os k) (os.getD k none)
def sp_round_four : Sp := fun vs H Q _ => ∃ (p : Addr) (us : List V) (os : List (Option Box)) (half : Int), vs = [.ref p, .int half] ∧ H p = some (.lst us) ∧ us.length = 4 ∧ os.length = 4 ∧ (∀ (i : Nat) v o, us[i]? = some v → os[i]? = some o → SpanV H v o) ∧
  0 ≤ half ∧ half < 2 ^ 64 ∧ ∀ H' u, Same H H' → SpanV H' u (acc4 half os 4) → Q u H'
theorem half_ok {h x : Int} (h0 : 0 ≤ h) (h1 : h < 2 ^ 64) (x0 : 0 ≤ x) (x1 : x < 4) : CMulW h x := by
  have e1 : (2 : Int) ^ 64 ≤ 2 ^ 2000 := by decide +kernel
  have e2 : (4 : Int) ≤ 2 ^ 2000 := by decide +kernel
  exact mulW_of (by omega) (by omega) (by omega) (by omega)
end
end JF

/-! ### the grove's methods: kept, cell, knit -/
namespace JF
open PySem PySem.Spec PyProof.Rows L2
/-- the class stands at -/
abbrev CG (K : PySem.W.Frag) : Addr := He.ga K "Grove"
theorem nd_of {a : GA} {rows : List (Int × Addr)} (h : (a.g :: a.muts rows).Nodup) :
    (a.g ≠ a.dn ∧ a.g ≠ a.dm ∧ a.g ≠ a.dl ∧ a.g ≠ a.dv ∧ a.g ≠ a.ds ∧ a.g ≠ a.dp) ∧ (a.dn ≠ a.dm ∧ a.dn ≠ a.dl ∧ a.dn ≠ a.dv ∧ a.dn ≠ a.ds ∧ a.dn ≠ a.dp) ∧ (a.dm ≠ a.dl ∧ a.dm ≠ a.dv ∧ a.dm ≠ a.ds ∧ a.dm ≠ a.dp) ∧ (a.dl ≠ a.dv ∧ a.dl ≠ a.ds ∧ a.dl ≠ a.dp) ∧ (a.dv ≠ a.ds ∧ a.dv ≠ a.dp) ∧ a.ds ≠ a.dp ∧
      ∀ s b, (s, b) ∈ rows → b ≠ a.g ∧ b ≠ a.dn ∧ b ≠ a.dm ∧ b ≠ a.dl ∧ b ≠ a.dv ∧ b ≠ a.ds ∧ b ≠ a.dp := by
  simp only [GA.muts, GA.m5, List.cons_append, List.nil_append, List.nodup_cons, List.mem_cons, not_or] at h
  obtain ⟨⟨g1, g2, g3, g4, g5, g6, g7⟩, ⟨n1, n2, n3, n4, n5, n6⟩, ⟨m1, m2, m3, m4, m5⟩, ⟨l1, l2, l3, l4⟩, ⟨v1, v2, v3⟩, ⟨s1, s2⟩, p1, _⟩ := h
  refine ⟨⟨g1, g2, g3, g4, g5, g6⟩, ⟨n1, n2, n3, n4, n5⟩, ⟨m1, m2, m3, m4⟩, ⟨l1, l2, l3⟩, ⟨v1, v2⟩, s1, fun s b hb => ?_⟩
  have hm : b ∈ rows.map (·.2) := List.mem_map_of_mem (f := fun sa : Int × Addr => sa.2) hb
  exact ⟨fun z => g7 (z ▸ hm), fun z => n6 (z ▸ hm), fun z => m5 (z ▸ hm), fun z => l4 (z ▸ hm), fun z => v3 (z ▸ hm), fun z => s2 (z ▸ hm), fun z => p1 (z ▸ hm)⟩
theorem inl_kV (m : List Int) : (m.map (Sum.inl : Int → Key)).map kV = m.map V.int := by
  rw [List.map_map]; rfl
theorem snoc_get {α β : Type} {l : List α} {x : α} {l' : List β} {y : β} (hl : l.length = l'.length) {i : Nat} {u : α} {v : β} (h1 : (l ++ [x])[i]? = some u) (h2 : (l' ++ [y])[i]? = some v) : (l[i]? = some u ∧ l'[i]? = some v) ∨ (i = l.length ∧ u = x ∧ v = y) := by
  by_cases h : i < l.length
  · rw [List.getElem?_append_left h] at h1
    rw [List.getElem?_append_left (by omega)] at h2
    exact .inl ⟨h1, h2⟩
  · have hi : i < (l ++ [x]).length := (List.getElem?_eq_some_iff.mp h1).1
    have e : i = l.length := by simp at hi; omega
    subst e
    simp at h1
    rw [hl] at h2
    simp at h2
    exact .inr ⟨rfl, h1.symm, h2.symm⟩
/-- a square that is there stands in the dict by its own number; one that is not there does not -/
theorem look_of {q : List Sq} {mk : List (List Int)} (qn : q.Nodup) (lm : mk.length = q.length) (md : ∀ (i : Nat) m S, mk[i]? = some m → q[i]? = some S → Made q S m) {S : Sq} {m : List Int} (hm : Made q S m) :
    (∀ n, lookI mk m 0 = some n → q[n]? = some S) ∧ (lookI mk m 0 = none → S ∉ q) := by
  constructor
  · intro n h
    obtain ⟨_, h2⟩ := lookI_some h
    simp only [Nat.sub_zero] at h2
    have hn : n < q.length := by rw [← lm]; exact (List.getElem?_eq_some_iff.mp h2).1
    have e : q[n]? = some q[n] := by simp [hn]
    rw [e]
    exact congrArg some (made_same (md n m _ h2 e) hm)
  · intro h hS
    obtain ⟨n, hn, e⟩ := List.mem_iff_getElem.mp hS
    have hn' : n < mk.length := by omega
    have e1 : mk[n]? = some mk[n] := by simp [hn']
    have e2 : q[n]? = some S := by simp [hn, e]
    refine lookI_none h ?_
    rw [made_inj qn hm (md n _ S e1 e2)]
    exact List.getElem_mem hn'
/-- the heap behind kept -/
theorem gat_kept {C : Addr} {H H' : Hp} {a : GA} {rows : List (Int × Addr)} {q : List Sq} {tups : List Addr} {mk : List (List Int)} {spt : List V} {S : Sq} {t : Addr} {m : List Int} {v : V} (G : GAt C H a rows q) (D : GData H a q tups mk spt)
    (ht : H t = some (.tup (m.map V.int))) (hm : Made q S m) (hw : S.wf) (hS : S ∉ q) (hv : SpanV H v S.span)
    (h1 : H' a.dn = some (.dT (kvsOf (mk ++ [m]) 0))) (h2 : H' a.dm = some (.lst ((tups ++ [t]).map V.ref))) (h3 : H' a.dl = some (.lst ((q ++ [S]).map fun S => V.int (S.level : Int)))) (h4 : H' a.dv = some (.lst ((q ++ [S]).map fun S => V.int S.lives))) (h5 : H' a.ds = some (.lst (spt ++ [v])))
    (fr : Fr a.m5 H H') : GAt C H' a rows (q ++ [S]) := by
  obtain ⟨⟨g1, g2, g3, g4, g5, g6⟩, ⟨n1, n2, n3, n4, n5⟩, ⟨m1, m2, m3, m4⟩, ⟨l1, l2, l3⟩, ⟨v1, v2⟩, s1, hr⟩ := nd_of G.nd
  have out : ∀ b xs, H b = some (.tup xs) → H' b = some (.tup xs) := fun b xs e => fr b _ e fun z => G.tup_out e (List.mem_append_left _ z)
  refine ⟨fr _ _ G.ob (by simp [GA.m5, g1, g2, g3, g4, g5]), ⟨tups ++ [t], mk ++ [m], spt ++ [v], h1, h2, h3, h4, h5, by simp [D.lt], by simp [D.lm], by simp [D.ls], fun i t' m' e1 e2 => ?_, fun i v' S' e1 e2 => ?_, fun i m' S' e1 e2 => ?_⟩, fun S' h => ?_, ?_, fr _ _ G.pl (by simp [GA.m5, Ne.symm n5, Ne.symm m4, Ne.symm l3, Ne.symm v2, Ne.symm s1]), G.nd, G.rn, G.rs, fun s b hb => ?_⟩
  · rcases snoc_get (by rw [D.lt, D.lm]) e1 e2 with ⟨e1, e2⟩ | ⟨_, rfl, rfl⟩
    · exact out _ _ (D.tu i t' m' e1 e2)
    · exact out _ _ ht
  · rcases snoc_get D.ls e1 e2 with ⟨e1, e2⟩ | ⟨_, rfl, rfl⟩
    · exact (D.sp i v' S' e1 e2).keep out
    · exact hv.keep out
  · rcases snoc_get D.lm e1 e2 with ⟨e1, e2⟩ | ⟨_, rfl, rfl⟩
    · exact (D.md i m' S' e1 e2).app _
    · exact hm.app _
  · rcases List.mem_append.mp h with h | h
    · exact G.wf S' h
    · simp only [List.mem_singleton] at h; subst h; exact hw
  · rw [List.nodup_append]
    refine ⟨G.qn, by simp, fun x hx y hy e => ?_⟩
    simp only [List.mem_singleton] at hy
    subst hy
    exact hS (e ▸ hx)
  · obtain ⟨ns, e, k⟩ := G.ro s b hb
    obtain ⟨_, b1, b2, b3, b4, b5, _⟩ := hr s b hb
    refine ⟨ns, fr _ _ e (by simp [GA.m5, b1, b2, b3, b4, b5]), fun i n hn => getElem?_app (k i n hn) _⟩
section
variable {P : Program} {w : World} {K : PySem.W.Frag} {mg : Str → Option Value} {base : Heap}
def sp_kept (C : Addr) : Sp := fun vs H Q _ => ∃ (a : GA) (rows : List (Int × Addr)) (q : List Sq) (S : Sq) (t : Addr) (m : List Int) (v : V), vs = [.ref a.g, .ref t, .int (S.level : Int), .int S.lives, v] ∧ GAt C H a rows q ∧ H t = some (.tup (m.map V.int)) ∧ Made q S m ∧ S.wf ∧ S ∉ q ∧ SpanV H v S.span ∧ q.length < 16000000 ∧
  ∀ H', GAt C H' a rows (q ++ [S]) → Fr a.m5 H H' → Q (.int (q.length : Int)) H'
theorem sizeBig : 16000000 < sizeLine := by decide
/-! ### cell and knit -/
theorem take_snoc {α : Type} {l : List α} {i : Nat} {v : α} (h : l[i]? = some v) : l.take (i + 1) = l.take i ++ [v] := by
  rw [List.take_add_one, h]; rfl
def sp_cell (C : Addr) : Sp := fun vs H Q _ => ∃ (a : GA) (rows : List (Int × Addr)) (q : List Sq) (s : Int), vs = [.ref a.g, .int s] ∧ GAt C H a rows q ∧ 0 ≤ s ∧ s ≤ 7 ∧ q.length < 16000000 ∧
  ∀ H' q' (n : Nat), GAt C H' a rows q' → q <+: q' → q'.length ≤ q.length + 1 → q'[n]? = some (.leaf s) → Fr a.m5 H H' → Q (.int (n : Int)) H'
def sp_knit (C : Addr) : Sp := fun vs H Q _ => ∃ (a : GA) (rows : List (Int × Addr)) (q : List Sq) (A B C' D : Sq) (na nb nc nd : Nat), vs = [.ref a.g, .int (na : Int), .int (nb : Int), .int (nc : Int), .int (nd : Int)] ∧ GAt C H a rows q ∧
  q[na]? = some A ∧ q[nb]? = some B ∧ q[nc]? = some C' ∧ q[nd]? = some D ∧ (Sq.node A B C' D).wf ∧ A.level ≤ 60 ∧ q.length < 16000000 ∧
  ∀ H' q' (n : Nat), GAt C H' a rows q' → q <+: q' → q'.length ≤ q.length + 1 → q'[n]? = some (.node A B C' D) → Fr a.m5 H H' → Q (.int (n : Int)) H'
theorem map_get {α β : Type} {l : List α} {n : Nat} {x : α} (f : α → β) (h : l[n]? = some x) : (l.map f)[n]? = some (f x) := by
  rw [List.getElem?_map, h]; rfl
theorem acc4_r4 (half : Int) (a b c d : Option Box) : acc4 half [a, b, c, d] 4 = r4 half a b c d := rfl
theorem mp_kept {C : Addr} : MonP (sp_kept C) := fun vs H Q Q' E h ⟨a, rows, q, S, t, m, v, x1, x2, x3, x4, x5, x6, x7, x8, k⟩ => ⟨a, rows, q, S, t, m, v, x1, x2, x3, x4, x5, x6, x7, x8, fun H' g f => h _ _ (k H' g f)⟩
theorem mp_cell {C : Addr} : MonP (sp_cell C) := fun vs H Q Q' E h ⟨a, rows, q, s, x1, x2, x3, x4, x5, k⟩ => ⟨a, rows, q, s, x1, x2, x3, x4, x5, fun H' q' n g p l e f => h _ _ (k H' q' n g p l e f)⟩
theorem mp_knit {C : Addr} : MonP (sp_knit C) := fun vs H Q Q' E h ⟨a, rows, q, A, B, C', D, na, nb, nc, nd, x1, x2, x3, x4, x5, x6, x7, x8, x9, k⟩ => ⟨a, rows, q, A, B, C', D, na, nb, nc, nd, x1, x2, x3, x4, x5, x6, x7, x8, x9, fun H' q' n g p l e f => h _ _ (k H' q' n g p l e f)⟩
end
end JF

/-! ### the grove's methods: __init__, even -/
namespace JF
open PySem PySem.Spec PyProof.Rows L2
section
variable {P : Program} {w : World} {K : PySem.W.Frag} {mg : Str → Option Value} {base : Heap}
def sp_ginit (C : Addr) : Sp := fun vs H Q _ => ∃ (p dx : Addr), vs = [.ref p] ∧ H p = some (.ins C dx []) ∧ ∀ (a : GA) (H' : Hp), a.g = p → GAt C H' a [] [] → (∀ b ∈ a.muts [], H b = none) → (∀ b o, H b = some o → b ≠ p → H' b = some o) → Q .non H'
end
end JF

/-! ### even, and the asking methods -/
namespace JF
open PySem PySem.Spec PyProof.Rows L2
/-- a row of plain squares grows -/
theorem GAt.row {C : Addr} {H : Hp} {a : GA} {rows : List (Int × Addr)} {q : List Sq} {s : Int} {b : Addr} {ns : List Nat} (G : GAt C H a rows q) (h : (s, b) ∈ rows) (hv : ∀ (i : Nat) n, ns[i]? = some n → q[n]? = some (Sq.even i s)) :
    GAt C (L2.upd H b (.lst (ns.map fun (n : Nat) => V.int (n : Int)))) a rows q := by
  obtain ⟨tups, mk, spt, D⟩ := G.da
  obtain ⟨⟨g1, g2, g3, g4, g5, g6⟩, _, _, _, _, _, hr⟩ := nd_of G.nd
  obtain ⟨r1, r2, r3, r4', r5, r6, r7⟩ := hr s b h
  obtain ⟨ns0, hb0, _⟩ := G.ro s b h
  have out : ∀ c xs, H c = some (.tup xs) → L2.upd H b (.lst (ns.map fun (n : Nat) => V.int (n : Int))) c = some (.tup xs) := fun c xs e => by
    rw [upd_ne (by rintro rfl; rw [hb0] at e; cases e)]; exact e
  refine ⟨by rw [upd_ne r1.symm]; exact G.ob, ⟨tups, mk, spt, by rw [upd_ne r2.symm]; exact D.hn, by rw [upd_ne r3.symm]; exact D.hm, by rw [upd_ne r4'.symm]; exact D.hl, by rw [upd_ne r5.symm]; exact D.hv, by rw [upd_ne r6.symm]; exact D.hs, D.lt, D.lm, D.ls,
    fun i t m h1 h2 => out _ _ (D.tu i t m h1 h2), fun i v S h1 h2 => (D.sp i v S h1 h2).keep out, D.md⟩, G.wf, G.qn, by rw [upd_ne r7.symm]; exact G.pl, G.nd, G.rn, G.rs, fun s' b' h' => ?_⟩
  by_cases e : b' = b
  · subst e
    have hs : s' = s := by
      have nd2 : (rows.map (·.2)).Nodup := by
        have z := (List.nodup_cons.mp G.nd).2
        unfold GA.muts at z
        exact (List.nodup_cons.mp (List.nodup_append.mp z).2.1).2
      obtain ⟨i, hi, e1⟩ := List.mem_iff_getElem.mp h
      obtain ⟨j, hj, e2⟩ := List.mem_iff_getElem.mp h'
      have e3 : i = j := (List.getElem_inj (xs := rows.map (·.2)) (h₀ := by simpa using hi) (h₁ := by simpa using hj) nd2).mp (by simp [e1, e2])
      subst e3
      rw [e1] at e2
      exact (congrArg Prod.fst e2).symm
    subst hs
    exact ⟨ns, upd_same, hv⟩
  · obtain ⟨ns', e1, e2⟩ := G.ro s' b' h'
    exact ⟨ns', by rw [upd_ne e]; exact e1, e2⟩
theorem rows_look {rows : List (Int × Addr)} {s : Int} : (∀ v, valV (rows.map fun sa => ((Sum.inl sa.1 : Key), V.ref sa.2)) (Sum.inl s) = some v → ∃ b, (s, b) ∈ rows ∧ v = .ref b) ∧ (valV (rows.map fun sa => ((Sum.inl sa.1 : Key), V.ref sa.2)) (Sum.inl s) = none → s ∉ rows.map (·.1)) := by
  induction rows with
  | nil => exact ⟨fun v h => (by cases h), fun _ => by simp⟩
  | cons x r ih =>
    by_cases e : x.1 = s
    · constructor
      · intro v h
        have h' : some (V.ref x.2) = some v := by rw [← h]; simp [valV, e]
        exact ⟨x.2, by rw [← e]; exact List.mem_cons_self, (Option.some.inj h').symm⟩
      · intro h
        have h' : valV (((x :: r).map fun sa => ((Sum.inl sa.1 : Key), V.ref sa.2))) (Sum.inl s) = some (V.ref x.2) := by simp [valV, e]
        rw [h'] at h; cases h
    · have e' : ¬ ((Sum.inl x.1 : Key) = Sum.inl s) := fun z => e (Sum.inl.inj z)
      have eq : valV (((x :: r).map fun sa => ((Sum.inl sa.1 : Key), V.ref sa.2))) (Sum.inl s) = valV ((r.map fun sa => ((Sum.inl sa.1 : Key), V.ref sa.2))) (Sum.inl s) := by
        simp [valV, e]
      rw [eq]
      refine ⟨fun v h => ?_, fun h => ?_⟩
      · obtain ⟨b, h1, h2⟩ := ih.1 v h
        exact ⟨b, List.mem_cons_of_mem _ h1, h2⟩
      · simp only [List.map_cons, List.mem_cons, not_or]
        exact ⟨fun z => e z.symm, ih.2 h⟩
/-- a new row -/
theorem GAt.addrow {C : Addr} {H : Hp} {a : GA} {rows : List (Int × Addr)} {q : List Sq} {s : Int} {p : Addr} (G : GAt C H a rows q) (hp : H p = none) (hs : s ∉ rows.map (·.1)) (h0 : 0 ≤ s) (h7 : s ≤ 7) :
    GAt C (L2.upd (L2.upd H p (.lst [])) a.dp (.dK ((rows.map fun sa => ((Sum.inl sa.1 : Key), V.ref sa.2)) ++ [((Sum.inl s : Key), V.ref p)]))) a (rows ++ [(s, p)]) q := by
  have G1 := G.same (same_upd (o := .lst []) hp)
  obtain ⟨tups, mk, spt, D⟩ := G1.da
  obtain ⟨⟨g1, g2, g3, g4, g5, g6⟩, ⟨n1, n2, n3, n4, n5⟩, ⟨m1, m2, m3, m4⟩, ⟨l1, l2, l3⟩, ⟨v1, v2⟩, s1, hr⟩ := nd_of G.nd
  have hdp : ∀ xs, L2.upd H p (.lst []) a.dp ≠ some (.tup xs) := fun xs e => by rw [G1.pl] at e; cases e
  have out : ∀ c xs o, L2.upd H p (.lst []) c = some (.tup xs) → L2.upd (L2.upd H p (.lst [])) a.dp o c = some (.tup xs) := fun c xs o e => by
    rw [upd_ne (by rintro rfl; exact hdp _ e)]; exact e
  refine ⟨by rw [upd_ne g6]; exact G1.ob, ⟨tups, mk, spt, by rw [upd_ne n5]; exact D.hn, by rw [upd_ne m4]; exact D.hm, by rw [upd_ne l3]; exact D.hl, by rw [upd_ne v2]; exact D.hv, by rw [upd_ne s1]; exact D.hs, D.lt, D.lm, D.ls,
    fun i t m h1 h2 => out _ _ _ (D.tu i t m h1 h2), fun i v S h1 h2 => (D.sp i v S h1 h2).keep fun b xs e => out _ _ _ e, D.md⟩, G1.wf, G1.qn, by rw [upd_same, List.map_append]; rfl, ?_, ?_, fun s' h' => ?_, fun s' b' h' => ?_⟩
  · have hout := G.new_out hp
    have hg : a.g ≠ p := ne_of_none G.ob hp
    have z := G.nd
    rw [List.nodup_cons] at z ⊢
    have em : a.muts (rows ++ [(s, p)]) = a.muts rows ++ [p] := by simp [GA.muts]
    rw [em]
    refine ⟨fun h => ?_, ?_⟩
    · rcases List.mem_append.mp h with h | h
      · exact z.1 h
      · simp only [List.mem_singleton] at h; exact hg h
    · rw [List.nodup_append]
      refine ⟨z.2, by simp, fun x hx y hy e => ?_⟩
      simp only [List.mem_singleton] at hy
      subst hy
      exact hout (e ▸ hx)
  · rw [List.map_append, List.nodup_append]
    refine ⟨G.rn, by simp, fun x hx y hy e => ?_⟩
    simp only [List.map_cons, List.map_nil, List.mem_singleton] at hy
    subst hy
    exact hs (e ▸ hx)
  · rw [List.map_append] at h'
    rcases List.mem_append.mp h' with h' | h'
    · exact G.rs s' h'
    · simp only [List.map_cons, List.map_nil, List.mem_singleton] at h'
      subst h'; exact ⟨h0, h7⟩
  · rcases List.mem_append.mp h' with h' | h'
    · obtain ⟨ns, e1, e2⟩ := G1.ro s' b' h'
      obtain ⟨_, _, _, _, _, _, r7⟩ := hr s' b' h'
      exact ⟨ns, by rw [upd_ne r7]; exact e1, e2⟩
    · simp only [List.mem_singleton, Prod.mk.injEq] at h'
      obtain ⟨rfl, rfl⟩ := h'
      have : b' ≠ a.dp := (ne_of_none G.pl hp).symm
      exact ⟨[], by rw [upd_ne this, upd_same]; rfl, fun i n h => by simp at h⟩
theorem fr_muts {a : GA} {rows : List (Int × Addr)} {H H' : Hp} (h : Fr a.m5 H H') : Fr (a.muts rows) H H' := h.mono fun b hb => List.mem_append_left _ hb
theorem row_mem {a : GA} {rows : List (Int × Addr)} {s : Int} {b : Addr} (h : (s, b) ∈ rows) : b ∈ a.muts rows :=
  List.mem_append_right _ (List.mem_cons_of_mem _ (List.mem_map_of_mem (f := fun sa : Int × Addr => sa.2) h))
/-- knit's and cell's way: the rows stay -/
theorem GStep.m5 {C : Addr} {H H1 H2 : Hp} {a : GA} {rows r1 : List (Int × Addr)} {q q1 q2 : List Sq} (x : GStep C H a rows q H1 r1 q1) (G : GAt C H2 a r1 q2) (p : q1 <+: q2) (f : Fr a.m5 H1 H2) : GStep C H a rows q H2 r1 q2 :=
  x.trans ⟨G, p, fr_muts f, fun _ h => .inl h⟩
theorem GStep.row {C : Addr} {H H1 : Hp} {a : GA} {rows r1 : List (Int × Addr)} {q q1 : List Sq} {s : Int} {b : Addr} {ns : List Nat} (x : GStep C H a rows q H1 r1 q1) (h : (s, b) ∈ r1) (hv : ∀ (i : Nat) n, ns[i]? = some n → q1[n]? = some (Sq.even i s)) :
    GStep C H a rows q (L2.upd H1 b (.lst (ns.map fun (n : Nat) => V.int (n : Int)))) r1 q1 :=
  x.trans ⟨x.gat.row h hv, List.prefix_refl _, fun c o e n => by rw [upd_ne (by rintro rfl; exact n (row_mem h))]; exact e, fun _ h => .inl h⟩
theorem GStep.same {C : Addr} {H H1 H2 : Hp} {a : GA} {rows r1 : List (Int × Addr)} {q q1 : List Sq} (x : GStep C H a rows q H1 r1 q1) (s : Same H1 H2) : GStep C H a rows q H2 r1 q1 :=
  x.trans ⟨x.gat.same s, List.prefix_refl _, fr_of s, fun _ h => .inl h⟩
theorem row_not5 {C : Addr} {H : Hp} {a : GA} {rows : List (Int × Addr)} {q : List Sq} {s : Int} {b : Addr} (G : GAt C H a rows q) (h : (s, b) ∈ rows) : b ∉ a.m5 := by
  obtain ⟨_, _, _, _, _, _, hr⟩ := nd_of G.nd
  obtain ⟨r1, r2, r3, r4', r5, r6, r7⟩ := hr s b h
  simp [GA.m5, r2, r3, r4', r5, r6]
theorem map_int_len (ns : List Nat) : (ns.map fun (n : Nat) => V.int (n : Int)).length = ns.length := List.length_map _
section
variable {P : Program} {w : World} {K : PySem.W.Frag} {mg : Str → Option Value} {base : Heap}
def sp_even (C : Addr) : Sp := fun vs H Q _ => ∃ (a : GA) (rows : List (Int × Addr)) (q : List Sq) (l : Nat) (s : Int), vs = [.ref a.g, .int (l : Int), .int s] ∧ GAt C H a rows q ∧ l ≤ 60 ∧ 0 ≤ s ∧ s ≤ 7 ∧ q.length + 100 < 16000000 ∧
  ∀ H' rows' q' (n : Nat), GStep C H a rows q H' rows' q' → q'.length ≤ q.length + l + 1 → q'[n]? = some (Sq.even l s) → Q (.int (n : Int)) H'
end
end JF

/-! ### the asking methods (no refusal) -/
namespace JF
open PySem PySem.Spec PyProof.Rows L2
section
variable {P : Program} {w : World} {K : PySem.W.Frag} {mg : Str → Option Value} {base : Heap}
theorem at_lt {q : List Sq} {n : Nat} {S : Sq} (h : q[n]? = some S) : n < q.length := (List.getElem?_eq_some_iff.mp h).1
def sp_asked (C : Addr) : Sp := fun vs H Q _ => ∃ (a : GA) (rows : List (Int × Addr)) (q : List Sq) (n : Nat) (S : Sq), vs = [.ref a.g, .int (n : Int)] ∧ GAt C H a rows q ∧ q[n]? = some S ∧ q.length ≤ 16000000 ∧ Q (.int (S.level : Int)) H
theorem mp_asked {C : Addr} : MonP (sp_asked C) := fun vs H Q Q' E h ⟨a, rows, q, n, S, x1, x2, x3, x4, k⟩ => ⟨a, rows, q, n, S, x1, x2, x3, x4, h _ _ k⟩
/-- what asks one square, and tells a value: the level and so on -/
def sp_level_of (C : Addr) : Sp := sp_asked C
def sp_living (C : Addr) : Sp := fun vs H Q _ => ∃ (a : GA) (rows : List (Int × Addr)) (q : List Sq) (n : Nat) (S : Sq), vs = [.ref a.g, .int (n : Int)] ∧ GAt C H a rows q ∧ q[n]? = some S ∧ q.length ≤ 16000000 ∧ Q (.int S.lives) H
theorem mp_living {C : Addr} : MonP (sp_living C) := fun vs H Q Q' E h ⟨a, rows, q, n, S, x1, x2, x3, x4, k⟩ => ⟨a, rows, q, n, S, x1, x2, x3, x4, h _ _ k⟩
def sp_span (C : Addr) : Sp := fun vs H Q _ => ∃ (a : GA) (rows : List (Int × Addr)) (q : List Sq) (n : Nat) (S : Sq), vs = [.ref a.g, .int (n : Int)] ∧ GAt C H a rows q ∧ q[n]? = some S ∧ q.length ≤ 16000000 ∧ ∀ v, SpanV H v S.span → Q v H
theorem mp_span {C : Addr} : MonP (sp_span C) := fun vs H Q Q' E h ⟨a, rows, q, n, S, x1, x2, x3, x4, k⟩ => ⟨a, rows, q, n, S, x1, x2, x3, x4, fun v hv => h _ _ (k v hv)⟩
/-- the quarters, as the tuple that stands there -/
def sp_quarters (C : Addr) : Sp := fun vs H Q _ => ∃ (a : GA) (rows : List (Int × Addr)) (q : List Sq) (n : Nat) (A B C' D : Sq), vs = [.ref a.g, .int (n : Int)] ∧ GAt C H a rows q ∧ q[n]? = some (.node A B C' D) ∧ q.length ≤ 16000000 ∧
  ∀ (t : Addr) (x y z u : Nat), H t = some (.tup [.int (x : Int), .int (y : Int), .int (z : Int), .int (u : Int)]) → q[x]? = some A → q[y]? = some B → q[z]? = some C' → q[u]? = some D → Q (.ref t) H
theorem mp_quarters {C : Addr} : MonP (sp_quarters C) := fun vs H Q Q' E h ⟨a, rows, q, n, A, B, C', D, x1, x2, x3, x4, k⟩ => ⟨a, rows, q, n, A, B, C', D, x1, x2, x3, x4, fun t x y z u e1 e2 e3 e4 e5 => h _ _ (k t x y z u e1 e2 e3 e4 e5)⟩
def sp_state_of (C : Addr) : Sp := fun vs H Q _ => ∃ (a : GA) (rows : List (Int × Addr)) (q : List Sq) (n : Nat) (s : Int), vs = [.ref a.g, .int (n : Int)] ∧ GAt C H a rows q ∧ q[n]? = some (.leaf s) ∧ q.length ≤ 16000000 ∧ Q (.int s) H
theorem mp_state_of {C : Addr} : MonP (sp_state_of C) := fun vs H Q Q' E h ⟨a, rows, q, n, S, x1, x2, x3, x4, k⟩ => ⟨a, rows, q, n, S, x1, x2, x3, x4, h _ _ k⟩
def sp_leaf (C : Addr) : Sp := sp_cell C
def sp_solid (C : Addr) : Sp := fun vs H Q _ => ∃ (a : GA) (rows : List (Int × Addr)) (q : List Sq) (l : Nat) (s : Int), vs = [.ref a.g, .int (l : Int), .int s] ∧ GAt C H a rows q ∧ l ≤ 48 ∧ 0 ≤ s ∧ s ≤ 7 ∧ q.length + 100 < 16000000 ∧
  ∀ H' rows' q' (n : Nat), GStep C H a rows q H' rows' q' → q'.length ≤ q.length + l + 1 → q'[n]? = some (Sq.even l s) → Q (.int (n : Int)) H'
theorem mp_even {C : Addr} : MonP (sp_even C) := fun vs H Q Q' E h ⟨a, rows, q, l, s, x1, x2, x3, x4, x5, x6, k⟩ => ⟨a, rows, q, l, s, x1, x2, x3, x4, x5, x6, fun H' r' q' n g p l => h _ _ (k H' r' q' n g p l)⟩
theorem mp_solid {C : Addr} : MonP (sp_solid C) := fun vs H Q Q' E h ⟨a, rows, q, l, s, x1, x2, x3, x4, x5, x6, k⟩ => ⟨a, rows, q, l, s, x1, x2, x3, x4, x5, x6, fun H' r' q' n g p l => h _ _ (k H' r' q' n g p l)⟩
/-- four are joined -/
def sp_joined (C : Addr) : Sp := fun vs H Q _ => ∃ (a : GA) (rows : List (Int × Addr)) (q : List Sq) (A B C' D : Sq) (na nb nc nd : Nat), vs = [.ref a.g, .int (na : Int), .int (nb : Int), .int (nc : Int), .int (nd : Int)] ∧ GAt C H a rows q ∧
  q[na]? = some A ∧ q[nb]? = some B ∧ q[nc]? = some C' ∧ q[nd]? = some D ∧ B.level = A.level ∧ C'.level = A.level ∧ D.level = A.level ∧ A.level ≤ 47 ∧ q.length < 16000000 ∧
  ∀ H' q' (n : Nat), GStep C H a rows q H' rows q' → q'.length ≤ q.length + 1 → q'[n]? = some (.node A B C' D) → Fr a.m5 H H' → Q (.int (n : Int)) H'
theorem mp_joined {C : Addr} : MonP (sp_joined C) := fun vs H Q Q' E h ⟨a, rows, q, A, B, C', D, na, nb, nc, nd, x1, x2, x3, x4, x5, x6, x7, x8, x9, y1, y2, k⟩ => ⟨a, rows, q, A, B, C', D, na, nb, nc, nd, x1, x2, x3, x4, x5, x6, x7, x8, x9, y1, y2, fun H' q' n g p l f => h _ _ (k H' q' n g p l f)⟩
end
end JF

/-! ### helpers of the laws: the script's numbers, lists of tuples of numbers -/
namespace JF
open PySem PySem.Spec PyProof.Rows L2
/-- tuples of whole numbers, one by one -/
def TR (H : Hp) : List Addr → List (List Int) → Prop
  | [], [] => True
  | r :: rs, x :: xs => H r = some (.tup (x.map V.int)) ∧ TR H rs xs
  | _, _ => False
theorem TR.len {H : Hp} : ∀ {rs : List Addr} {xs : List (List Int)}, TR H rs xs → rs.length = xs.length
  | [], [], _ => rfl
  | r :: rs, x :: xs, h => congrArg (· + 1) (TR.len h.2)
  | [], _ :: _, h => h.elim
  | _ :: _, [], h => h.elim
theorem TR.keep {H H' : Hp} (k : ∀ b ys, H b = some (.tup ys) → H' b = some (.tup ys)) : ∀ {rs : List Addr} {xs : List (List Int)}, TR H rs xs → TR H' rs xs
  | [], [], _ => trivial
  | r :: rs, x :: xs, h => ⟨k _ _ h.1, TR.keep k h.2⟩
  | [], _ :: _, h => h.elim
  | _ :: _, [], h => h.elim
theorem TR.app {H : Hp} {r : Addr} {x : List Int} (hr : H r = some (.tup (x.map V.int))) : ∀ {rs : List Addr} {xs : List (List Int)}, TR H rs xs → TR H (rs ++ [r]) (xs ++ [x])
  | [], [], _ => ⟨hr, trivial⟩
  | _ :: _, _ :: _, h => ⟨h.1, TR.app hr h.2⟩
  | [], _ :: _, h => h.elim
  | _ :: _, [], h => h.elim
theorem TR.get {H : Hp} : ∀ {rs : List Addr} {xs : List (List Int)} {i : Nat} {r : Addr}, TR H rs xs → rs[i]? = some r → ∃ x, xs[i]? = some x ∧ H r = some (.tup (x.map V.int))
  | [], [], _, _, _, e => by simp at e
  | r :: rs, x :: xs, 0, _, h, e => by
    simp only [List.getElem?_cons_zero, Option.some.injEq] at e
    subst e
    exact ⟨x, rfl, h.1⟩
  | r :: rs, x :: xs, i + 1, _, h, e => by
    simp only [List.getElem?_cons_succ] at e ⊢
    exact TR.get h.2 e
  | [], _ :: _, _, _, h, _ => h.elim
  | _ :: _, [], _, _, h, _ => h.elim
/-- a list of tuples of whole numbers -/
def TL (H : Hp) (p : Addr) (xs : List (List Int)) : Prop := ∃ rs : List Addr, H p = some (.lst (rs.map V.ref)) ∧ TR H rs xs
theorem at_get {α : Type} {l : List α} {i : Nat} (h : i < l.length) : l[i]? = some l[i] := by simp [h]
section
variable {K : PySem.W.Frag} {σ : L2.St} {H : Hp} {Q : VK}
/-- [x[c] for x in list] of tuples of numbers -/
theorem rd_colT {L i n : Nat} {c : Int} {p : Addr} {xs : List (List Int)} (hi : i < σ.length) (hv : σ[L]? = some (some (.ref p))) (h : TL H p xs) (hx : ∀ x ∈ xs, x.length = n) (hc0 : 0 ≤ c) (hcn : c.toNat < n) (hz : xs.length ≤ sizeLine)
    (hd : ∀ D, H D = none → Q (.ref D) (upd H D (.lst ((xs.map fun x => x.getD c.toNat 0).map V.int)))) : tLc (iList K (tVar L)) (gName i) tYes (tOp (rIxT K) (tVar i) (tC (.int c))) [i] σ H Q := by
  obtain ⟨rs, hp, ht⟩ := h
  refine ⟨_, hv, p, rfl, ⟨_, SqL.of hp⟩, fun D hD => ?_⟩
  have sm : ∀ o, Same H (upd H D o) := fun o => same_upd hD
  refine lc_list (K := K) (xs := rs.map V.ref) (fun i H' => H' = upd H D (.lst (((xs.take i).map fun x => x.getD c.toNat 0).map V.int))) (by simp) (fun i H' _ e => SqL.of (by rw [e]; exact sm _ _ _ hp)) ?_ ?_
  · rintro j x H' hj rfl
    obtain ⟨r, hr, rfl⟩ : ∃ r, rs[j]? = some r ∧ x = .ref r := by
      rw [List.getElem?_map] at hj
      cases e : rs[j]? with
      | none => rw [e] at hj; cases hj
      | some r => rw [e] at hj; exact ⟨r, rfl, (Option.some.inj hj).symm⟩
    obtain ⟨x, hx1, hx2⟩ := ht.get hr
    have hl := hx x (List.mem_of_getElem? hx1)
    have hlt : c.toNat < x.length := by omega
    have hset : (((wipe σ [i]).set i (some (.ref r)))[i]? : Option (Option V)) = some (some (.ref r)) := by
      rw [List.getElem?_set_self (by rw [wipe_length]; exact hi)]
    refine ⟨by simp only [wipe, List.set_set], ?_⟩
    refine rd_yes (iteT' (rd_op (rd_var hset (rd_c ?_))))
    have e1 : atI (x.map V.int) c = some (V.int (x.getD c.toNat 0)) := by
      obtain ⟨m, rfl⟩ : ∃ m : Nat, c = m := ⟨c.toNat, by omega⟩
      refine atI_nat ?_
      rw [Int.toNat_natCast] at hlt ⊢
      rw [List.getElem?_map, at_get hlt]
      simp [List.getD, hlt]
    refine rd_ixT (SqT.of (sm _ _ _ hx2)) e1 ?_
    refine ⟨_, upd_same, ?_, ?_⟩
    · have hj2 : j < xs.length := (List.getElem?_eq_some_iff.mp hx1).1
      simp only [List.length_map, List.length_take]
      omega
    · rw [upd_upd]
      have : xs.take (j + 1) = xs.take j ++ [x] := by rw [List.take_succ, hx1]; rfl
      rw [this, List.map_append, List.map_append]; rfl
  · rintro H' rfl
    have e : xs.take (rs.map V.ref).length = xs := by rw [List.length_map, ht.len, List.take_length]
    rw [e]
    exact hd D hD
/-- min, max, of a list of numbers -/
theorem rd_min {p : Addr} {ns : List Int} (m0 : Int) (h : H p = some (.lst (ns.map V.int))) (hm : m0 ∈ ns) (hle : ∀ y ∈ ns, m0 ≤ y) (q : Q (.int m0) H) : rMin K [.ref p] H Q :=
  ⟨p, ns, rfl, SqL.of h, List.length_pos_of_mem hm, fun m h1 h2 => by
    have e : m = m0 := Int.le_antisymm (h2 m0 hm) (hle m h1)
    rw [e]; exact q⟩
theorem rd_max {p : Addr} {ns : List Int} (m0 : Int) (h : H p = some (.lst (ns.map V.int))) (hm : m0 ∈ ns) (hle : ∀ y ∈ ns, y ≤ m0) (q : Q (.int m0) H) : rMax K [.ref p] H Q :=
  ⟨p, ns, rfl, SqL.of h, List.length_pos_of_mem hm, fun m h1 h2 => by
    have e : m = m0 := Int.le_antisymm (hle m h1) (h2 m0 hm)
    rw [e]; exact q⟩
/-! lists of tuples, compared -/
theorem dp_tr : ∀ {rs : List Addr} {xs : List (List Int)}, TR H rs xs → DpAll K H (rs.map V.ref) (xs.map fun x => PyData.tuple (x.map PyData.int))
  | [], [], _ => .nil
  | r :: rs, x :: xs, h => .cons (.tup (SqT.of h.1) dp_ints) (dp_tr h.2)
  | [], _ :: _, h => h.elim
  | _ :: _, [], h => h.elim
theorem lay_ints : ∀ x : List Int, PyData.canLayAll0 (x.map PyData.int) = true
  | [] => by simp [PyData.canLayAll0]
  | i :: x => by simp [PyData.canLayAll0, PyData.canLay0, lay_ints x]
theorem depth_ints : ∀ x : List Int, PyData.depthAll (x.map PyData.int) ≤ 1
  | [] => by simp [PyData.depthAll]
  | i :: x => by simp [PyData.depthAll, PyData.depth, depth_ints x]
theorem lay_tr : ∀ xs : List (List Int), PyData.canLayAll0 (xs.map fun x => PyData.tuple (x.map PyData.int)) = true
  | [] => by simp [PyData.canLayAll0]
  | x :: xs => by simp [PyData.canLayAll0, PyData.canLay0, lay_tr xs, lay_ints x]
theorem depth_tr : ∀ xs : List (List Int), PyData.depthAll (xs.map fun x => PyData.tuple (x.map PyData.int)) ≤ 2
  | [] => by simp [PyData.depthAll]
  | x :: xs => by
    have h1 := depth_tr xs
    have h2 := depth_ints x
    simp only [List.map_cons, PyData.depthAll, PyData.depth]
    omega
theorem shaped_tr (xs : List (List Int)) : SeqAt.shaped (.list (xs.map fun x => PyData.tuple (x.map PyData.int))) = true := by
  have h1 := depth_tr xs
  have h2 := lay_tr xs
  have h3 : PyData.depth (.list (xs.map fun x => PyData.tuple (x.map PyData.int))) ≤ 64 := by
    simp only [PyData.depth]
    omega
  unfold SeqAt.shaped
  rw [decide_eq_true h3, Bool.and_true]
  simp only [PyData.canLay0, h2]
theorem TL.same {H H' : Hp} {p : Addr} {xs : List (List Int)} (h : TL H p xs) (s : Same H H') : TL H' p xs := by
  obtain ⟨rs, h1, h2⟩ := h
  exact ⟨rs, s _ _ h1, h2.keep fun _ _ e => s _ _ e⟩
/-- rows == [] -/
theorem rd_eqTL0 {p pe : Addr} {xs : List (List Int)} (h : TL H p xs) (he : H pe = some (.lst [])) (q : Q (.bl (decide (xs = []))) H) : rEqD K (.ref p) (.ref pe) H Q := by
  obtain ⟨rs, h1, h2⟩ := h
  refine ⟨_, _, .lst (SqL.of h1) (dp_tr h2), .lst (SqL.of he) .nil, shaped_tr xs, rfl, ?_⟩
  cases xs with
  | nil => exact q
  | cons x xs => exact q
/-- isinstance(tuple of the law's, tuple) -/
theorem rd_isiT {p : Addr} {xs : List V} (h : H p = some (.tup xs)) (q : Q (.bl true) H) : rIsi K [.ref p, .ty "tuple"] H Q :=
  isi_ty (.base (.tup h)) (by decide +kernel : kitB "tuple" "tuple" = some true) q
theorem rd_isiI {i : Int} (q : Q (.bl true) H) : rIsi K [.int i, .ty "int"] H Q := isi_ty (.base (.int i)) (by decide +kernel : kitB "int" "int" = some true) q
theorem rd_isiB {i : Int} (q : Q (.bl false) H) : rIsi K [.int i, .ty "bool"] H Q := isi_ty (.base (.int i)) (by decide +kernel : kitB "int" "bool" = some false) q
end
theorem sqL_on {K : PySem.W.Frag} {H H' : Hp} {a : Addr} {xs : List V} (h : SqL K H a xs) (e : ∀ o, H a = some o → H' a = some o) : SqL K H' a xs :=
  h.elim (fun h => .inl (h.elim (fun h => .inl (e _ h)) fun ⟨o, h⟩ => .inr ⟨o, e _ h⟩)) fun h => .inr h
theorem walk_r0 {n : Nat} : Walk (Itr 0 n) n (fun _ => True) (YFn fun i => .int (i : Int)) :=
  walk_range.mono (fun _ h => h) fun i H x H' _ _ y => ⟨y.1, y.2.trans (by show V.int (0 + (i : Int)) = V.int (i : Int); rw [Int.zero_add])⟩
def cutI (ns : List Int) (lo hi : Option Int) : List Int := (ns.drop (HT.sIx ns.length 0 lo)).take (HT.sIx ns.length ns.length hi - HT.sIx ns.length 0 lo)
theorem cutV_ints (ns : List Int) (lo hi : Option Int) : cutV (ns.map V.int) lo hi = (cutI ns lo hi).map V.int := by
  unfold cutV cutI
  rw [List.length_map, List.map_take, List.map_drop]
/-- Grove() -/
theorem rd_grove {K : PySem.W.Frag} {σ : L2.St} {H : Hp} {Q : VK} (h : ∀ (a : GA) H', GAt (CG K) H' a [] [] → (∀ b ∈ a.muts [], H b = none) → Same H H' → Q (.ref a.g) H') : tMake (CG K) (sp_ginit (CG K)) [] E0 tNil σ H Q := by
  intro x dx hx hdx hne
  refine ⟨x, dx, rfl, upd_same, fun a H' e G hn hk => ⟨rfl, ?_⟩⟩
  subst e
  have out : ∀ (b u : Addr) (Hx : Hp) (o : HO), upd Hx u o b = none → Hx b = none := fun b u Hx o e => by
    by_cases z : b = u
    · subst z; rw [upd_same] at e; cases e
    · rw [upd_ne z] at e; exact e
  refine h a H' G (fun b hb => out _ _ _ _ (out _ _ _ _ (hn b hb))) fun b o e => ?_
  have b1 : b ≠ a.g := ne_of_none e hx
  have b2 : b ≠ dx := ne_of_none e hdx
  exact hk b o (by rw [upd_ne b1, upd_ne b2]; exact e) b1
/-! #### the asker's own lists beside a grove -/
/-- tuples stay -/
def Tup (H H' : Hp) : Prop := ∀ b ys, H b = some (.tup ys) → H' b = some (.tup ys)
theorem Tup.refl (H : Hp) : Tup H H := fun _ _ h => h
theorem Tup.trans {H H1 H2 : Hp} (x : Tup H H1) (y : Tup H1 H2) : Tup H H2 := fun b ys h => y b ys (x b ys h)
theorem Tup.of {H H' : Hp} (x : Same H H') : Tup H H' := fun b ys h => x b _ h
theorem Tup.put {H : Hp} {p : Addr} {xs : List V} (h : H p = some (.lst xs)) (o : HO) : Tup H (upd H p o) := fun b ys e => by
  rw [upd_ne (by rintro rfl; rw [h] at e; cases e)]; exact e
theorem GStep.tup {C : Addr} {H H1 : Hp} {a : GA} {rows r1 : List (Int × Addr)} {q q1 : List Sq} (x : GStep C H a rows q H1 r1 q1) (G : GAt C H a rows q) : Tup H H1 := fun b ys e => x.fr b _ e (G.tup_out e)
/-- own lists, by their addresses -/
structure OwnL (a : GA) (rows : List (Int × Addr)) (H : Hp) (l : List (Addr × List V)) : Prop where
  nd : (l.map (·.1)).Nodup
  at_ : ∀ p xs, (p, xs) ∈ l → H p = some (.lst xs)
  out : ∀ p xs, (p, xs) ∈ l → p ∉ a.muts rows
theorem OwnL.same {a : GA} {rows : List (Int × Addr)} {H H' : Hp} {l : List (Addr × List V)} (h : OwnL a rows H l) (s : Same H H') : OwnL a rows H' l := ⟨h.nd, fun p xs m => s _ _ (h.at_ p xs m), h.out⟩
theorem OwnL.step {C : Addr} {H H1 : Hp} {a : GA} {rows r1 : List (Int × Addr)} {q q1 : List Sq} {l : List (Addr × List V)} (h : OwnL a rows H l) (x : GStep C H a rows q H1 r1 q1) : OwnL a r1 H1 l :=
  ⟨h.nd, fun p xs m => (x.own (h.at_ p xs m) (h.out p xs m)).1, fun p xs m => (x.own (h.at_ p xs m) (h.out p xs m)).2⟩
theorem OwnL.nil {a : GA} {rows : List (Int × Addr)} {H : Hp} : OwnL a rows H [] := ⟨by simp, fun _ _ m => by simp at m, fun _ _ m => by simp at m⟩
theorem OwnL.new {C : Addr} {a : GA} {rows : List (Int × Addr)} {q : List Sq} {H : Hp} {l : List (Addr × List V)} {p : Addr} {xs : List V} (h : OwnL a rows H l) (G : GAt C H a rows q) (hp : H p = none) : OwnL a rows (upd H p (.lst xs)) ((p, xs) :: l) := by
  refine ⟨?_, fun p' ys m => ?_, fun p' ys m => ?_⟩
  · rw [List.map_cons, List.nodup_cons]
    refine ⟨fun z => ?_, h.nd⟩
    obtain ⟨⟨p', ys⟩, m, e⟩ := List.mem_map.mp z
    have e' : p' = p := e
    subst e'
    rw [h.at_ _ _ m] at hp
    cases hp
  · rcases List.mem_cons.mp m with m | m
    · cases m; exact upd_same
    · exact same_upd hp _ _ (h.at_ _ _ m)
  · rcases List.mem_cons.mp m with m | m
    · cases m; exact G.new_out hp
    · exact h.out _ _ m
theorem OwnL.put {a : GA} {rows : List (Int × Addr)} {H : Hp} {p : Addr} {xs : List V} (l1 l2 : List (Addr × List V)) (ys : List V) (h : OwnL a rows H (l1 ++ (p, xs) :: l2)) : OwnL a rows (upd H p (.lst ys)) (l1 ++ (p, ys) :: l2) := by
  have nd := h.nd
  rw [List.map_append, List.map_cons] at nd
  have ne : ∀ p' zs, (p', zs) ∈ l1 ∨ (p', zs) ∈ l2 → p' ≠ p := fun p' zs m e => by
    subst e
    rw [List.nodup_append, List.nodup_cons] at nd
    rcases m with m | m
    · exact nd.2.2 p' (List.mem_map_of_mem (f := fun x : Addr × List V => x.1) (a := (p', zs)) m) p' List.mem_cons_self rfl
    · exact nd.2.1.1 (List.mem_map_of_mem (f := fun x : Addr × List V => x.1) (a := (p', zs)) m)
  refine ⟨by rw [List.map_append, List.map_cons]; exact nd, fun p' zs m => ?_, fun p' zs m => ?_⟩
  · rcases List.mem_append.mp m with m | m
    · rw [upd_ne (ne p' zs (.inl m))]; exact h.at_ _ _ (List.mem_append_left _ m)
    · rcases List.mem_cons.mp m with m | m
      · cases m; exact upd_same
      · rw [upd_ne (ne p' zs (.inr m))]; exact h.at_ _ _ (List.mem_append_right _ (List.mem_cons_of_mem _ m))
  · rcases List.mem_append.mp m with m | m
    · exact h.out _ _ (List.mem_append_left _ m)
    · rcases List.mem_cons.mp m with m | m
      · cases m; exact h.out _ xs (List.mem_append_right _ List.mem_cons_self)
      · exact h.out _ _ (List.mem_append_right _ (List.mem_cons_of_mem _ m))
theorem GAt.own {C : Addr} {H : Hp} {a : GA} {rows : List (Int × Addr)} {q : List Sq} {l : List (Addr × List V)} {p : Addr} {xs : List V} {o : HO} (G : GAt C H a rows q) (h : OwnL a rows H l) (m : (p, xs) ∈ l) : GAt C (L2.upd H p o) a rows q :=
  G.upd (fun u e => by rw [h.at_ _ _ m] at e; cases e; exact fun z => z) (h.out _ _ m)
theorem OwnL.ix {a : GA} {rows : List (Int × Addr)} {H : Hp} {l : List (Addr × List V)} {p : Addr} {xs : List V} (h : OwnL a rows H l) (i : Nat) (e : l[i]? = some (p, xs)) : H p = some (.lst xs) := h.at_ p xs (List.mem_of_getElem? e)
theorem GAt.ownI {C : Addr} {H : Hp} {a : GA} {rows : List (Int × Addr)} {q : List Sq} {l : List (Addr × List V)} {p : Addr} {xs : List V} (G : GAt C H a rows q) (h : OwnL a rows H l) (i : Nat) (e : l[i]? = some (p, xs)) (o : HO) : GAt C (L2.upd H p o) a rows q := G.own h (List.mem_of_getElem? e)
theorem OwnL.putI {a : GA} {rows : List (Int × Addr)} {H : Hp} {l : List (Addr × List V)} {p : Addr} {xs : List V} (h : OwnL a rows H l) (i : Nat) (e : l[i]? = some (p, xs)) (ys : List V) : OwnL a rows (upd H p (.lst ys)) (l.set i (p, ys)) := by
  obtain ⟨hi, e'⟩ := List.getElem?_eq_some_iff.mp e
  have e1 : l = l.take i ++ (p, xs) :: l.drop (i + 1) := by rw [← e']; simp
  rw [List.set_eq_take_append_cons_drop, if_pos hi]
  rw [e1] at h
  exact h.put (l.take i) (l.drop (i + 1)) ys
theorem OwnL.tup {a : GA} {rows : List (Int × Addr)} {H : Hp} {l : List (Addr × List V)} {p : Addr} {xs : List V} (h : OwnL a rows H l) (i : Nat) (e : l[i]? = some (p, xs)) (o : HO) : Tup H (L2.upd H p o) := Tup.put (h.ix i e) o
section
variable {P : Program} {w : World} {K : PySem.W.Frag} {mg : Str → Option Value} {base : Heap}
def atN (ns : List Int) (k : Nat) : Int := (ns[k]?).getD 0
def sp_at (K : PySem.W.Frag) : Sp := fun vs H Q _ => ∃ (a : Addr) (ns : List Int) (k : Int), vs = [.ref a, .int k] ∧ SqL K H a (ns.map V.int) ∧ 0 ≤ k ∧ Q (.int (atN ns k.toNat)) H
theorem mp_at : MonP (sp_at K) := fun vs H Q Q' E h ⟨a, ns, k, x1, x2, x3, q⟩ => ⟨a, ns, k, x1, x2, x3, h _ _ q⟩
theorem ok_at (T : Env fa fn K mg) : Good P w K mg base CX0 1 ("_law_at", none) ["_law_script", "_law_k"] (sp_at K) := by
  refine good_mk T 2 (d := d_w_at) (N := ["_law_script", "_law_k"]) (ps := ["_law_script", "_law_k"]) rfl rfl sc_w_at (fun _ _ _ _ _ _ us hl => match us, hl with | [_, _], _ => rfl) (fun vs H Q E h => ?_) (fun f cdv A outer s H vs Q E hr h => ?_)
  · obtain ⟨a, ns, k, rfl, _⟩ := h; rfl
  · obtain ⟨a, ns, k, rfl, hs, h0, q⟩ := h
    refine ⟨_, (pss_cons (ps_if (pt_cmpR op_lt (pv 1) (pe_callB (call_lenK K rfl) (by rfl) (T.free 4) (by decide +kernel) (pa_cons (pv 0) pa_nil)) (nomark _)) (pss_one (ps_ret (pe_ix (ix_listK K rfl) (pv 0) (pv 1) (fun _ _ => rfl)))) pss_nil)
      (pss_one (ps_ret pe_int))), ?_⟩
    obtain ⟨m, rfl⟩ : ∃ m : Nat, k = m := ⟨k.toNat, by omega⟩
    rw [Int.toNat_natCast] at q
    walk_at "rd"
    refine rd_len hs ?_
    walk_at "rd"
    rw [List.length_map]
    refine ite_d (fun hk => ?_) (fun hk => ?_)
    · walk_at "rd"
      have hlt : m < ns.length := by omega
      refine rd_ixL hs (v := .int (atN ns m)) (atI_nat ?_) q
      rw [List.getElem?_map, at_get hlt]
      simp [atN, hlt]
    · walk_at "rd"
      have e : atN ns m = 0 := by unfold atN; rw [List.getElem?_eq_none (by omega)]; rfl
      rw [e] at q
      exact q
end
end JF

/-! ### helpers of the laws: dicts by tuples, zips of tuples -/
namespace JF
open PySem PySem.Spec PyProof.Rows L2
section
variable {X : Cx}
/-- d.setdefault(tuple, x), the dict by tuples -/
def rSetdT : V → List V → Hp → VK → Prop := fun u us H Q => ∃ (d t : Addr) (k : List Key) (z : V) (tab : List (List Key × V)), u = .ref d ∧ us = [.ref t, z] ∧ H d = some (.dT tab) ∧ H t = some (.tup (k.map kV)) ∧ tab.length < sizeLine ∧
  (∀ v, valV tab k = some v → Q v H) ∧ (valV tab k = none → Q z (upd H d (.dT (putK tab k z))))
theorem mt_setdT (room : X.A.units + 64 < cLine) : MtR X "dict.setdefault" rSetdT := by
  intro pins s σ H u us uv uvs Q I ru rus h
  obtain ⟨d, t, k, z, tab, rfl, rfl, hd, ht, hlt, there, away⟩ := h
  cases ru
  obtain ⟨kv, zv, rfl, rk, rz⟩ := vals2 rus
  cases rk
  obtain ⟨hle, hsys, ys, tie, dict⟩ := dt_of I.hok hd
  have hys : ys.length ≤ sizeLine := Paired.length tie ▸ hle
  have look := tie.val k
  refine call_setdefault_heap (knd := tupleKind (mixKind X.prog X.w)) (k := k) (tupleKind_room_in1 (by omega)) (key_of I.hok ht) hsys dict ?got ?new hys
  case got =>
    intro p hp
    rw [hp] at look
    cases ev : valV tab k with
    | none => rw [ev] at look; exact False.elim look
    | some v =>
      rw [ev] at look
      exact ⟨v, H, I.tok _, look, there v ev⟩
  case new =>
    intro hn h2 dict2 but
    have ev : valV tab k = none := by
      cases ev : valV tab k with
      | none => rfl
      | some v => rw [hn, ev] at look; exact False.elim look
    obtain ⟨o, es, ep, ho, m1, m2, m3, _, m4⟩ := dict2
    have tie2 : KT (upd H d (.dT (putK tab k z))) (putK tab k z) (storedH ys k t zv) := (tie.put k ht rz).keeps fun b items e => by
      rw [upd_ne (ne_of e hd (fun x => nomatch x))]
      exact e
    have hle2 : (putK tab k z).length ≤ sizeLine := by
      rw [putK_new _ ev, List.length_append]
      exact hlt
    have I2 := d_write (t' := s.toks + (tupleKind (mixKind X.prog X.w)).draws k) I (by rw [hd]; exact True.intro) but ⟨o, ho⟩ (ob := .dT (putK tab k z)) ⟨hle2, hsys, _, tie2, o, es, ep, ho, m1, m2, m3, m4⟩
    exact ⟨z, _, I2, rz, away ev⟩
end
section
variable {X : Cx} {p pos tpos : Pos} {e e2 : Expr} {ta : TA} {elts : List Expr} {kk : Nat}
theorem pi_zipAK (K : PySem.W.Frag) (hK : X.K = K) (hg : Gl X "zip") (hm : X.mg "zip" = none) (ha : PA X [e, e2] ta) (hs : starEach [e, e2] X.env = (false, eval e X.env) :: starEach [e2] X.env := by rfl) (hpl : (backTo pos (starEach [e2] X.env)).any (·.1) = false := by rfl) :
    PI X (.Tuple elts kk tpos) (.Call (.Name "zip" p) [e, e2] [] pos) (RZ.iZipA K ta) := by subst hK; exact RZ.pi_zipA hg hm ha hs hpl
end
section
variable {K : PySem.W.Frag} {σ : L2.St} {H : Hp} {Q : VK}
theorem rd_iZA {tr : TA} {R : It → Hp → Prop} (h : tr σ H fun vs H1 => ∃ a b xs ys, vs = [.ref a, .ref b] ∧ ((SqL K H1 a xs ∧ SqL K H1 b ys ∧ R (Itz K a b) H1) ∨ (SqT K H1 a xs ∧ SqT K H1 b ys ∧ R (RZ.ItzT K a b) H1))) : RZ.iZipA K tr σ H R := h
theorem rd_tyD {l : Addr} {xs : List (Key × V)} {R : Prop} (h1 : H l = some (.dK xs)) (q : R) : tyV K "dict" (.ref l) H ∧ R := ⟨Or.inr (Or.inr (Or.inl ⟨rfl, Or.inl ⟨_, h1⟩⟩)), q⟩
theorem rd_tyDT {l : Addr} {xs : List (List Key × V)} {R : Prop} (h1 : H l = some (.dT xs)) (q : R) : tyV K "dict" (.ref l) H ∧ R := ⟨Or.inr (Or.inr (Or.inl ⟨rfl, Or.inr ⟨_, h1⟩⟩)), q⟩
theorem rd_iK {td : TE} {R : It → Hp → Prop} (h : td σ H fun x H1 => ∃ d o, x = .ref d ∧ ((∃ kvs, H1 d = some (.frz o (.dK kvs)) ∧ R (Itk d o kvs) H1) ∨ ∃ kvs, H1 d = some (.frz o (.dT kvs)) ∧ R (Itkt d o kvs) H1)) : iKeys td σ H R := h
theorem shaped_tup {ns : List Int} : SeqAt.shaped (.tuple (ns.map PyData.int)) = true := by
  have h1 := depth_ints ns
  have h2 := lay_ints ns
  have h3 : PyData.depth (.tuple (ns.map PyData.int)) ≤ 64 := by
    simp only [PyData.depth]
    omega
  unfold SeqAt.shaped
  rw [decide_eq_true h3, Bool.and_true]
  simp only [PyData.canLay0, h2]
theorem rd_neDT {p p' : Addr} {ns ms : List Int} (h1 : H p = some (.tup (ns.map V.int))) (h2 : H p' = some (.tup (ms.map V.int)))
    (q : Q (.bl (!PyData.eqv (.tuple (ns.map PyData.int)) (.tuple (ms.map PyData.int)))) H) : rNeD K (.ref p) (.ref p') H Q := ⟨_, _, .tup (SqT.of h1) dp_ints, .tup (SqT.of h2) dp_ints, shaped_tup, shaped_tup, q⟩
theorem eqvT_refl (ns : List Int) : PyData.eqv (.tuple (ns.map PyData.int)) (.tuple (ns.map PyData.int)) = true := SeqAt.eqv_refl _ (by simp only [PyData.canLay0]; exact lay_ints ns)
end
theorem eqvAll_ints : ∀ ns ms : List Int, PyData.eqvAll (ns.map PyData.int) (ms.map PyData.int) = decide (ns = ms)
  | [], [] => by simp [PyData.eqvAll]
  | [], _ :: _ => by simp [PyData.eqvAll]
  | _ :: _, [] => by simp [PyData.eqvAll]
  | n :: ns, m :: ms => by
    simp only [List.map_cons, PyData.eqvAll, PyData.eqv, eqvAll_ints ns ms, List.cons.injEq]
    by_cases a : n = m <;> by_cases b : ns = ms <;> simp [a, b]
theorem shaped_list {ns : List Int} : SeqAt.shaped (.list (ns.map PyData.int)) = true := by
  have h1 := depth_ints ns
  have h2 := lay_ints ns
  have h3 : PyData.depth (.list (ns.map PyData.int)) ≤ 64 := by
    simp only [PyData.depth]
    omega
  unfold SeqAt.shaped
  rw [decide_eq_true h3, Bool.and_true]
  simp only [PyData.canLay0, h2]
/-- lists, tuples of whole numbers, compared -/
theorem rd_eqLI {K : PySem.W.Frag} {H : Hp} {Q : VK} {p p' : Addr} {ns ms : List Int} (h1 : SqL K H p (ns.map V.int)) (h2 : SqL K H p' (ms.map V.int)) (q : Q (.bl (decide (ns = ms))) H) : rEqD K (.ref p) (.ref p') H Q :=
  rd_eqDI h1 h2 shaped_list shaped_list (by
    have e : PyData.eqv (.list (ns.map PyData.int)) (.list (ms.map PyData.int)) = decide (ns = ms) := by rw [← eqvAll_ints]; simp only [PyData.eqv]
    rw [e]; exact q)
theorem rd_neLI {K : PySem.W.Frag} {H : Hp} {Q : VK} {p p' : Addr} {ns ms : List Int} (h1 : SqL K H p (ns.map V.int)) (h2 : SqL K H p' (ms.map V.int)) (q : Q (.bl (!decide (ns = ms))) H) : rNeD K (.ref p) (.ref p') H Q :=
  rd_neDI h1 h2 shaped_list shaped_list (by
    have e : PyData.eqv (.list (ns.map PyData.int)) (.list (ms.map PyData.int)) = decide (ns = ms) := by rw [← eqvAll_ints]; simp only [PyData.eqv]
    rw [e]; exact q)
theorem rd_neTI {K : PySem.W.Frag} {H : Hp} {Q : VK} {p p' : Addr} {ns ms : List Int} (h1 : H p = some (.tup (ns.map V.int))) (h2 : H p' = some (.tup (ms.map V.int))) (q : Q (.bl (!decide (ns = ms))) H) : rNeD K (.ref p) (.ref p') H Q :=
  rd_neDT h1 h2 (by
    have e : PyData.eqv (.tuple (ns.map PyData.int)) (.tuple (ms.map PyData.int)) = decide (ns = ms) := by rw [← eqvAll_ints]; simp only [PyData.eqv]
    rw [e]; exact q)
theorem mm_setdT : MonM rSetdT := fun x y H Q Q' h ⟨d, t, k, z, tab, e1, e2, e3, e4, e5, q1, q2⟩ => ⟨d, t, k, z, tab, e1, e2, e3, e4, e5, fun v hv => h _ _ (q1 v hv), fun hv => h _ _ (q2 hv)⟩
theorem mr_neD {K : PySem.W.Frag} : MonR (rNeD K) := fun x y H Q Q' h ⟨a, b, e1, e2, e3, e4, q⟩ => ⟨a, b, e1, e2, e3, e4, h _ _ q⟩
theorem mr_eqD {K : PySem.W.Frag} : MonR (rEqD K) := fun x y H Q Q' h ⟨a, b, e1, e2, e3, e4, q⟩ => ⟨a, b, e1, e2, e3, e4, h _ _ q⟩
/-! own objects beside a grove: lists, dicts -/
structure OwnO (a : GA) (rows : List (Int × Addr)) (H : Hp) (l : List (Addr × HO)) : Prop where
  nd : (l.map (·.1)).Nodup
  at_ : ∀ p o, (p, o) ∈ l → H p = some o
  mv : ∀ p o, (p, o) ∈ l → ¬ HO.still o
  out : ∀ p o, (p, o) ∈ l → p ∉ a.muts rows
theorem OwnO.same {a : GA} {rows : List (Int × Addr)} {H H' : Hp} {l : List (Addr × HO)} (h : OwnO a rows H l) (s : Same H H') : OwnO a rows H' l := ⟨h.nd, fun p xs m => s _ _ (h.at_ p xs m), h.mv, h.out⟩
theorem OwnO.step {C : Addr} {H H1 : Hp} {a : GA} {rows r1 : List (Int × Addr)} {q q1 : List Sq} {l : List (Addr × HO)} (h : OwnO a rows H l) (x : GStep C H a rows q H1 r1 q1) : OwnO a r1 H1 l :=
  ⟨h.nd, fun p xs m => (x.own (h.at_ p xs m) (h.out p xs m)).1, h.mv, fun p xs m => (x.own (h.at_ p xs m) (h.out p xs m)).2⟩
theorem OwnO.nil {a : GA} {rows : List (Int × Addr)} {H : Hp} : OwnO a rows H [] := ⟨by simp, fun _ _ m => by simp at m, fun _ _ m => by simp at m, fun _ _ m => by simp at m⟩
theorem OwnO.new {C : Addr} {a : GA} {rows : List (Int × Addr)} {q : List Sq} {H : Hp} {l : List (Addr × HO)} {p : Addr} {o : HO} (h : OwnO a rows H l) (G : GAt C H a rows q) (hp : H p = none) (ho : ¬ HO.still o) : OwnO a rows (upd H p o) ((p, o) :: l) := by
  refine ⟨?_, fun p' ys m => ?_, fun p' ys m => ?_, fun p' ys m => ?_⟩
  · rw [List.map_cons, List.nodup_cons]
    refine ⟨fun z => ?_, h.nd⟩
    obtain ⟨⟨p', ys⟩, m, e⟩ := List.mem_map.mp z
    have e' : p' = p := e
    subst e'
    rw [h.at_ _ _ m] at hp
    cases hp
  · rcases List.mem_cons.mp m with m | m
    · cases m; exact upd_same
    · exact same_upd hp _ _ (h.at_ _ _ m)
  · rcases List.mem_cons.mp m with m | m
    · cases m; exact ho
    · exact h.mv _ _ m
  · rcases List.mem_cons.mp m with m | m
    · cases m; exact G.new_out hp
    · exact h.out _ _ m
theorem OwnO.ix {a : GA} {rows : List (Int × Addr)} {H : Hp} {l : List (Addr × HO)} {p : Addr} {o : HO} (h : OwnO a rows H l) (i : Nat) (e : l[i]? = some (p, o)) : H p = some o := h.at_ p o (List.mem_of_getElem? e)
theorem mem_set {α : Type} {l : List α} {i : Nat} {y x : α} (h : x ∈ l.set i y) : x = y ∨ ∃ j, j ≠ i ∧ l[j]? = some x := by
  obtain ⟨j, hj, e⟩ := List.mem_iff_getElem.mp h
  by_cases z : i = j
  · subst z; left; rw [← e, List.getElem_set_self]
  · right
    refine ⟨j, Ne.symm z, ?_⟩
    rw [List.getElem_set_ne z] at e
    rw [List.length_set] at hj
    rw [at_get hj, e]
theorem OwnO.ne {a : GA} {rows : List (Int × Addr)} {H : Hp} {l : List (Addr × HO)} (h : OwnO a rows H l) {i j : Nat} {p p' : Addr} {o o' : HO} (e : l[i]? = some (p, o)) (e' : l[j]? = some (p', o')) (n : j ≠ i) : p' ≠ p := fun z => by
  obtain ⟨hi, ei⟩ := List.getElem?_eq_some_iff.mp e
  obtain ⟨hj, ej⟩ := List.getElem?_eq_some_iff.mp e'
  exact n ((List.getElem_inj (xs := l.map (·.1)) (h₀ := by simpa using hj) (h₁ := by simpa using hi) h.nd).mp (by simp [ei, ej, z]))
theorem OwnO.put {a : GA} {rows : List (Int × Addr)} {H : Hp} {l : List (Addr × HO)} {p : Addr} {o : HO} (h : OwnO a rows H l) (i : Nat) (e : l[i]? = some (p, o)) (o' : HO) (ho : ¬ HO.still o') : OwnO a rows (upd H p o') (l.set i (p, o')) := by
  have nd' : ((l.set i (p, o')).map (·.1)) = l.map (·.1) := by
    rw [List.map_set]
    obtain ⟨hi, ei⟩ := List.getElem?_eq_some_iff.mp e
    refine List.ext_getElem (by simp) fun j h1 h2 => ?_
    by_cases z : i = j
    · subst z; simp [ei]
    · rw [List.getElem_set_ne z]
  have cases_ : ∀ p' u, (p', u) ∈ l.set i (p, o') → (p' = p ∧ u = o') ∨ (p' ≠ p ∧ (p', u) ∈ l) := fun p' u m => by
    rcases mem_set m with m | ⟨j, hj, m⟩
    · cases m; exact .inl ⟨rfl, rfl⟩
    · exact .inr ⟨h.ne e m hj, List.mem_of_getElem? m⟩
  refine ⟨by rw [nd']; exact h.nd, fun p' u m => ?_, fun p' u m => ?_, fun p' u m => ?_⟩
  · rcases cases_ p' u m with ⟨rfl, rfl⟩ | ⟨n, m⟩
    · exact upd_same
    · rw [upd_ne n]; exact h.at_ _ _ m
  · rcases cases_ p' u m with ⟨rfl, rfl⟩ | ⟨n, m⟩
    · exact ho
    · exact h.mv _ _ m
  · rcases cases_ p' u m with ⟨rfl, rfl⟩ | ⟨n, m⟩
    · exact h.out _ o (List.mem_of_getElem? e)
    · exact h.out _ _ m
theorem GAt.ownO {C : Addr} {H : Hp} {a : GA} {rows : List (Int × Addr)} {q : List Sq} {l : List (Addr × HO)} {p : Addr} {o : HO} (G : GAt C H a rows q) (h : OwnO a rows H l) (i : Nat) (e : l[i]? = some (p, o)) (o' : HO) : GAt C (L2.upd H p o') a rows q :=
  G.upd (fun u e' => by rw [h.ix i e] at e'; cases e'; exact h.mv _ _ (List.mem_of_getElem? e)) (h.out _ _ (List.mem_of_getElem? e))
theorem OwnO.tup {a : GA} {rows : List (Int × Addr)} {H : Hp} {l : List (Addr × HO)} {p : Addr} {o : HO} (h : OwnO a rows H l) (i : Nat) (e : l[i]? = some (p, o)) (o' : HO) : Tup H (L2.upd H p o') := fun b ys e' => by
  rw [upd_ne (by rintro rfl; rw [h.ix i e] at e'; cases e'; exact h.mv _ _ (List.mem_of_getElem? e) trivial)]; exact e'
/-! the law's promise -/
def sp_law (K : PySem.W.Frag) : Sp := fun vs H Q _ => ∃ (a : Addr) (ns : List Int), vs = [.ref a] ∧ SqL K H a (ns.map V.int) ∧ ns.length ≤ 63 ∧ Only H ∧ ∀ H', Q (.bl true) H'
theorem sp_law_in {K : PySem.W.Frag} (H : Hp) (a : Addr) (ns : List Int) (hl : ns.length ≤ 63) (hO : Only H) (hS : SqL K H a (ns.map V.int)) : sp_law K [.ref a] H (fun v _ => v = .bl true) (fun _ _ _ => False) := ⟨a, ns, rfl, hS, hl, hO, fun _ => rfl⟩
theorem shl_ok {i : Nat} : (1 : Int) * 2 ^ ((i : Int)).toNat = 2 ^ i := by rw [Int.one_mul, Int.toNat_natCast]
/-! solid squares: what lives, the span -/
theorem even_none : ∀ l : Nat, (Sq.even l 0).lives = 0 ∧ (Sq.even l 0).span = none
  | 0 => ⟨rfl, rfl⟩
  | l + 1 => by
    obtain ⟨h1, h2⟩ := even_none l
    refine ⟨?_, ?_⟩
    · show (Sq.even l 0).lives + (Sq.even l 0).lives + (Sq.even l 0).lives + (Sq.even l 0).lives = 0
      rw [h1]; rfl
    · show r4 _ (Sq.even l 0).span (Sq.even l 0).span (Sq.even l 0).span (Sq.even l 0).span = none
      rw [h2]; rfl
theorem even_some {s : Int} (hs : s ≠ 0) : ∀ l : Nat, (Sq.even l s).lives = 2 ^ l * 2 ^ l ∧ (Sq.even l s).span = some (0, 0, 2 ^ l, 2 ^ l)
  | 0 => by simp [Sq.even, Sq.lives, Sq.span, hs]
  | l + 1 => by
    obtain ⟨h1, h2⟩ := even_some hs l
    have e : (2 : Int) ^ (l + 1) = 2 * 2 ^ l := by rw [Int.pow_succ]; omega
    have h0 : (0 : Int) < 2 ^ l := Int.pow_pos (by decide)
    refine ⟨?_, ?_⟩
    · show (Sq.even l s).lives + (Sq.even l s).lives + (Sq.even l s).lives + (Sq.even l s).lives = _
      rw [h1, e]
      generalize (2 : Int) ^ l = h
      have e2 : 2 * h * (2 * h) = 4 * (h * h) := by rw [Int.mul_assoc, Int.mul_left_comm h 2 h, ← Int.mul_assoc]; rfl
      rw [e2]; omega
    · show r4 (2 ^ (Sq.even l s).level) (Sq.even l s).span (Sq.even l s).span (Sq.even l s).span (Sq.even l s).span = _
      rw [h2, Sq.level_even, e]
      generalize (2 : Int) ^ l = h at h0
      simp only [r4, r4step, rb, Option.some.injEq, Prod.mk.injEq]
      refine ⟨?_, ?_, ?_, ?_⟩ <;> omega
theorem even_inj {s s' : Int} : ∀ {l l' : Nat}, Sq.even l s = Sq.even l' s' → l = l' ∧ s = s'
  | 0, 0, h => by cases h; exact ⟨rfl, rfl⟩
  | 0, _ + 1, h => by cases h
  | _ + 1, 0, h => by cases h
  | l + 1, l' + 1, h => by
    injection h with h1
    obtain ⟨a, b⟩ := even_inj h1
    exact ⟨by rw [a], b⟩
theorem pow64 {i : Nat} (h : i ≤ 60) : (0 : Int) < 2 ^ i ∧ (2 : Int) ^ i < 2 ^ 64 := by
  refine ⟨Int.pow_pos (by decide), ?_⟩
  have e2 : 2 ^ i < 2 ^ 64 := Nat.pow_lt_pow_right (by decide) (by omega)
  exact_mod_cast e2
theorem sq_ok {i : Nat} (h : i ≤ 60) : CMulW ((2 : Int) ^ i) (2 ^ i) := by
  obtain ⟨h1, h2⟩ := pow64 h
  have e1 : (2 : Int) ^ 64 ≤ 2 ^ 2000 := by decide +kernel
  exact mulW_of (by omega) (by omega) (by omega) (by omega)
section
variable {P : Program} {w : World} {K : PySem.W.Frag} {mg : Str → Option Value} {base : Heap}
def sp_same : Sp := fun vs H Q _ => ∃ i d : Int, vs = [.int i, .int d] ∧ Q (.bl (decide (i = d))) H
theorem mp_same : MonP sp_same := fun vs H Q Q' E h ⟨i, d, x1, q⟩ => ⟨i, d, x1, h _ _ q⟩
theorem sp_sameT {i : Int} {H : Hp} {Q : VK} {E : XK} (q : Q (.bl true) H) : sp_same [.int i, .int i] H Q E := ⟨i, i, rfl, by rw [decide_eq_true rfl]; exact q⟩
end
end JF

/-! ### helpers of the laws: the script beside a grove -/
namespace JF
open PySem PySem.Spec PyProof.Rows L2
/-- the script stays as it was, and is none of the grove's own -/
def Scr (H0 : Hp) (a0 : Addr) (a : GA) (rows : List (Int × Addr)) (H : Hp) : Prop := ∀ o, H0 a0 = some o → H a0 = some o ∧ a0 ∉ a.muts rows
theorem Scr.new {H0 H1 : Hp} {a0 : Addr} {a : GA} (hnew : ∀ b ∈ a.muts [], H0 b = none) (sm : Same H0 H1) : Scr H0 a0 a [] H1 := fun o e => ⟨sm _ _ e, fun z => by
  have y := hnew _ z
  rw [e] at y
  cases y⟩
theorem Scr.same {H0 H H' : Hp} {a0 : Addr} {a : GA} {rows : List (Int × Addr)} (h : Scr H0 a0 a rows H) (s : Same H H') : Scr H0 a0 a rows H' := fun o e => ⟨s _ _ (h o e).1, (h o e).2⟩
theorem Scr.step {C : Addr} {H0 H H1 : Hp} {a0 : Addr} {a : GA} {rows r1 : List (Int × Addr)} {q q1 : List Sq} (h : Scr H0 a0 a rows H) (x : GStep C H a rows q H1 r1 q1) : Scr H0 a0 a r1 H1 := fun o e => x.own (h o e).1 (h o e).2
theorem Scr.put {H0 H : Hp} {a0 p : Addr} {a : GA} {rows : List (Int × Addr)} {xs : List V} {o' : HO} (h : Scr H0 a0 a rows H) (hO : Only H0) (hp : H p = some (.lst xs)) : Scr H0 a0 a rows (upd H p o') := fun o e => by
  refine ⟨?_, (h o e).2⟩
  rw [upd_ne]
  · exact (h o e).1
  · rintro rfl
    rw [(h o e).1] at hp
    cases hp
    rcases hO a0 with z | ⟨u, ys, z⟩
    · rw [z] at e; cases e
    · rw [z] at e; cases e
theorem Scr.sq {K : PySem.W.Frag} {H0 H : Hp} {a0 : Addr} {a : GA} {rows : List (Int × Addr)} {xs : List V} (h : Scr H0 a0 a rows H) (hS : SqL K H0 a0 xs) : SqL K H a0 xs := sqL_on hS fun o e => (h o e).1
/-- the number read at a place -/
theorem rd_at {K : PySem.W.Frag} {H : Hp} {Q : VK} {E : XK} {a0 : Addr} {ns : List Int} {k : Int} (hs : SqL K H a0 (ns.map V.int)) (h0 : 0 ≤ k) (q : Q (.int (atN ns k.toNat)) H) : sp_at K [.ref a0, .int k] H Q E := ⟨a0, ns, k, rfl, hs, h0, q⟩
theorem nat_of {z : Int} (h : 0 ≤ z) : ∃ n : Nat, z = (n : Int) := ⟨z.toNat, by omega⟩
/-- range(i, j, c), small and upwards -/
theorem rgc_up {i j c : Int} (h1 : 0 ≤ i) (h2 : i ≤ 1000) (h3 : 0 ≤ j) (h4 : j ≤ 1000) (h5 : 1 ≤ c) (h6 : c ≤ 1000) : ∃ n : Nat, RgC i j c n ∧ ∀ k : Nat, k < n → i + (k : Int) * c < j := by
  have hq : 0 ≤ (j - i + c - 1) / c ∨ j ≤ i := by
    rcases Int.lt_or_le i j with h | h
    · left; exact Int.ediv_nonneg (by omega) (by omega)
    · exact .inr h
  have hle : (j - i + c - 1) / c ≤ 3000 := by
    rcases Int.lt_or_le (j - i + c - 1) 0 with h | h
    · have := Int.ediv_neg_of_neg_of_pos h (by omega : 0 < c); omega
    · exact Int.le_trans (Int.ediv_le_self _ h) (by omega)
  have es : Builtin.Range.rangeSize i j c = if i < j then (j - i - 1) / c + 1 else 0 := by
    unfold Builtin.Range.rangeSize
    rw [if_pos (by omega : c > 0)]
  have hdn : i < j → 0 ≤ (j - i - 1) / c := fun h => Int.ediv_nonneg (by omega) (by omega)
  have hdl : i < j → (j - i - 1) / c ≤ 1000 := fun h => Int.le_trans (Int.ediv_le_self _ (by omega)) (by omega)
  refine ⟨(Builtin.Range.rangeSize i j c).toNat, ⟨by omega, by omega, ?_, ?_⟩, fun k hk => ?_⟩
  · unfold Builtin.Range.small
    rw [es]
    simp only [Builtin.Range.rangeFitsLong, Bool.and_eq_true, Bool.or_eq_true, decide_eq_true_eq, beq_iff_eq, show c > 0 by omega, if_true]
    split
    · have a := hdn (by assumption); have b := hdl (by assumption); omega
    · omega
  · rw [es]
    split
    · have a := hdn (by assumption); omega
    · rfl
  · rw [es] at hk
    split at hk
    · have a := hdn (by assumption)
      have e := Int.mul_ediv_add_emod (j - i - 1) c
      have r := Int.emod_nonneg (j - i - 1) (by omega : c ≠ 0)
      have hk' : (k : Int) ≤ (j - i - 1) / c := by omega
      have hm : (k : Int) * c ≤ (j - i - 1) / c * c := Int.mul_le_mul_of_nonneg_right hk' (by omega)
      rw [Int.mul_comm ((j - i - 1) / c) c] at hm
      omega
    · omega
theorem rd_rng3 {i j c : Int} {R : It → Prop} (h1 : 0 ≤ i) (h2 : i ≤ 1000) (h3 : 0 ≤ j) (h4 : j ≤ 1000) (h5 : 1 ≤ c) (h6 : c ≤ 1000) (h : ∀ n : Nat, (∀ k : Nat, k < n → i + (k : Int) * c < j) → R (Itc i c n)) : ∃ (i' j' c' : Int) (n : Nat), [V.int i, V.int j, V.int c] = [.int i', .int j', .int c'] ∧ RgC i' j' c' n ∧ R (Itc i' c' n) := by
  obtain ⟨n, a, b⟩ := rgc_up h1 h2 h3 h4 h5 h6
  exact ⟨i, j, c, n, rfl, a, h n b⟩
end JF

/-! ### walks that the hand layer lacks: zip over lists and tuples alike, enumerate of a text -/
namespace JF
open PySem PySem.Spec PyProof.Rows L2
/-- a tuple, or a list -/
def sqB (t : Bool) (K : PySem.W.Frag) (H : Hp) (a : Addr) (xs : List V) : Prop := match t with
  | true => SqT K H a xs
  | false => SqL K H a xs
def isB (t : Bool) (h : Heap) (a : Addr) (its : Array Value) : Prop := match t with
  | true => h.IsTuple a its
  | false => h.IsList a its
def itB (t : Bool) (h : Heap) (it a : Addr) (i : Nat) : Prop := match t with
  | true => h.IsTupleIter it a i
  | false => h.IsListIter it a i
def obB (t : Bool) (a : Addr) : Obj := match t with
  | true => { cls := .type "tuple_iterator", data := .fields #[.ref a, .int 0 0] }
  | false => { cls := .type "list_iterator", data := .fields #[.ref a, .int 0 0] }
theorem itB.obj {t : Bool} {h : Heap} {it a : Addr} {i : Nat} (s : itB t h it a i) : ∃ o vs, h.get? it = some o ∧ o.data = .fields vs := by
  cases t with
  | true => obtain ⟨o, e, _, d⟩ := s; exact ⟨o, _, e, d⟩
  | false => obtain ⟨o, e, _, d⟩ := s; exact ⟨o, _, e, d⟩
theorem itB.at {t : Bool} {h h' : Heap} {it a : Addr} {i : Nat} (s : itB t h it a i) (k : ∀ o, h.get? it = some o → h'.get? it = some o) : itB t h' it a i := by
  cases t with
  | true => exact Heap.IsTupleIter.at s k
  | false => exact Heap.IsListIter.at s k
theorem isB.at {t : Bool} {h h' : Heap} {a : Addr} {its : Array Value} (s : isB t h a its) (k : ∀ o, h.get? a = some o → h'.get? a = some o) : isB t h' a its := by
  cases t with
  | true => exact Heap.IsTuple.at s k
  | false => exact Heap.IsList.at s k
theorem isB.lt {t : Bool} {h : Heap} {a : Addr} {its : Array Value} (s : isB t h a its) : a < h.objs.size := by
  cases t with
  | true => obtain ⟨o, e, _⟩ := s; exact Heap.lt_size e
  | false => obtain ⟨o, e, _⟩ := s; exact Heap.lt_size e
theorem isB.ne {t u : Bool} {h : Heap} {a b it : Addr} {i : Nat} {its : Array Value} (p : isB t h a its) (s : itB u h it b i) : a ≠ it := fun q => by
  obtain ⟨o', vs, e', d'⟩ := s.obj
  rw [← q] at e'
  cases t with
  | true => obtain ⟨o, e, _, n, d⟩ := p; rw [e] at e'; cases e'; rw [d] at d'; cases d'
  | false => obtain ⟨o, e, _, n, d⟩ := p; rw [e] at e'; cases e'; rw [d] at d'; cases d'
theorem drawsB {P : Program} {w : World} {A : Around} (hh : A.handled = none) (t : Bool) (it a : Addr) (hne : a ≠ it) (its : Array Value) :
    Draws P w A it [it, a] its.size (fun i v => its[i]? = some v) (fun i h => itB t h it a i ∧ isB t h a its) := by
  cases t with
  | true => exact Draws.tuple hh it a hne its
  | false => exact Draws.list hh it a hne its
theorem beginsB (t : Bool) (a : Addr) (its : Array Value) : Begins (.ref a) (obB t a) fun h => isB t h a its := by
  cases t with
  | true => exact begins_tuple a its
  | false => exact begins_list a its
theorem itB0 {t : Bool} {h : Heap} {it a : Addr} (e : h.get? it = some (obB t a)) : itB t h it a 0 := by
  cases t with
  | true => exact ⟨_, e, rfl, rfl⟩
  | false => exact ⟨_, e, rfl, rfl⟩
theorem sqB_inv {X : Cx} {pins : List (Addr × Obj)} {σ : L2.St} {H : Hp} {s : Shared} {t : Bool} {a : Addr} {xs : List V} (I : Inv X pins σ H s) (h : sqB t X.K H a xs) : ∃ its : List Value, Vals xs its ∧ isB t s.heap a its.toArray := by
  cases t with
  | true => obtain ⟨its, r, p, _⟩ := I.tuple h; exact ⟨its, r, p⟩
  | false => obtain ⟨its, r, p, _⟩ := I.list h; exact ⟨its, r, p.isList⟩
theorem sqB_inj {X : Cx} {pins : List (Addr × Obj)} {σ : L2.St} {H : Hp} {s : Shared} {t : Bool} {a : Addr} {xs ys : List V} (I : Inv X pins σ H s) (h : sqB t X.K H a xs) (h' : sqB t X.K H a ys) : xs = ys := by
  cases t with
  | true => exact I.tuple_inj h h'
  | false => exact I.list_inj h h'
/-- the things at a and b, in step, each turn a new pair -/
def ItzQ (K : PySem.W.Frag) (t u : Bool) (a b : Addr) : It :=
  ⟨fun i H => ∃ (xs ys : List V) (x y : V), sqB t K H a xs ∧ sqB u K H b ys ∧ xs[i]? = some x ∧ ys[i]? = some y,
    fun i H v H' => ∃ T x y, v = .ref T ∧ H T = none ∧ H' = upd H T (.tup [x, y]) ∧ (∀ xs, sqB t K H a xs → xs[i]? = some x) ∧ ∀ ys, sqB u K H b ys → ys[i]? = some y,
    fun i H => ∃ xs ys : List V, sqB t K H a xs ∧ sqB u K H b ys ∧ i ≤ xs.length ∧ i ≤ ys.length ∧ (xs.length = i ∨ ys.length = i)⟩
theorem turn_zipQ {P : Program} {w : World} {K : PySem.W.Frag} {elts : List Expr} {kk : Nat} {tpos : Pos} {t u : Bool} {a b z TI TO i1 i2 : Addr} (D : ZipSep2 z TI TO i1 i2 [i1, a] [i2, b]) :
    Turn P w K (.Tuple elts kk tpos) (ItzQ K t u a b) [z, TI, TO, i1, i2] z (fun i h => IsZip h z TI TO .none ∧ IsPair h TI (.ref i1) (.ref i2) ∧ (∃ x y, IsPair h TO x y) ∧ itB t h i1 a i ∧ itB u h i2 b i) where
  mem := by simp
  obj := fun i h st c hc => by
    obtain ⟨hz, hI, ⟨x, y, hO⟩, h1, h2⟩ := st
    obtain ⟨o1, v1, e1, d1⟩ := h1.obj
    obtain ⟨o2, v2, e2, d2⟩ := h2.obj
    have five : c = z ∨ c = TI ∨ c = TO ∨ c = i1 ∨ c = i2 := by simpa using hc
    rcases five with rfl | rfl | rfl | rfl | rfl
    · exact ⟨_, hz, fun v q => nomatch q⟩
    · exact ⟨_, hI, fun v q => nomatch q⟩
    · exact ⟨_, hO, fun v q => nomatch q⟩
    · exact ⟨o1, e1, fun v q => by rw [d1] at q; cases q⟩
    · exact ⟨o2, e2, fun v q => by rw [d2] at q; cases q⟩
  keep := fun i h h' st k => by
    obtain ⟨hz, hI, ⟨x, y, hO⟩, h1, h2⟩ := st
    exact ⟨k _ (by simp) _ hz, k _ (by simp) _ hI, ⟨x, y, k _ (by simp) _ hO⟩, h1.at fun o => k _ (by simp) o, h2.at fun o => k _ (by simp) o⟩
  item := by
    intro X eP ew eK hc i pins s σ H E I hf st hg
    subst eP ew eK
    obtain ⟨hz, hI, ⟨x0, y0, hO⟩, h1, h2⟩ := st
    obtain ⟨xs, ys, x, y, qa, qb, hx, hy⟩ := hg
    obtain ⟨its, rv, p⟩ := sqB_inv I qa
    obtain ⟨its2, rv2, p2⟩ := sqB_inv I qb
    obtain ⟨v, hv, ru⟩ := rv.get hx
    obtain ⟨v2, hv2, ru2⟩ := rv2.get hy
    have l1 : i < its.toArray.size := by rw [List.size_toArray]; exact (List.getElem?_eq_some_iff.mp hv).1
    have l2 : i < its2.toArray.size := by rw [List.size_toArray]; exact (List.getElem?_eq_some_iff.mp hv2).1
    have zl := Heap.lt_size hz
    obtain ⟨o1, _, e1, _⟩ := h1.obj
    obtain ⟨o2, _, e2, _⟩ := h2.obj
    have na : a ≠ i1 := p.ne h1
    have nb : b ≠ i2 := p2.ne h2
    refine wpAny_pyNext_zipD2_item D (drawsB (P := X.prog) (w := X.w) (A := X.A.in1) (show X.A.in1.handled = none from I.ok.hd hc) t i1 a na its.toArray) (drawsB (P := X.prog) (w := X.w) (A := X.A.in1) (show X.A.in1.handled = none from I.ok.hd hc) u i2 b nb its2.toArray) hz hI hO ⟨h1, p⟩ ⟨h2, p2⟩ l1 l2 fun w1 w2 g tk m1 m2 z' tO d1 d2 hT hsz hk => ?_
    have ew1 : w1 = v := by
      have q : its.toArray[i]? = some v := by simpa using hv
      exact Option.some.inj (m1.symm.trans q)
    have ew2 : w2 = v2 := by
      have q : its2.toArray[i]? = some v2 := by simpa using hv2
      exact Option.some.inj (m2.symm.trans q)
    subst ew1 ew2
    refine ⟨_, rfl, wpAny_letOwnedTupleGo_zip (s := { s with heap := g, toks := tk }) z' fun g2 z2 sb => ?_⟩
    have hT2 : g2.get? s.heap.objs.size = some { cls := .type "tuple", data := .seq #[w1, w2] } := (sb.2 _ (Nat.ne_of_gt zl)).trans hT
    have hob : ObjOk X.prog X.w (upd H s.heap.objs.size (.tup [x, y])) g2 s.heap.objs.size (.tup [x, y]) :=
      ⟨by show 2 ≤ sizeLine; decide, [w1, w2], .cons ru (.cons ru2 .nil), _, hT2, rfl, _, rfl⟩
    have kk : ∀ c o, c ∉ [z, TI, TO, i1, i2] → s.heap.get? c = some o → g2.get? c = some o := fun c o hb e => by
      simp only [List.mem_cons, List.not_mem_nil, or_false, not_or] at hb
      exact (sb.2 c hb.1).trans (hk c o hb.1 hb.2.2.1 hb.2.2.2.1 hb.2.2.2.2 e)
    refine ⟨.ref s.heap.objs.size, _, I.turnedNew (t' := tk) kk hf (Nat.le_refl _) hob, rfl, ⟨_, x, y, rfl, I.hok.fresh (Nat.le_refl _), rfl, fun l hl => by rw [sqB_inj I hl qa]; exact hx, fun l hl => by rw [sqB_inj I hl qb]; exact hy⟩, ⟨z2, ?_, ⟨w1, w2, ?_⟩, ?_, ?_⟩, fun c hcm => ?_⟩
    · exact Eq.trans (sb.2 _ D.TIz) (hk _ _ D.TIz D.TITO D.TIi1 D.TIi2 hI)
    · exact (sb.2 _ D.TOz).trans tO
    · exact d1.1.at fun o q => (sb.2 _ (Ne.symm D.zi1)).trans q
    · exact d2.1.at fun o q => (sb.2 _ (Ne.symm D.zi2)).trans q
    · have lt : c < s.heap.objs.size := by
        have five : c = z ∨ c = TI ∨ c = TO ∨ c = i1 ∨ c = i2 := by simpa using hcm
        rcases five with rfl | rfl | rfl | rfl | rfl
        · exact zl
        · exact Heap.lt_size hI
        · exact Heap.lt_size hO
        · exact Heap.lt_size e1
        · exact Heap.lt_size e2
      rw [upd_ne (Nat.ne_of_lt lt)]
      exact (hf c hcm).1
  done := by
    intro X eP ew eK hc i pins s σ H E I hf st hg
    subst eP ew eK
    obtain ⟨hz, hI, ⟨x0, y0, hO⟩, h1, h2⟩ := st
    obtain ⟨xs, ys, qa, qb, lx, ly, hend⟩ := hg
    obtain ⟨its, rv, p⟩ := sqB_inv I qa
    obtain ⟨its2, rv2, p2⟩ := sqB_inv I qb
    have l1 := rv.length
    have l2 := rv2.length
    have na : a ≠ i1 := p.ne h1
    have nb : b ≠ i2 := p2.ne h2
    exact wpAny_pyNext_zipD2_end D (drawsB (P := X.prog) (w := X.w) (A := X.A.in1) (show X.A.in1.handled = none from I.ok.hd hc) t i1 a na its.toArray) (drawsB (P := X.prog) (w := X.w) (A := X.A.in1) (show X.A.in1.handled = none from I.ok.hd hc) u i2 b nb its2.toArray) hz hI hO ⟨h1, p⟩ ⟨h2, p2⟩ (by simp; omega) (by simp; omega) (by simp; omega) fun g tk hk =>
      ⟨rfl, I.turnedL (t' := tk) (ch := [z, TI, TO, i1, i2]) (fun c o hb q => by
        simp only [List.mem_cons, List.not_mem_nil, or_false, not_or] at hb
        exact hk c o hb.1 hb.2.2.1 hb.2.2.2.1 hb.2.2.2.2 q) hf⟩
  self := fun A i s Q E sg => wpAny_pyIter_zip sg.1
theorem sep2 (I l1 l2 : Nat) (h1 : l1 < I) (h2 : l2 < I) : ZipSep2 (I + 4) (I + 2) (I + 3) I (I + 1) [I, l1] [I + 1, l2] := by
  have n0 : ∀ {x y : Nat}, x ≠ y → ¬ ((x : Addr) = y) := fun h => h
  constructor
  all_goals first
    | exact List.mem_cons_self
    | (intro q; rcases List.mem_cons.mp q with q | q
       · revert q; refine n0 ?_; omega
       · rw [List.mem_singleton] at q; revert q; refine n0 ?_; omega)
    | (refine n0 ?_; omega)
def iZipQ (K : PySem.W.Frag) (t u : Bool) (ta : TA) : TI := fun σ H R => ta σ H fun vs H1 => ∃ a b xs ys, vs = [.ref a, .ref b] ∧ sqB t K H1 a xs ∧ sqB u K H1 b ys ∧ R (ItzQ K t u a b) H1
theorem pi_zipQ {X : Cx} (K : PySem.W.Frag) (hK : X.K = K) (t u : Bool) {e e2 : Expr} {ta : TA} {p pos tpos : Pos} {elts : List Expr} {kk : Nat} (hg : Gl X "zip") (hm : X.mg "zip" = none) (ha : PA X [e, e2] ta)
    (hs : starEach [e, e2] X.env = (false, eval e X.env) :: starEach [e2] X.env := by rfl) (hpl : (backTo pos (starEach [e2] X.env)).any (·.1) = false := by rfl) : PI X (.Tuple elts kk tpos) (.Call (.Name "zip" p) [e, e2] [] pos) (iZipQ K t u ta) := by
  subst hK
  refine ⟨fun pins s σ H R I hh => ?_⟩
  refine Call_ (ld_blt I hg hm PyProof.Rows.boot_zip (PyProof.Rows.callWith_type1 (thn (ha.run pos pins s σ H _ I hh) fun _ s1 ⟨_, H1, I1, r1, q1⟩ => ?_) hs hpl))
  obtain ⟨a, b, xs, ys, rfl, qa, qb, q⟩ := q1
  obtain ⟨v1, v2, rfl, r, r'⟩ := vals2 r1
  cases r
  cases r'
  obtain ⟨its, rv, p1⟩ := sqB_inv I1 qa
  obtain ⟨its2, rv2, p2⟩ := sqB_inv I1 qb
  refine zip_begins2 (beginsB t a its.toArray) (beginsB u b its2.toArray) p1 p2 fun g hz hI hO h1 h2 hsz hk => wpAny_pyIter_zip hz ?_
  have I2 : Inv X pins σ H1 { s1 with heap := g } := I1.kept (t' := s1.toks) hk
  refine ⟨s1.heap.objs.size + 4, [s1.heap.objs.size + 4, s1.heap.objs.size + 2, s1.heap.objs.size + 3, s1.heap.objs.size, s1.heap.objs.size + 1], _, _, H1, rfl, I2, turn_zipQ (sep2 s1.heap.objs.size a b p1.lt p2.lt), ⟨hz, hI, ⟨_, _, hO⟩, itB0 h1, itB0 h2⟩, fun c hcm => ?_, q⟩
  have le : s1.heap.objs.size ≤ c := by
    simp only [List.mem_cons, List.not_mem_nil, or_false] at hcm
    rcases hcm with rfl | rfl | rfl | rfl | rfl
    · exact Nat.le_add_right _ _
    · exact Nat.le_add_right _ _
    · exact Nat.le_add_right _ _
    · exact Nat.le_refl _
    · exact Nat.le_add_right _ _
  exact I1.fpOk le (I1.hok.fresh le)
theorem walk_zipQ {K : PySem.W.Frag} {t u : Bool} {a b : Addr} {xs ys : List V} (hl : xs.length = ys.length) : Walk (ItzQ K t u a b) xs.length (fun H => sqB t K H a xs ∧ sqB u K H b ys) (YPair (fun i => xs[i]?) (fun i => ys[i]?)) :=
  ⟨fun i H hi ⟨p, q⟩ => ⟨xs, ys, xs[i], ys[i]'(hl ▸ hi), p, q, List.getElem?_eq_getElem hi, List.getElem?_eq_getElem (hl ▸ hi)⟩, fun H ⟨p, q⟩ => ⟨xs, ys, p, q, Nat.le_refl _, by omega, .inl rfl⟩,
    fun i H x H' hi ⟨p, q⟩ ⟨T, x', y', e, hT, eH, f1, f2⟩ => ⟨T, x', y', e, hT, eH, f1 xs p, f2 ys q⟩⟩
/-! enumerate(text) -/
def ItES (x : Str) : It :=
  ⟨fun i _ => i < x.cps.size, fun i H v H' => ∃ T c, v = .ref T ∧ H T = none ∧ x.cps[i]? = some c ∧ H' = upd H T (.tup [.int (i : Nat), .str ⟨#[c]⟩]), fun i _ => i = x.cps.size⟩
theorem turn_enumS {P : Program} {w : World} {K : PySem.W.Frag} {elts : List Expr} {kk : Nat} {tpos : Pos} (x : Str) (tk0 : Tok) (e it : Addr) (hne : e ≠ it) :
    Turn P w K (.Tuple elts kk tpos) (ItES x) [e, it] e (fun i h => (∃ old, IsEnum h e it ((i : Nat) : Int) old) ∧ h.IsStrIter it (strIterType x) x tk0 i) where
  mem := by simp
  obj := fun i h st b hb => by
    obtain ⟨⟨old, he⟩, o, ho, hc, hd⟩ := st
    have two : b = e ∨ b = it := by simpa using hb
    rcases two with rfl | rfl
    · exact ⟨_, he, fun v q => nomatch q⟩
    · exact ⟨o, ho, fun v q => by rw [hd] at q; cases q⟩
  keep := fun i h h' st k => by
    obtain ⟨⟨old, he⟩, o, ho, hc, hd⟩ := st
    exact ⟨⟨old, k e (by simp) _ he⟩, o, k it (by simp) _ ho, hc, hd⟩
  item := by
    intro X eP ew eK hc i pins s σ H E I hf st hg
    subst eP ew eK
    obtain ⟨⟨old, he⟩, hit⟩ := st
    have el := Heap.lt_size he
    have il : it < s.heap.objs.size := by obtain ⟨_, q, _⟩ := hit; exact Heap.lt_size q
    refine wpAny_pyNext_enum_itemD (Draws.text (prog := X.prog) (w := X.w) (A := X.A.in1) (show X.A.in1.handled = none from I.ok.hd hc) it x tk0) he hit hg hne (by simp [hne]) fun v g tk m ho hit2 hT hsz hk => ?_
    obtain ⟨c, tk2, hx, rfl⟩ := m
    refine ⟨_, rfl, wpAny_letOwnedTupleGo_enum (s := { s with heap := g, toks := tk + 1 }) ho fun g2 he2 sb => ?_⟩
    have hT2 : g2.get? s.heap.objs.size = some { cls := .type "tuple", data := .seq #[.int i tk, .str ⟨#[c]⟩ tk2] } := (sb.2 _ (Nat.ne_of_gt el)).trans hT
    have hob : ObjOk X.prog X.w (upd H s.heap.objs.size (.tup [.int (i : Nat), .str ⟨#[c]⟩])) g2 s.heap.objs.size (.tup [.int (i : Nat), .str ⟨#[c]⟩]) :=
      ⟨by show 2 ≤ sizeLine; decide, [.int i tk, .str ⟨#[c]⟩ tk2], .cons ⟨_, rfl⟩ (.cons ⟨_, rfl⟩ .nil), _, hT2, rfl, _, rfl⟩
    have kk : ∀ b o, b ∉ [e, it] → s.heap.get? b = some o → g2.get? b = some o := fun b o hb q => by
      simp only [List.mem_cons, List.not_mem_nil, or_false, not_or] at hb
      exact (sb.2 b hb.1).trans (hk b o hb.1 hb.2 q)
    refine ⟨.ref s.heap.objs.size, _, I.turnedNew (t' := tk + 1) kk hf (Nat.le_refl _) hob, rfl, ⟨_, c, rfl, I.hok.fresh (Nat.le_refl _), hx, rfl⟩, ⟨⟨.str ⟨#[c]⟩ tk2, ?_⟩, ?_⟩, fun b hb => ?_⟩
    · have q : ((i + 1 : Nat) : Int) = (i : Int) + 1 := by omega
      rw [q]; exact he2
    · obtain ⟨o, q, r⟩ := hit2
      exact ⟨o, (sb.2 it (Ne.symm hne)).trans q, r⟩
    · have lt : b < s.heap.objs.size := by
        have two : b = e ∨ b = it := by simpa using hb
        rcases two with rfl | rfl
        · exact el
        · exact il
      rw [upd_ne (Nat.ne_of_lt lt)]
      exact (hf b hb).1
  done := by
    intro X eP ew eK hc i pins s σ H E I hf st hg
    subst eP ew eK
    obtain ⟨⟨old, he⟩, hit⟩ := st
    obtain rfl : i = x.cps.size := hg
    obtain ⟨c0, c1, c2, c3, c4, c5⟩ := hf it (by simp)
    exact wpAny_pyNext_enum_endD (Draws.text (prog := X.prog) (w := X.w) (A := X.A.in1) (show X.A.in1.handled = none from I.ok.hd hc) it x tk0) he hit fun g eb => ⟨rfl, I.turned (t' := s.toks) (fun b o hb q => eb b o hb q) c0 c1 c3 c4 c5⟩
  self := fun A i s Q E sg => let ⟨⟨_, he⟩, _⟩ := sg; wpAny_pyIter_enum he
def iEnumS (ta : TA) : TI := fun σ H R => ta σ H fun vs H1 => ∃ x, vs = [.str x] ∧ R (ItES x) H1
theorem pi_enumS {X : Cx} {e : Expr} {ta : TA} {p pos tpos : Pos} {elts : List Expr} {kk : Nat} (hg : Gl X "enumerate") (hm : X.mg "enumerate" = none) (ha : PA X [e] ta) (hs : starEach [e] X.env = [(false, eval e X.env)] := by rfl) :
    PI X (.Tuple elts kk tpos) (.Call (.Name "enumerate" p) [e] [] pos) (iEnumS ta) := by
  refine ⟨fun pins s σ H R I hh => ?_⟩
  refine Call_ (ld_blt I hg hm boot_enumerate (PyProof.Rows.callWith_type1 (thn (ha.run pos pins s σ H _ I hh) fun _ s1 ⟨_, H1, I1, r1, q1⟩ => ?_) hs rfl))
  obtain ⟨x, rfl, q⟩ := q1
  obtain ⟨v, rfl, tk0, rfl⟩ := vals1 r1
  refine call_enumerate_str fun g he hit hsz hk => wpAny_pyIter_enum he ?_
  have I2 : Inv X pins σ H1 { s1 with heap := g } := I1.kept (t' := s1.toks) hk
  refine ⟨s1.heap.objs.size + 1, [s1.heap.objs.size + 1, s1.heap.objs.size], _, _, H1, rfl, I2, turn_enumS x tk0 (s1.heap.objs.size + 1) s1.heap.objs.size (Nat.succ_ne_self _), ⟨⟨.none, he⟩, hit⟩, fun b hb => ?_, q⟩
  have le : s1.heap.objs.size ≤ b := by
    simp only [List.mem_cons, List.not_mem_nil, or_false] at hb
    rcases hb with rfl | rfl
    · exact Nat.le_add_right _ _
    · exact Nat.le_refl _
  exact I1.fpOk le (I1.hok.fresh le)
theorem walk_enumS {x : Str} : Walk (ItES x) x.cps.size (fun _ => True) (fun i H v H' => ∃ T c, v = .ref T ∧ H T = none ∧ x.cps[i]? = some c ∧ H' = upd H T (.tup [.int (i : Nat), .str ⟨#[c]⟩])) :=
  ⟨fun _ _ h _ => h, fun _ _ => rfl, fun _ _ _ _ _ _ y => y⟩
theorem pg_tupK {X : Cx} (K : PySem.W.Frag) (hK : X.K = K) {n : Nat} {es : List Expr} {k : Nat} {t : TGs} {pos : Pos} (hc : X.calm = true) (h : PGs X es t) (hn : (assignEach es X.env).length = n := by rfl)
    (hst : (assignEach es X.env).findIdx? (·.1) = none := by rfl) : PG X (.Tuple es k pos) (gTup K n t) := by subst hK; exact pg_tup hc h hn hst
theorem pe_lenSetIK {X : Cx} (K : PySem.W.Frag) (hK : X.K = K) {a : Expr} {ta : TE} {p p2 q pos : Pos} (hg : Gl X "len") (hm : X.mg "len" = none) (hg2 : Gl X "set") (hm2 : X.mg "set" = none) (ha : PE X a ta) (hc : X.calm = true := by rfl)
    (na : starEach [a] X.env = (false, eval a X.env) :: starEach [] X.env := by rfl) : PE X (.Call (.Name "len" p) [.Call (.Name "set" p2) [a] [] q] [] pos) (RZ.tLenSetI K ta) := by subst hK; exact RZ.pe_lenSetI hg hm hg2 hm2 ha hc na
section
variable {K : PySem.W.Frag} {σ : L2.St} {H : Hp} {Q : VK}
theorem rd_lenSet {ta : TE} (h : ta σ H fun x H1 => ∃ (l : Addr) (ns : List Int), x = .ref l ∧ SqL K H1 l (ns.map V.int) ∧ ns.Nodup ∧ ns.length ≤ 4000 ∧ Q (.int (ns.length : Nat)) H1) : RZ.tLenSetI K ta σ H Q := h
theorem rd_iZQ {t u : Bool} {tr : TA} {R : It → Hp → Prop} (h : tr σ H fun vs H1 => ∃ a b xs ys, vs = [.ref a, .ref b] ∧ sqB t K H1 a xs ∧ sqB u K H1 b ys ∧ R (ItzQ K t u a b) H1) : iZipQ K t u tr σ H R := h
theorem rd_iES {tr : TA} {R : It → Hp → Prop} (h : tr σ H fun vs H1 => ∃ x, vs = [.str x] ∧ R (ItES x) H1) : iEnumS tr σ H R := h
end
end JF

/-! ### runs: their text, read and shown -/
namespace JF
open PySem PySem.Spec PyProof.Rows L2
/-! #### texts as lists of signs -/
def tx (l : List Nat) : Str := ⟨l.toArray⟩
theorem tl_tx (l : List Nat) : TL.tl (tx l) = l := rfl
theorem str_tx {l : List Nat} {z : Str} (h : TL.tl z = l) : z = tx l := TL.ext_tl h
theorem tx_inj {l m : List Nat} (h : tx l = tx m) : l = m := by rw [← tl_tx l, ← tl_tx m, h]
theorem tx_eq {l m : List Nat} : decide (tx l = tx m) = decide (l = m) := by
  by_cases h : l = m
  · rw [h, decide_eq_true rfl, decide_eq_true rfl]
  · rw [decide_eq_false h, decide_eq_false fun e => h (tx_inj e)]
theorem tx_len (l : List Nat) : (tx l).length = l.length := by rw [TL.len_tl, tl_tx]
theorem tx_app (l m : List Nat) : tx l ++ tx m = tx (l ++ m) := str_tx (by rw [TL.tl_append, tl_tx, tl_tx])
theorem tx_num (n : Nat) : Str.ofString (toString (n : Int)) = tx (TL.numL n) := str_tx (TL.tl_num n)
theorem tx_nil : Str.ofString "" = tx [] := str_tx (by decide +kernel)
theorem tx_nought : Str.ofString "0" = tx [48] := str_tx (by decide +kernel)
theorem tx_one : Str.ofString "1" = tx [49] := str_tx (by decide +kernel)
theorem tx_A : Str.ofString "A" = tx [65] := str_tx (by decide +kernel)
theorem len_ok {l : List Nat} (h : l.length ≤ 16000000) : (tx l).length ≤ sizeLine := by
  have := sizeBig
  rw [tx_len]; omega
theorem joinL_nil : ∀ ws : List (List Nat), TL.joinL [] ws = ws.flatten
  | [] => rfl
  | [x] => by show x = _; simp
  | x :: y :: ws => by
    show x ++ ([] ++ TL.joinL [] (y :: ws)) = _
    rw [joinL_nil (y :: ws)]; rfl
theorem join_flat (ws : List (List Nat)) : Txt.join (Str.ofString "") (ws.map tx) = tx ws.flatten := str_tx (by
  rw [TL.join_eq, TL.tl_join, tx_nil, tl_tx, List.map_map]
  show TL.joinL [] (ws.map fun w => w) = _
  rw [List.map_id', joinL_nil])
theorem sum_lens : ∀ ws : List (List Nat), ((ws.map tx).map (·.length)).sum = ws.flatten.length
  | [] => rfl
  | w :: ws => by
    have ih := sum_lens ws
    rw [List.map_cons, List.map_cons, List.sum_cons, ih, List.flatten_cons, List.length_append]
    show (tx w).length + _ = _
    rw [tx_len]
/-! #### runs -/
abbrev Rn := Nat × Nat
def figsT (n : Nat) : List Nat := if n = 1 then [] else TL.numL n
def wordT (r : Rn) : List Nat := figsT r.1 ++ [r.2]
def textT (rs : List Rn) : List Nat := (rs.map wordT).flatten
def signs9 : List Nat := [46, 65, 66, 67, 68, 69, 70, 71, 47]
def RnW (r : Rn) : Prop := 1 ≤ r.1 ∧ r.2 ∈ signs9
theorem numL_head : ∀ (n : Nat), 1 ≤ n → ∃ c l, TL.numL n = c :: l ∧ c ≠ 48 := fun n => by
  induction n using Nat.strongRecOn with
  | ind n ih =>
    intro h
    by_cases z : n < 10
    · exact ⟨48 + n, [], TL.numL_lt z, by omega⟩
    · obtain ⟨c, l, e, hc⟩ := ih (n / 10) (by omega) (by omega)
      exact ⟨c, l ++ [48 + n % 10], by rw [TL.numL_step (by omega), e]; rfl, hc⟩
theorem numL_one : TL.numL 1 = [49] := TL.numL_lt (by decide)
theorem figs_digits (n : Nat) : ∀ c ∈ figsT n, 48 ≤ c ∧ c ≤ 57 := fun c hc => by
  unfold figsT at hc
  split at hc
  · simp at hc
  · exact TL.numL_digits n c hc
theorem figs_len {n : Nat} (h : n < 10 ^ 13) : (figsT n).length ≤ 13 := by
  unfold figsT
  split
  · simp
  · exact TL.numL_len (by decide) h
theorem word_len {r : Rn} {k : Nat} (hk : 0 < k) (h : r.1 < 10 ^ k) : (wordT r).length ≤ k + 1 := by
  unfold wordT figsT
  rw [List.length_append, List.length_singleton]
  split
  · simp
  · have := TL.numL_len hk h
    omega
theorem sign_no {c : Nat} (h : c ∈ signs9) : ¬ (48 ≤ c ∧ c ≤ 57) := by
  simp only [signs9, List.mem_cons, List.not_mem_nil, or_false] at h
  omega
theorem text_app (a b : List Rn) : textT (a ++ b) = textT a ++ textT b := by unfold textT; rw [List.map_append, List.flatten_append]
theorem text_one (r : Rn) : textT [r] = wordT r := by unfold textT; simp
theorem text_cons (r : Rn) (rs : List Rn) : textT (r :: rs) = wordT r ++ textT rs := by unfold textT; simp
/-- neighbouring runs of one sign put together; the last one first -/
def togS : List Rn → Rn → List Rn
  | [], r => [r]
  | (a, s) :: l, r => if s = r.2 then (a + r.1, s) :: l else r :: (a, s) :: l
def togR (rs : List Rn) : List Rn := rs.foldl togS []
def tog (rs : List Rn) : List Rn := (togR rs).reverse
/-! #### lists of runs in the heap -/
def RL (H : Hp) (ts : List Addr) (rs : List Rn) : Prop := ts.length = rs.length ∧ ∀ (i : Nat) t r, ts[i]? = some t → rs[i]? = some r → H t = some (.tup [.int (r.1 : Int), .str (tx [r.2])])
theorem RL.keep {H H' : Hp} {ts : List Addr} {rs : List Rn} (h : RL H ts rs) (k : Tup H H') : RL H' ts rs := ⟨h.1, fun i t r a b => k _ _ (h.2 i t r a b)⟩
theorem RL.nil {H : Hp} : RL H [] [] := ⟨rfl, fun i t r a => by simp at a⟩
theorem RL.app {H : Hp} {ts : List Addr} {rs : List Rn} {t : Addr} {r : Rn} (h : RL H ts rs) (ht : H t = some (.tup [.int (r.1 : Int), .str (tx [r.2])])) : RL H (ts ++ [t]) (rs ++ [r]) := by
  refine ⟨by rw [List.length_append, List.length_append, h.1]; rfl, fun i u q a b => ?_⟩
  rcases snoc_get h.1 a b with ⟨a, b⟩ | ⟨_, rfl, rfl⟩
  · exact h.2 i u q a b
  · exact ht
def RnL (H : Hp) (p : Addr) (rs : List Rn) : Prop := ∃ ts : List Addr, H p = some (.lst (ts.map V.ref)) ∧ RL H ts rs
theorem RnL.same {H H' : Hp} {p : Addr} {rs : List Rn} (h : RnL H p rs) (s : Same H H') : RnL H' p rs := by
  obtain ⟨ts, h1, h2⟩ := h
  exact ⟨ts, s _ _ h1, h2.keep (Tup.of s)⟩
theorem same_put {H H' : Hp} {p : Addr} {o : HO} (s : Same H H') (hp : H p = none) : Same H (upd H' p o) := fun b u e => by
  rw [upd_ne (ne_of_none e hp)]; exact s _ _ e
theorem tup_put {H : Hp} {p : Addr} {xs : List V} {o : HO} (h : H p = some (.lst xs)) : Tup H (upd H p o) := Tup.put h o
theorem text_len {rs : List Rn} {B : Nat} (h : ∀ r ∈ rs, (wordT r).length ≤ B) : (textT rs).length ≤ rs.length * B := by
  induction rs with
  | nil => exact Nat.zero_le _
  | cons r rs ih =>
    have h1 := ih fun x hx => h x (List.mem_cons_of_mem _ hx)
    have h2 := h r List.mem_cons_self
    rw [text_cons, List.length_append, List.length_cons, Nat.succ_mul]
    omega
theorem cut_mid (A u B : List Nat) : cutS (tx (A ++ (u ++ B))) (some ((A.length : Nat) : Int)) (some ((A.length + u.length : Nat) : Int)) = tx u := by
  refine str_tx ?_
  show ((A ++ (u ++ B)).drop (HT.sIx (tx (A ++ (u ++ B))).length 0 (some ((A.length : Nat) : Int)))).take (HT.sIx (tx (A ++ (u ++ B))).length (tx (A ++ (u ++ B))).length (some ((A.length + u.length : Nat) : Int)) - HT.sIx (tx (A ++ (u ++ B))).length 0 (some ((A.length : Nat) : Int))) = u
  rw [HT.sIx_nat, HT.sIx_nat, tx_len]
  have e1 : min A.length (A ++ (u ++ B)).length = A.length := by rw [List.length_append]; omega
  have e2 : min (A.length + u.length) (A ++ (u ++ B)).length = A.length + u.length := by rw [List.length_append, List.length_append]; omega
  rw [e1, e2, List.drop_left, Nat.add_sub_cancel_left, List.take_left]
theorem mid_get (A B : List Nat) (c : Nat) : (A ++ c :: B)[A.length]? = some c := by rw [List.getElem?_append_right (Nat.le_refl _), Nat.sub_self]; rfl
theorem in_figs {c : Nat} : decide (c ∈ (Str.ofString "0123456789").cps.toList) = decide (48 ≤ c ∧ c ≤ 57) := by
  have e : (Str.ofString "0123456789").cps.toList = [48, 49, 50, 51, 52, 53, 54, 55, 56, 57] := by decide +kernel
  rw [e]
  refine decide_eq_decide.mpr ?_
  simp only [List.mem_cons, List.not_mem_nil, or_false]
  omega
theorem in_signs {c : Nat} : decide (c ∈ (Str.ofString ".ABCDEFG/").cps.toList) = decide (c ∈ signs9) := by
  have e : (Str.ofString ".ABCDEFG/").cps.toList = signs9 := by decide +kernel
  rw [e]
section
variable {P : Program} {w : World} {K : PySem.W.Frag} {mg : Str → Option Value} {base : Heap}
def sp_amount : Sp := fun vs H Q _ => ∃ n : Nat, vs = [.str (tx (figsT n))] ∧ 1 ≤ n ∧ n < 10 ^ 13 ∧ Q (.int (n : Int)) H
theorem mp_amount : MonP sp_amount := fun vs H Q Q' E h ⟨n, x1, x2, x3, q⟩ => ⟨n, x1, x2, x3, h _ _ q⟩
def sp_read : Sp := fun vs H Q _ => ∃ rs : List Rn, vs = [.str (tx (textT rs))] ∧ (∀ r ∈ rs, RnW r ∧ r.1 < 10 ^ 13) ∧ rs.length ≤ 1000 ∧
  ∀ (p : Addr) (ts : List Addr) (H' : Hp), H p = none → Same H H' → H' p = some (.lst (ts.map V.ref)) → RL H' ts rs → Q (.ref p) H'
theorem mp_read : MonP sp_read := fun vs H Q Q' E h ⟨rs, x1, x2, x3, k⟩ => ⟨rs, x1, x2, x3, fun p ts H' a b c d => h _ _ (k p ts H' a b c d)⟩
def sp_srun : Sp := fun vs H Q _ => ∃ r : Rn, vs = [.int (r.1 : Int), .str (tx [r.2])] ∧ r.1 < 10 ^ 30 ∧ Q (.str (tx (wordT r))) H
theorem mp_srun : MonP sp_srun := fun vs H Q Q' E h ⟨r, x1, x2, q⟩ => ⟨r, x1, x2, h _ _ q⟩
theorem log30 {n : Nat} (h : n < 10 ^ 30) : ((n : Int).natAbs).log2 < 1920 := by
  rw [Int.natAbs_natCast]
  by_cases z : n = 0
  · subst z; decide
  · exact (Nat.log2_lt z).mpr (Nat.lt_trans h (by decide +kernel))
theorem tog_step (rs : List Rn) (i : Nat) (r : Rn) (h : rs[i]? = some r) : togR (rs.take (i + 1)) = togS (togR (rs.take i)) r := by
  unfold togR
  rw [List.take_succ, h, List.foldl_append]; rfl
def TogOk (B : Nat) (R : List Rn) : Prop := ∀ r ∈ R, RnW r ∧ r.1 ≤ B
theorem togS_eq {a s : Nat} {l : List Rn} {r : Rn} (h : s = r.2) : togS ((a, s) :: l) r = (a + r.1, s) :: l := if_pos h
theorem togS_ne {a s : Nat} {l : List Rn} {r : Rn} (h : ¬ s = r.2) : togS ((a, s) :: l) r = r :: (a, s) :: l := if_neg h
theorem TogOk.step {B : Nat} {R : List Rn} {r : Rn} (h : TogOk B R) (hr : RnW r) (hb : r.1 ≤ 10 ^ 13) : TogOk (B + 10 ^ 13) (togS R r) := by
  cases R with
  | nil =>
    intro q hq
    have e : q = r := List.mem_singleton.mp hq
    subst e
    exact ⟨hr, by omega⟩
  | cons x l =>
    obtain ⟨a, s⟩ := x
    have hx := h (a, s) List.mem_cons_self
    obtain ⟨⟨x1, x2⟩, x3⟩ := hx
    simp only at x1 x2 x3
    have hl : ∀ q ∈ l, RnW q ∧ q.1 ≤ B + 10 ^ 13 := fun q hq => ⟨(h q (List.mem_cons_of_mem _ hq)).1, by have := (h q (List.mem_cons_of_mem _ hq)).2; omega⟩
    by_cases z : s = r.2
    · rw [togS_eq z]
      intro q hq
      rcases List.mem_cons.mp hq with e | hq
      · rw [e]
        exact ⟨⟨by show 1 ≤ a + r.1; omega, x2⟩, by show a + r.1 ≤ _; omega⟩
      · exact hl q hq
    · rw [togS_ne z]
      intro q hq
      rcases List.mem_cons.mp hq with e | hq
      · rw [e]; exact ⟨hr, by omega⟩
      · rcases List.mem_cons.mp hq with e | hq
        · rw [e]; exact ⟨⟨x1, x2⟩, by show a ≤ _; omega⟩
        · exact hl q hq
theorem togS_len (R : List Rn) (r : Rn) : (togS R r).length ≤ R.length + 1 := by
  cases R with
  | nil => exact Nat.le_refl _
  | cons x l =>
    obtain ⟨a, s⟩ := x
    by_cases z : s = r.2
    · rw [togS_eq z]; simp
    · rw [togS_ne z]; simp
def amtR (R : List Rn) : Nat := (R.head?.map (·.1)).getD 0
def sgnR (R : List Rn) : List Nat := (R.head?.map fun r => [r.2]).getD []
theorem rd_aug {D : Ends} {σ : L2.St} {H : Hp} {i : Nat} {te : TE} {ti : TIp} {v : V} (h1 : σ[i]? = some (some v)) (h : te σ H fun y H1 => ti v y H1 fun z H2 => D.nx (σ.set i (some z)) H2) : tAug i te ti D σ H := ⟨v, h1, h⟩
theorem rd_m1 {σ : L2.St} {H : Hp} {Q : VK} {r : V → List V → Hp → VK → Prop} {ta tb : TE} (h : ta σ H fun x H1 => (∃ a, x = .str a) ∧ tb σ H1 fun y H2 => r x [y] H2 Q) : tM1 r ta tb σ H Q := h
theorem rd_st {z : Str} {R : Prop} (h : R) : (∃ a, V.str z = .str a) ∧ R := ⟨⟨z, rfl⟩, h⟩
def sp_shown : Sp := fun vs H Q _ => ∃ (p : Addr) (rs : List Rn), vs = [.ref p] ∧ RnL H p rs ∧ (∀ r ∈ rs, RnW r ∧ r.1 < 10 ^ 13) ∧ rs.length ≤ 1000 ∧ ∀ H', Same H H' → Q (.str (tx (textT (tog rs)))) H'
theorem mp_shown : MonP sp_shown := fun vs H Q Q' E h ⟨p, rs, x1, x2, x3, x4, k⟩ => ⟨p, rs, x1, x2, x3, x4, fun H' a => h _ _ (k H' a)⟩
end
end JF

/-! ### refusals: own exceptions raised, caught, asked for their class; defs called in an except clause -/
namespace JF
open PySem PySem.Spec PyProof.Rows L2
/-- what the written part says of an exception class -/
structure ExF (K : PySem.W.Frag) (x : Str) : Prop where
  q : PySem.W.excIn K (He.ga K x) veT "ValueError.__new__" = true
  kp : PySem.W.keepIn K (.ref (He.ga K x)) = true
  sb : PySem.W.subIn K (.ref (He.ga K x)) (.type "BaseException") = some true
  ty : PySem.W.typeIn K (.ref (He.ga K x)) = some (.type "type")
  ec : ExcC K (He.ga K x)
section
variable {fa : List He.Fa} {fn : List He.DefD} {K : PySem.W.Frag} {mg : Str → Option Value}
theorem exF_of {x : Str} (h : exB1 K x = true) : ExF K x := by
  unfold exB1 at h
  simp only [Bool.and_eq_true, beq_iff_eq] at h
  obtain ⟨⟨⟨⟨⟨⟨⟨⟨⟨⟨h1, h2⟩, h3⟩, h4⟩, h5⟩, h6⟩, h7⟩, h8⟩, h9⟩, h10⟩, h11⟩ := h
  exact ⟨h1, h2, h3, h4, ⟨h5, h6, h3, h7, h8, h9, h10, h11⟩⟩
theorem Env.exf (T : Env fa fn K mg) {x : Str} (h : x ∈ JF.exN) : ExF K x := exF_of (T.ex1 h)
theorem Env.exm (T : Env fa fn K mg) {x : Str} {c : Sum Str String} {b : Bool} (h : (x, c, b) ∈ JF.exP) : PySem.W.exmOne K (.ref (He.ga K x)) (exV K c) = some b := by
  have z := T.ex2 h
  unfold exB2 at z
  simp only [Bool.and_eq_true, beq_iff_eq] at z
  exact z.1
theorem Env.exk (T : Env fa fn K mg) {x : Str} {c : Sum Str String} {b : Bool} (h : (x, c, b) ∈ JF.exP) : PySem.W.kitOne K (.ref (He.ga K x)) (exV K c) = some b := by
  have z := T.ex2 h
  unfold exB2 at z
  simp only [Bool.and_eq_true, beq_iff_eq] at z
  exact z.2
end
/-! #### raise -/
def sRaise (W : WX) (c : Value) : TS := fun _ σ H => W c none σ H
theorem ps_raiseT {X : Cx} (K : PySem.W.Frag) (hK : X.K = K) {x m : Str} {j : Nat} {p p2 pos pos2 : Pos} {W : WX} (F : ExF K x) (gC : X.mg x = some (.ref (He.ga K x))) (hc : X.calm = true) (tk : L2N.Takes X W) (hg : Gl X x) (hdb : (x == ("__debug__" : Str)) = false := by decide) :
    PS X (.Raise (some (.Call (.Name x p) [.Constant (.str m) j p2] [] pos)) none pos2) (sRaise W (.ref (He.ga K x))) := by
  subst hK
  exact L2N.ps_raise hc tk (L2N.pmk_own PySem.F.excBase_ValueError F.q gC F.kp (raises_own F.sb F.ty) hg hdb)
theorem rd_raise {W : WX} {c : Value} {D : Ends} {σ : L2.St} {H : Hp} (h : W c none σ H) : sRaise W c D σ H := h
/-! #### defs that may raise -/
section
variable {P : Program} {w : World} {K : PySem.W.Frag} {mg : Str → Option Value} {base : Heap} {fa : List He.Fa} {fn : List He.DefD}
theorem good_mkX (T : Env fa fn K mg) (i : Nat) {d : He.DefD} {k : Nat} {N ps : List Str} {sp : Sp} {x qual : Str} {st : Stmt} {at_ : Str × Option Str} (hi : fn[i]? = some d) (hd : d = ⟨at_, x, qual, defArgs st, defBody st, defScope st, [], []⟩) (S : FnScope N ps (defScope st))
    (hb : ∀ (kV doc pm : Value) (an : Option Addr) (cdv ct : Value) (us : List Value), us.length = ps.length → bindArgs (PySem.W.fnOf x qual (defArgs st) (defBody st) (defScope st) .none kV doc pm an cdv ct) ⟨us, []⟩ = pure (ps.zip us))
    (len : ∀ vs H Q E, sp vs H Q E → vs.length = ps.length)
    (hbody : ∀ (f : Addr) (cdv : Value) (A : Around) (outer : List PySem.Env) (s : Shared) (H : Hp) (vs : List V) (Q : VK) (E : XK), Room k (A.deeper (envOfC qual (defScope st) s.heap.objs.size f cdv)) → sp vs H Q E →
      ∃ t, PSs (cxOf (L2N.CX P w) P w K mg base N qual (defScope st) f cdv A outer s H E) (defBody st) t ∧ t { nx := fun _ H' => Q .non H', rt := Q } (start N vs) H) : Good P w K mg base (L2N.CX P w) (k + 1) at_ ps sp := by
  subst hd
  obtain ⟨fd, F⟩ := T.c.def_ i hi
  exact ⟨fd, FunD.ok F S len fun cdv A outer s H vs Q E hr h => hbody _ cdv A outer s H vs Q E hr h, FunD.bindsN F hb, F.kp, fdAt_of F⟩
end
section
variable {X : Cx} {k : Nat} {x m : Str} {ps : List Str} {sp : Sp} {p pos apos : Pos} {e o : Expr} {es : List Expr} {ta : TE} {t : TA} {W : WX} {K : PySem.W.Frag}
/-- the call of a def that may raise -/
theorem pe_cgX (K : PySem.W.Frag) (hK : X.K = K) (tk : L2N.Takes X W) (G : Good X.prog X.w K X.mg X.base (L2N.CX X.prog X.w) k (x, none) ps sp) (hr : Room k X.A) (hm : X.mg x = some (.ref (He.ga K x))) (ha : PA X (e :: es) t) (hg : Gl X x := by rfl)
    (hdb : (x == ("__debug__" : Str)) = false := by decide) (he : starEach (e :: es) X.env = (false, eval e X.env) :: starEach es X.env := by rfl) (hpl : (backTo pos (starEach es X.env)).any (·.1) = false := by rfl) :
    PE X (.Call (.Name x p) (e :: es) [] pos) (tCallS sp (fun σ cls d H' => W cls d σ H') t) := by
  subst hK
  obtain ⟨fd, F, b, kp, lk⟩ := G
  exact pe_callS F hr hg hm kp b (fun σ => L2N.passAt tk σ) ha hdb he hpl
theorem rd_callS {E : L2.St → XK} {σ : L2.St} {H : Hp} {Q : VK} (h : t σ H fun vs H1 => sp vs H1 Q (E σ)) : tCallS sp E t σ H Q := h
end
theorem takes0N {X : Cx} : L2N.Takes X (fun _ _ _ _ => False) := fun _ _ x => by
  obtain ⟨_, _, _, _, _, _, _, _, _, _, _, _, _, _, _, _, z⟩ := x
  exact z.elim
/-! #### try: .. except X as n -/
def sTryAs (K : PySem.W.Frag) (c : Value) (i : Nat) (tb : WX → TS) (ts : Addr → Value → Option Addr → TS) (Wo : WX) : TS := fun D σ H => tb (wAs K c i ts Wo D) D σ H
theorem ps_tryA {X : Cx} (K : PySem.W.Frag) (hK : X.K = K) {x n : Str} {c : Value} {i : Nat} {body suite : List Stmt} {b₀ : Stmt} {np pos pos' : Pos} {tb : WX → TS} {ts : Addr → Value → Option Addr → TS} {Wo : WX} (hs : X.stack = X.env :: X.outer) (hf : X.env.frame = some X.env.locals) (hN : X.N.Nodup)
    (hi : X.N[i]? = some n) (hln : X.env.kindOf n = some .local) (hc : Names X x c) (tk : L2N.Takes X Wo)
    (hb : ∀ (W : WX) (pn : List (Addr × Obj)) (xe : Value → Shared → Prop), L2N.Takes (X.tr pn xe) W → PassesOwn (model X.prog X.w) X.A X.env xe → PSs (X.tr pn xe) body (tb W))
    (hsu : ∀ (a : Addr) (oe : Obj) (cls : Value) (d : Option Addr) (pn : List (Addr × Obj)), L2N.Zn cls d oe → (∃ vs, oe.data = .fields vs) → PSs (X.suite a ((a, oe) :: pn)) (b₀ :: suite) (ts a cls d)) :
    PS X (.Try body [.ExceptHandler (some (.Name x np)) (some n) (b₀ :: suite) pos'] [] [] pos) (sTryAs K c i tb ts Wo) := by
  subst hK
  exact L2N.ps_try_as hs hf hN hi hln hc tk hb hsu
theorem rd_tryA {K : PySem.W.Frag} {c : Value} {i : Nat} {tb : WX → TS} {ts : Addr → Value → Option Addr → TS} {Wo : WX} {D : Ends} {σ : L2.St} {H : Hp} (h : tb (wAs K c i ts Wo D) D σ H) : sTryAs K c i tb ts Wo D σ H := h
/-- the exception is of the class -/
theorem wAs_yes {K : PySem.W.Frag} {c cls : Value} {i : Nat} {ts : Addr → Value → Option Addr → TS} {Wo : WX} {D : Ends} {d : Option Addr} {σ : L2.St} {H : Hp} (e : PySem.W.exmOne K cls c = some true)
    (h : ∀ a, H a = none → ts a cls d { nx := fun σ' H' => D.nx (σ'.set i none) H', rt := D.rt, bk := fun σ' H' => D.bk (σ'.set i none) H', ct := fun σ' H' => D.ct (σ'.set i none) H' } (σ.set i (some (.ref a))) H) : wAs K c i ts Wo D cls d σ H :=
  ⟨true, e, fun _ => h, fun z => nomatch z⟩
/-! #### try: .. except X -/
def sTry1 (K : PySem.W.Frag) (c : Value) (tb : WX → TS) (ts : Addr → Value → Option Addr → TS) (Wo : WX) : TS := fun D σ H => tb (wMany K Wo D [(c, ts)]) D σ H
theorem ps_try1 {X : Cx} (K : PySem.W.Frag) (hK : X.K = K) {x : Str} {c : Value} {body suite : List Stmt} {b₀ : Stmt} {np pos pos' : Pos} {tb : WX → TS} {ts : Addr → Value → Option Addr → TS} {Wo : WX} (hs : X.stack = X.env :: X.outer) (hf : X.env.frame = some X.env.locals) (hc : Names X x c) (tk : L2N.Takes X Wo)
    (hb : ∀ (W : WX) (pn : List (Addr × Obj)) (xe : Value → Shared → Prop), L2N.Takes (X.tr pn xe) W → PassesOwn (model X.prog X.w) X.A X.env xe → PSs (X.tr pn xe) body (tb W))
    (hsu : ∀ (a : Addr) (oe : Obj) (cls : Value) (d : Option Addr) (pn : List (Addr × Obj)), L2N.Zn cls d oe → (∃ vs, oe.data = .fields vs) → PSs (X.suite a ((a, oe) :: pn)) (b₀ :: suite) (ts a cls d)) :
    PS X (.Try body [.ExceptHandler (some (.Name x np)) none (b₀ :: suite) pos'] [] [] pos) (sTry1 K c tb ts Wo) := by
  subst hK
  exact L2N.ps_try_many hs hf tk hb (.cons hc hsu .nil)
theorem rd_try1 {K : PySem.W.Frag} {c : Value} {tb : WX → TS} {ts : Addr → Value → Option Addr → TS} {Wo : WX} {D : Ends} {σ : L2.St} {H : Hp} (h : tb (wMany K Wo D [(c, ts)]) D σ H) : sTry1 K c tb ts Wo D σ H := h
/-! #### isinstance of the exception -/
def rIsX (K : PySem.W.Frag) (cls : Value) (d : Option Addr) (a : Addr) : List V → Hp → VK → Prop := fun xs H Q => ∃ D, cls = .ref D ∧ d = none ∧ ExcC K D ∧ rIsE K D a xs H Q
theorem call_isP {X : Cx} (K : PySem.W.Frag) (hK : X.K = K) {a : Addr} {oe : Obj} {cls : Value} {d : Option Addr} (hp : (a, oe) ∈ X.pn) (hz : Zc cls d oe) (hf : ∃ vs, oe.data = .fields vs) : CallR X (.builtin "isinstance") (rIsX K cls d a) := by
  subst hK
  intro pins s σ H xs us Q I r h
  obtain ⟨D, rfl, rfl, C, c, cv, b, rfl, hcv, e, q⟩ := h
  obtain ⟨u1, u2, rfl, rx, rt⟩ := vals2 r
  cases rx
  obtain rfl := hcv _ rt
  obtain ⟨hget, _⟩ := I.pin (a, oe) (List.mem_append_left _ hp)
  obtain ⟨vs, hv⟩ := hf
  have J : PySem.W.InstAt s.heap a oe D none := by
    obtain ⟨oc, od, oda, osl⟩ := oe
    obtain ⟨h1, h2⟩ := hz
    simp only at h1 h2 hv
    subst h1 h2 hv
    exact ⟨hget, rfl, rfl, trivial⟩
  exact PySem.W.kia_one (PySem.W.handS_kitx_exc C.hg C.hk C.hs C.hd C.ha C.hn C.ht C.hm) I.kIn J e (fun z => nomatch z) fun tk => ⟨.bl b, H, I.kept (t' := tk) fun _ _ z => z, rfl, q⟩
section
variable {K : PySem.W.Frag} {H : Hp} {Q : VK} {D a : Addr}
theorem rd_isX {c : Addr} {b : Bool} (C : ExcC K D) (e : PySem.W.kitOne K (.ref D) (.ref c) = some b) (q : Q (.bl b) H) : rIsX K (.ref D) none a [.ref a, .ref c] H Q := ⟨D, rfl, rfl, C, .ref c, .ref c, b, rfl, fun _ r => r, e, q⟩
theorem rd_isXT {t : String} {b : Bool} (C : ExcC K D) (e : PySem.W.kitOne K (.ref D) (.type t) = some b) (q : Q (.bl b) H) : rIsX K (.ref D) none a [.ref a, .ty t] H Q := ⟨D, rfl, rfl, C, .ty t, .type t, b, rfl, fun _ r => r, e, q⟩
end
/-! #### a def called with the exception in an except clause -/
structure FnE (P : Program) (w : World) (K : PySem.W.Frag) (mg : Str → Option Value) (base : Heap) (k : Nat) (f : Addr) (fd : FuncData) (ps : List Str) (sp : Value → Option Addr → Addr → Sp) : Prop where
  len : ∀ cls d a vs H Q E, sp cls d a vs H Q E → vs.length = ps.length
  run : ∀ (A : Around) (outer : List PySem.Env) (s : Shared) (H : Hp) (args : Args) (us : List Value) (vs : List V) (Q : VK) (E : XK) (p : Addr × Obj) (cls : Value) (d : Option Addr), L2H.RoomH k A → L2H.Hot1 A p → L2H.PinOk outer H s p → Zc cls d p.2 → Env0 P w K mg base A outer s H →
    BindsTo s fd args (ps.zip us) → Vals vs us → sp cls d p.1 vs H Q E → codeAny (model P w) A (.call (.ref f) args) (CR CX0 outer P w H s Q E) s
theorem fn_mkE {P : Program} {w : World} {K : PySem.W.Frag} {mg : Str → Option Value} {base : Heap} {k : Nat} {f : Addr} {name qual : Str} {params : Arguments} {body : List Stmt} {scope : Scope} {dV kV doc pm cdv ct oc : Value} {an od : Option Addr} {osl : Array (Option Value)} {N ps : List Str} {sp : Value → Option Addr → Addr → Sp}
    (lk : K.lookup f = some ⟨oc, od, .func (PySem.W.fnOf name qual params body scope dV kV doc pm an cdv ct), osl⟩) (hcd : PySem.W.codeIn K cdv qual = true) (S : FnScope N ps scope) (len : ∀ cls d a vs H Q E, sp cls d a vs H Q E → vs.length = ps.length)
    (hbody : ∀ (A : Around) (outer : List PySem.Env) (s : Shared) (H : Hp) (vs : List V) (Q : VK) (E : XK) (p : Addr × Obj) (cls : Value) (d : Option Addr), L2H.Hot1 A p → Zc cls d p.2 → L2H.RoomH k (A.deeper (envOfC qual scope s.heap.objs.size f cdv)) → sp cls d p.1 vs H Q E →
      ∃ t, PSs (L2H.cxH CX0 P w K mg base N qual scope f cdv A outer s H E p) body t ∧ t { nx := fun _ H' => Q .non H', rt := Q } (L2.start N vs) H) :
    FnE P w K mg base (k + 1) f (PySem.W.fnOf name qual params body scope dV kV doc pm an cdv ct) ps sp := by
  refine ⟨len, fun A outer s H args us vs Q E p cls d hr hot pok hz e0 hb r h => ?_⟩
  have KX : K.In s.heap := e0.mod.kin.keeps fun b o e => (e0.bs b o e).1
  have nl : s.heap.NoLimit := e0.mod.nolimit.keeps fun b o e => (e0.bs b o e).1
  have kinds : ∀ y ∈ ps.zip us, scope.names.lookup y.1 = some .local ∨ (scope.names.lookup y.1 = some .cell ∧ ((cellsFrom (s.heap.objs.size + 1) scope.names []).lookup y.1).isSome = true) := by
    rintro ⟨n, v⟩ hy
    rcases S.par n (List.of_mem_zip hy).1 with z | z
    · exact .inl z
    · exact .inr ⟨z, PySem.W.cellsFrom_some _ _ _ (.inl z)⟩
  refine codeAny_call_function hr.depth (KX _ _ lk) rfl S.co S.gen rfl (PySem.W.codeRec_of KX hcd) (hb _ _ _ _ (wpAny_newFunctionEnv_cells S.kind kinds fun env he s1 x => ?_))
  subst he
  refine ⟨nl.keeps x.toInCall.keep, codeAny_func ?_⟩
  obtain ⟨t, ht, hq⟩ := hbody A outer s H vs Q E p cls d hot hz (hr.deeper _) h
  have I := L2H.inv_startH (CX := CX0) (E := E) S pok e0 (len _ _ _ _ _ _ _ h) r x
  refine wpAny_mono (ht.run [] s1 (L2.start N vs) H _ I hq) (fun fl s2 hs => ?_) fun _ _ hs => hs
  cases fl with
  | next => obtain ⟨σ2, H2, J, q⟩ := hs; exact ⟨V.non, H2, J.os, J.bare, J.base, J.hok, rfl, q⟩
  | ret u => obtain ⟨v, σ2, H2, J, rv, q⟩ := hs; exact ⟨v, H2, J.os, J.bare, J.base, J.hok, rv, q⟩
  | brk => obtain ⟨_, _, _, q⟩ := hs; exact q.elim
  | cont => obtain ⟨_, _, _, q⟩ := hs; exact q.elim
def GoodE (P : Program) (w : World) (K : PySem.W.Frag) (mg : Str → Option Value) (base : Heap) (k : Nat) (p : Str × Option Str) (ps : List Str) (sp : Value → Option Addr → Addr → Sp) : Prop :=
  ∃ fd, FnE P w K mg base k (He.fAd K p) fd ps sp ∧ Binds K fd ps [] ∧ PySem.W.keepIn K (.ref (He.fAd K p)) = true
theorem good_mkE {P : Program} {w : World} {K : PySem.W.Frag} {mg : Str → Option Value} {base : Heap} {fa : List He.Fa} {fn : List He.DefD} (T : Env fa fn K mg) (i : Nat) {d : He.DefD} {k : Nat} {N ps : List Str} {sp : Value → Option Addr → Addr → Sp} {x qual : Str} {st : Stmt} {at_ : Str × Option Str} (hi : fn[i]? = some d)
    (hd : d = ⟨at_, x, qual, defArgs st, defBody st, defScope st, [], []⟩) (S : FnScope N ps (defScope st))
    (hb : ∀ (kV doc pm : Value) (an : Option Addr) (cdv ct : Value) (us : List Value), us.length = ps.length → bindArgs (PySem.W.fnOf x qual (defArgs st) (defBody st) (defScope st) .none kV doc pm an cdv ct) ⟨us, []⟩ = pure (ps.zip us))
    (len : ∀ cls d a vs H Q E, sp cls d a vs H Q E → vs.length = ps.length)
    (hbody : ∀ (f : Addr) (cdv : Value) (A : Around) (outer : List PySem.Env) (s : Shared) (H : Hp) (vs : List V) (Q : VK) (E : XK) (p : Addr × Obj) (cls : Value) (d : Option Addr), Zc cls d p.2 → (∃ vs, p.2.data = .fields vs) → L2H.RoomH k (A.deeper (envOfC qual (defScope st) s.heap.objs.size f cdv)) → sp cls d p.1 vs H Q E →
      ∃ t, PSs (L2H.cxH CX0 P w K mg base N qual (defScope st) f cdv A outer s H E p) (defBody st) t ∧ t { nx := fun _ H' => Q .non H', rt := Q } (start N vs) H) : GoodE P w K mg base (k + 1) at_ ps sp := by
  subst hd
  obtain ⟨fd, F⟩ := T.c.def_ i hi
  refine ⟨fd, ?_, FunD.bindsN F hb, F.kp⟩
  obtain ⟨oc, od, dV, kV, doc, pm, an, cdv, ct, osl, rfl, lk, hcd, _, _⟩ := F.ex
  exact fn_mkE lk hcd S len fun A outer s H vs Q E p cls d hot hz hr h => hbody _ cdv A outer s H vs Q E p cls d hz (let ⟨v, e, _⟩ := hot.2; ⟨v, e⟩) hr h
section
variable {X : Cx} {k : Nat} {x : Str} {ps : List Str} {sp : Value → Option Addr → Addr → Sp} {q pos : Pos} {e : Expr} {es : List Expr} {t : TA} {cls : Value} {d : Option Addr} {a : Addr} {oe : Obj}
def tCallE (sp : Sp) (t : TA) : TE := fun σ H Q => t σ H fun vs H1 => sp vs H1 Q E0
theorem pe_callE (K : PySem.W.Frag) (hK : X.K = K) (G : GoodE X.prog X.w K X.mg X.base k (x, none) ps sp) (hr : L2H.RoomH k X.A) (hot : L2H.Hot1 X.A (a, oe)) (hp : (a, oe) ∈ X.pn) (hz : Zc cls d oe) (hm : X.mg x = some (.ref (He.ga K x))) (ha : PA X (e :: es) t) (hg : Gl X x := by rfl)
    (hdb : (x == ("__debug__" : Str)) = false := by decide) (he : starEach (e :: es) X.env = (false, eval e X.env) :: starEach es X.env := by rfl) (hpl : (backTo pos (starEach es X.env)).any (·.1) = false := by rfl) :
    PE X (.Call (.Name x q) (e :: es) [] pos) (tCallE (sp cls d a) t) := by
  subst hK
  obtain ⟨fd, F, hb, hk⟩ := G
  refine ⟨fun pins s σ H Q I h => wpAny_Call_Name_kw (ld_glob I hg hm ?_ hdb)⟩
  refine PySem.W.callWith_K (h₀ := X.base) I.ok.mod.kin hk (thn (ha.run pos pins s σ H _ I h) fun us s1 ⟨vs, H1, I1, r, h1⟩ => ⟨I1.kIn, ?_⟩) he hpl
  have hl : us.length = ps.length := by rw [← r.length]; exact F.len _ _ _ _ _ _ _ h1
  have b := hb s1 us I1.kIn (by rw [List.append_nil]; exact hl)
  rw [List.append_nil] at b
  have p1 := I1.pin (a, oe) (List.mem_append_left _ hp)
  have pok : L2H.PinOk X.stack H1 s1 (a, oe) := ⟨p1.1, p1.2.1, fun hm => (List.mem_cons.mp (I1.stkSub a hm)).elim p1.2.2.1 p1.2.2.2.1, p1.2.2.2.2⟩
  refine wpAny_call (codeAny_mono (F.run X.A X.stack s1 H1 ⟨us, []⟩ us vs Q E0 (a, oe) cls d hr hot pok hz I1.env0 b r h1) fun z s2 hq => ?_)
  cases z with
  | error e => exact hq.elim
  | ok fl =>
    cases fl with
    | ret u => exact I1.after hq
    | next => exact hq.elim
    | brk => exact hq.elim
    | cont => exact hq.elim
theorem rd_callE {sp : Sp} {σ : L2.St} {H : Hp} {Q : VK} (h : t σ H fun vs H1 => sp vs H1 Q E0) : tCallE sp t σ H Q := h
end
theorem roomH_suite {X : Cx} {k j : Nat} {a : Addr} {pn : List (Addr × Obj)} (hr : Room k X.A) (h : j ≤ k) : L2H.RoomH j (X.suite a pn).A := ⟨(hr.mono h).dp, (hr.mono h).un⟩
theorem hot_of {A : Around} {a : Addr} {oe : Obj} {cls : Value} {d : Option Addr} (h : A.handled = some (.ref a)) (hz : L2N.Zn cls d oe) (hf : ∃ vs, oe.data = .fields vs) : L2H.Hot1 A (a, oe) := ⟨h, let ⟨vs, e⟩ := hf; ⟨vs, e, hz.2.2 vs e⟩⟩
end JF

/-! ### law k01: whole numbers read -/
namespace JF
open PySem PySem.Spec PyProof.Rows L2
/-! #### the plain law: which texts write a whole number -/
def figsOf (L : List Nat) : List Nat := if L.head? = some 45 then L.tail else L
def okW (L : List Nat) : Prop := figsOf L ≠ [] ∧ (figsOf L).length ≤ 30 ∧ (∀ c ∈ figsOf L, 48 ≤ c ∧ c ≤ 57) ∧ ((figsOf L).head? = some 48 → L = [48])
def dig (l : List Nat) : Nat := NumText.digitsVal l
def valW (L : List Nat) : Int := if L.head? = some 45 then -((dig (figsOf L) : Nat) : Int) else ((dig (figsOf L) : Nat) : Int)
theorem dig_snoc (l : List Nat) (c : Nat) : dig (l ++ [c]) = dig l * 10 + (c - 48) := by
  unfold dig NumText.digitsVal
  rw [List.foldl_append]; rfl
theorem fold_lt : ∀ (l : List Nat) (a : Nat), (∀ c ∈ l, 48 ≤ c ∧ c ≤ 57) → l.foldl (fun acc c => acc * 10 + (c - 48)) a + 1 ≤ (a + 1) * 10 ^ l.length
  | [], a, _ => by simp
  | c :: l, a, h => by
    have h1 := fold_lt l (a * 10 + (c - 48)) fun x hx => h x (List.mem_cons_of_mem _ hx)
    have h2 := h c List.mem_cons_self
    rw [List.foldl_cons, List.length_cons, Nat.pow_succ]
    refine Nat.le_trans h1 ?_
    have e : (a + 1) * (10 ^ l.length * 10) = ((a + 1) * 10) * 10 ^ l.length := by rw [Nat.mul_comm (10 ^ l.length) 10, Nat.mul_assoc]
    rw [e]
    exact Nat.mul_le_mul_right _ (by omega)
theorem dig_lt (l : List Nat) (h : ∀ c ∈ l, 48 ≤ c ∧ c ≤ 57) : dig l < 10 ^ l.length := by
  have := fold_lt l 0 h
  unfold dig NumText.digitsVal
  omega
theorem reads {L : List Nat} (h : okW L) : intText? (tx L) = some (valW L) := by
  obtain ⟨h1, h2, h3, h4⟩ := h
  unfold valW
  by_cases z : L.head? = some 45
  · have e : figsOf L = L.tail := if_pos z
    rw [if_pos z]
    rw [e] at h1 h2 h3 ⊢
    cases L with
    | nil => cases z
    | cons c l =>
      cases z
      exact intText_neg (x := tx (45 :: l)) (cs := l) rfl h3 h1 (by rw [tx_len]; simp only [List.length_cons, List.tail_cons] at h2 ⊢; omega)
  · have e : figsOf L = L := if_neg z
    rw [if_neg z]
    rw [e] at h1 h2 h3 ⊢
    exact intText_digits (x := tx L) h3 h1 (by rw [tx_len]; omega)
theorem starts_minus (L : List Nat) : Txt.startswith (tx L) (Str.ofString "-") = decide (L.head? = some 45) := by
  have e : Str.ofString "-" = tx [45] := str_tx (by decide +kernel)
  rw [e]
  unfold Txt.startswith
  rw [StrLaws.subAt_eq, tx_len, tx_len]
  show (decide (0 + 1 ≤ L.length) && ((L.drop 0).take ([45] : List Nat).length == [45])) = _
  cases L with
  | nil => rfl
  | cons c l =>
    show (decide (0 + 1 ≤ l.length + 1) && ([c] == [45])) = decide (some c = some 45)
    rw [decide_eq_true (by omega), Bool.true_and]
    by_cases z : c = 45
    · subst z; rfl
    · rw [decide_eq_false (by simpa using z)]
      simp [z]
theorem cut_from (L : List Nat) (a : Nat) : cutS (tx L) (some (a : Int)) none = tx (L.drop a) := by
  refine str_tx ?_
  show ((L.drop (HT.sIx (tx L).length 0 (some (a : Int)))).take (HT.sIx (tx L).length (tx L).length none - HT.sIx (tx L).length 0 (some (a : Int)))) = L.drop a
  rw [HT.sIx_nat, HT.sIx_none, tx_len]
  by_cases z : a ≤ L.length
  · rw [Nat.min_eq_left z]
    exact List.take_of_length_le (by rw [List.length_drop]; omega)
  · rw [Nat.min_eq_right (by omega), List.drop_of_length_le (by omega), List.drop_of_length_le (by omega)]; simp
theorem cut_to (L : List Nat) (b : Nat) : cutS (tx L) none (some (b : Int)) = tx (L.take b) := by
  refine str_tx ?_
  show ((L.drop (HT.sIx (tx L).length 0 none)).take (HT.sIx (tx L).length (tx L).length (some (b : Int)) - HT.sIx (tx L).length 0 none)) = L.take b
  rw [HT.sIx_nat, HT.sIx_none, tx_len, List.drop_zero, Nat.sub_zero]
  by_cases z : b ≤ L.length
  · rw [Nat.min_eq_left z]
  · rw [Nat.min_eq_right (by omega), List.take_of_length_le (Nat.le_refl _), List.take_of_length_le (by omega)]
theorem find_fig {c : Nat} (h : 48 ≤ c ∧ c ≤ 57) : Txt.find (Str.ofString "0123456789") ⟨#[c]⟩ = ((c - 48 : Nat) : Int) := by
  have all : ∀ d : Fin 10, Txt.find (Str.ofString "0123456789") ⟨#[48 + d.val]⟩ = ((d.val : Nat) : Int) := by decide +kernel
  have := all ⟨c - 48, by omega⟩
  simp only at this
  rw [show 48 + (c - 48) = c by omega] at this
  exact this
theorem mm_starts : MonM (fun x xs H Q => ∃ a b, x = .str a ∧ xs = [.str b] ∧ Q (.bl (Txt.startswith a b)) H) := fun x y H Q Q' h ⟨a, b, e1, e2, q⟩ => ⟨a, b, e1, e2, h _ _ q⟩
theorem mr_sl : MonL rSlS := fun x lo hi H Q Q' h ⟨z, e1, e2, q⟩ => ⟨z, e1, e2, h _ _ q⟩
theorem mc_lenS : MonC (fun xs H Q => ∃ z : Str, xs = [.str z] ∧ z.length ≤ sizeLine ∧ Q (.int z.length) H) := fun x H Q Q' h ⟨z, e1, e2, q⟩ => ⟨z, e1, e2, h _ _ q⟩
theorem mr_addS : MonR (fun x y H Q => ∃ i j : Str, x = .str i ∧ y = .str j ∧ i.length + j.length ≤ sizeLine ∧ Q (.str (i ++ j)) H) := fun x y H Q Q' h ⟨i, j, e1, e2, e3, q⟩ => ⟨i, j, e1, e2, e3, h _ _ q⟩
theorem fig_in {c : Nat} : decide (c ∈ (Str.ofString "0123456789").cps.toList) = decide (48 ≤ c ∧ c ≤ 57) := in_figs
/-- what is no text -/
def NoTx (H : Hp) (x : V) : Prop := (∃ i, x = .int i) ∨ x = .non ∨ ∃ p xs, x = .ref p ∧ H p = some (.lst xs)
section
variable {P : Program} {w : World} {K : PySem.W.Frag} {mg : Str → Option Value} {base : Heap}
def sp_rw (K : PySem.W.Frag) : Sp := fun vs H Q E => ∃ x : V, vs = [x] ∧ ((∃ L, x = .str (tx L) ∧ L.length ≤ 1000 ∧ (okW L → Q (.int (valW L)) H) ∧ (¬ okW L → E (.ref (He.ga K "NoNumber")) none H)) ∨ (NoTx H x ∧ E (.ref (He.ga K "NoNumber")) none H))
set_option maxHeartbeats 8000000 in
theorem okX_rw (T : Env fa fn K mg) : Good P w K mg base (L2N.CX P w) 1 ("read_whole", none) ["text"] (sp_rw K) := by
  refine good_mkX T 1 (d := d_read_whole) (N := ["text", "figures", "sign"]) (ps := ["text"]) rfl rfl sc_read_whole (fun _ _ _ _ _ _ us hl => match us, hl with | [_], _ => rfl) (fun vs H Q E h => ?_) (fun f cdv A outer s H vs Q E hr h => ?_)
  · obtain ⟨x, rfl, _⟩ := h; rfl
  · obtain ⟨x, rfl, h⟩ := h
    have hsz := sizeBig
    refine ⟨_, (pss_cons (ps_if (pt_not (pt_val (pe_callB (call_isiK K rfl) (by rfl) (T.free 1) (by decide +kernel) (pa_cons (pv 0) (pa_cons (pe_bltn (v := V.ty "str") rfl (T.free 3) (by decide +kernel) rfl) pa_nil))))) (pss_one (ps_raiseT K rfl (T.exf (List.mem_of_getElem? (i := 0) rfl)) (T.glo 7) rfl (L2N.takes_of rfl rfl rfl rfl) rfl)) pss_nil)
      (pss_cons (ps_set (i := 1) sc_read_whole.nd rfl (Or.inl rfl) (pv 0))
      (pss_cons (ps_if (pt_val (pe_m1 PySem.F.slot_str_startswith PySem.F.type_str_startswith mt_startswith (pv 0) pe_str)) (pss_one (ps_set (i := 1) sc_read_whole.nd rfl (Or.inl rfl) (pe_slice sl_str (pv 0) (po_some pe_int) po_none))) pss_nil)
      (pss_cons (ps_if (PW.pt (pw_or (pt_cmpR op_eq (pv 1) pe_str (nomark _)) (pw_or1 (pt_cmpR op_gt (pe_callB call_len_str (by rfl) (T.free 4) (by decide +kernel) (pa_cons (pv 1) pa_nil)) (pe_gint (T.int 5) rfl) (nomark _))))) (pss_one (ps_raiseT K rfl (T.exf (List.mem_of_getElem? (i := 0) rfl)) (T.glo 7) rfl (L2N.takes_of rfl rfl rfl rfl) rfl)) pss_nil)
      (pss_cons (ps_for (passes_of rfl) rfl (pi_str (pv 1)) (pg_name (i := 2) sc_read_whole.nd rfl (Or.inl rfl)) (pss_one (ps_if (pt_cmpR op_notIn_sign (pv 2) (pe_gstr (T.str 6) rfl) rfl) (pss_one (ps_raiseT K rfl (T.exf (List.mem_of_getElem? (i := 0) rfl)) (T.glo 7) rfl (L2N.takes_of rfl rfl rfl rfl) rfl)) pss_nil)))
      (pss_cons (ps_if (PW.pt (pw_and (pt_cmpR op_eq (pe_ix ix_str (pv 1) pe_int (fun _ _ => rfl)) pe_str (nomark _)) (pw_and1 (pt_cmpR op_ne (pv 0) pe_str (nomark _))))) (pss_one (ps_raiseT K rfl (T.exf (List.mem_of_getElem? (i := 0) rfl)) (T.glo 7) rfl (L2N.takes_of rfl rfl rfl rfl) rfl)) pss_nil)
      (pss_one (ps_ret (pe_callTy call_int_str (by rfl) (T.free 2) (by decide +kernel) (pa_cons (pv 0) pa_nil)))))))))), ?_⟩
    rcases h with ⟨L, rfl, hL, hy, hn⟩ | ⟨hx, q⟩
    · walk_at "rd"
      refine isi_ty (.base (.str _)) (by decide +kernel : kitB "str" "str" = some true) ?_
      walk_at "rhi"
      refine rd_cut (fun σ H' => H' = H ∧ σ = [some (.str (tx L)), some (.str (tx (figsOf L))), none]) (by
        have := mm_starts
        have := mr_sl
        walk_at "mono") ?_ ?_
      · walk_at "rd"
        refine rd_m1 ?_
        walk_at "rd"
        refine rd_st ?_
        walk_at "rd"
        refine ⟨_, _, rfl, rfl, ?_⟩
        rw [starts_minus]
        walk_at "rd"
        refine ite_d (fun z => ?_) (fun z => ?_)
        · walk_at "rd"
          refine ⟨_, rfl, len_ok (by omega), ?_⟩
          walk_at "rd"
          refine ⟨rfl, ?_⟩
          have e : figsOf L = L.drop 1 := by unfold figsOf; rw [if_pos z]; exact (List.drop_one).symm
          rw [e]
          have e2 := cut_from L 1
          rw [show (((1 : Nat) : Int)) = 1 from rfl] at e2
          rw [e2]; rfl
        · walk_at "rd"
          refine ⟨rfl, ?_⟩
          have e : figsOf L = L := if_neg z
          rw [e]; rfl
      rintro σ H1 ⟨rfl, rfl⟩
      have hF : (figsOf L).length ≤ L.length ∧ L.length ≤ (figsOf L).length + 1 := by unfold figsOf; split <;> simp <;> omega
      walk_at "rd"
      rw [tx_nil, tx_eq]
      refine ite_d (fun z => ?_) (fun z => ?_)
      · walk_at "rd"
        exact rd_raise (hn fun ok => ok.1 z)
      walk_at "rd"
      refine ⟨_, rfl, len_ok (by omega), ?_⟩
      walk_at "rd"
      rw [tx_len]
      refine ite_d (fun z2 => ?_) (fun z2 => ?_)
      · walk_at "rd"
        exact rd_raise (hn fun ok => by have := ok.2.1; omega)
      walk_at "rd"
      refine ⟨_, rfl, ?_⟩
      refine for_it (walk_str (z := tx (figsOf L))) (fun i σ H' => H' = H1 ∧ (∀ c ∈ (figsOf L).take i, 48 ≤ c ∧ c ≤ 57) ∧ ∃ x2 : Option V, σ = [some (.str (tx L)), some (.str (tx (figsOf L))), x2]) ⟨rfl, fun c h => by simp at h, none, rfl⟩ (fun _ _ _ _ _ => trivial) ?_ ?_
      · rintro i v σ Ha Hb hi ⟨rfl, hd, x2, rfl⟩ ⟨rfl, c, hc, rfl⟩
        have hc' : (figsOf L)[i]? = some c := by simpa [tx] using hc
        walk_at "rd"
        refine ⟨c, _, rfl, rfl, ?_⟩
        rw [fig_in]
        walk_at "rd"
        refine ite_nd (fun z3 => ?_) (fun z3 => ?_)
        · walk_at "rd"
          exact rd_raise (hn fun ok => z3 (ok.2.2.1 c (List.mem_of_getElem? hc')))
        · walk_at "rd"
          refine ⟨rfl, fun d hd' => ?_, _, rfl⟩
          rw [List.take_succ, hc'] at hd'
          rcases List.mem_append.mp hd' with m | m
          · exact hd d m
          · have e : d = c := by simpa using m
            rw [e]; exact z3
      · rintro σ H' ⟨rfl, hd, x2, rfl⟩
        have hall : ∀ c ∈ figsOf L, 48 ≤ c ∧ c ≤ 57 := by
          have e : (figsOf L).take (tx (figsOf L)).cps.size = figsOf L := List.take_of_length_le (by simp [tx])
          rw [e] at hd
          exact hd
        obtain ⟨c0, l0, e0⟩ : ∃ c l, figsOf L = c :: l := by
          cases e : figsOf L with
          | nil => exact absurd e z
          | cons c l => exact ⟨c, l, rfl⟩
        have fin : ((figsOf L).head? = some 48 → L = [48]) → okW L := fun h => ⟨z, by omega, hall, h⟩
        walk_at "rd"
        refine ⟨_, _, c0, rfl, rfl, len_ok (by omega), by show atI (figsOf L) 0 = some c0; rw [e0]; exact atI_nat (j := 0) rfl, ?_⟩
        walk_at "rd"
        rw [tx_nought]
        have e1 : decide ((⟨#[c0]⟩ : Str) = tx [48]) = decide (c0 = 48) := by
          show decide (tx [c0] = tx [48]) = _
          rw [tx_eq]
          exact decide_eq_decide.mpr (by simp)
        rw [e1]
        by_cases z4 : c0 = 48
        · rw [decide_eq_true z4]
          walk_at "rd"
          rw [tx_eq]
          refine ite_nd (fun z5 => ?_) (fun z5 => ?_)
          · walk_at "rd"
            exact rd_raise (hn fun ok => z5 (ok.2.2.2 (by rw [e0, z4]; rfl)))
          · walk_at "rd"
            have ok := fin fun _ => z5
            exact ⟨_, valW L, rfl, reads ok, by rw [tx_len]; omega, hy ok⟩
        · rw [decide_eq_false z4]
          walk_at "rd"
          have ok := fin fun h => absurd (by rw [e0] at h; exact Option.some.inj h) z4
          exact ⟨_, valW L, rfl, reads ok, by rw [tx_len]; omega, hy ok⟩
    · walk_at "rd"
      rcases hx with ⟨i, rfl⟩ | rfl | ⟨p, xs, rfl, hp⟩
      · refine isi_ty (.base (.int i)) (by decide +kernel : kitB "int" "str" = some false) ?_
        walk_at "rd"
        exact rd_raise q
      · refine isi_ty (.base .non) (by decide +kernel : kitB "NoneType" "str" = some false) ?_
        walk_at "rd"
        exact rd_raise q
      · refine isi_ty (.base (.lst hp)) (by decide +kernel : kitB "list" "str" = some false) ?_
        walk_at "rd"
        exact rd_raise q
def sp_others : Value → Option Addr → Addr → Sp := fun cls d a vs H Q _ => vs = [.ref a] ∧ cls = .ref (He.ga K "NoNumber") ∧ d = none ∧ ∀ (p : Addr) (xs : List V) (H' : Hp), Same H H' → H' p = some (.lst xs) → xs = List.replicate 10 (.bl false) → Q (.ref p) H'
theorem okE_others (T : Env fa fn K mg) : GoodE P w K mg base 1 ("_law_others", none) ["_law_e"] (sp_others (K := K)) := by
  refine good_mkE T 8 (d := d_w_others) (N := ["_law_e", "_law_some"]) (ps := ["_law_e"]) rfl rfl sc_w_others (fun _ _ _ _ _ _ us hl => match us, hl with | [_], _ => rfl) (fun cls d a vs H Q E h => ?_) (fun f cdv A outer s H vs Q E p cls d hz hf hr h => ?_)
  · obtain ⟨rfl, _⟩ := h; rfl
  · obtain ⟨rfl, rfl, rfl, k⟩ := h
    have ec := (T.exf (List.mem_of_getElem? (i := 0) rfl)).ec
    refine ⟨_, (pss_cons (ps_set (i := 1) sc_w_others.nd rfl (Or.inl rfl) (pe_lst (pa_cons (pe_callB (call_isP K rfl List.mem_cons_self hz hf) (by rfl) (T.free 1) (by decide +kernel) (pa_cons (pv 0) (pa_cons (pe_grefK K rfl (T.glo 13) rfl) pa_nil))) (pa_cons (pe_callB (call_isP K rfl List.mem_cons_self hz hf) (by rfl) (T.free 1) (by decide +kernel) (pa_cons (pv 0) (pa_cons (pe_grefK K rfl (T.glo 14) rfl) pa_nil))) (pa_cons (pe_callB (call_isP K rfl List.mem_cons_self hz hf) (by rfl) (T.free 1) (by decide +kernel) (pa_cons (pv 0) (pa_cons (pe_grefK K rfl (T.glo 15) rfl) pa_nil))) (pa_cons (pe_callB (call_isP K rfl List.mem_cons_self hz hf) (by rfl) (T.free 1) (by decide +kernel) (pa_cons (pv 0) (pa_cons (pe_grefK K rfl (T.glo 16) rfl) pa_nil))) pa_nil))))))
      (pss_cons (ps_set (i := 1) sc_w_others.nd rfl (Or.inl rfl) (pe_op op_cat (pv 1) (pe_lst (pa_cons (pe_callB (call_isP K rfl List.mem_cons_self hz hf) (by rfl) (T.free 1) (by decide +kernel) (pa_cons (pv 0) (pa_cons (pe_grefK K rfl (T.glo 17) rfl) pa_nil))) (pa_cons (pe_callB (call_isP K rfl List.mem_cons_self hz hf) (by rfl) (T.free 1) (by decide +kernel) (pa_cons (pv 0) (pa_cons (pe_grefK K rfl (T.glo 18) rfl) pa_nil))) (pa_cons (pe_callB (call_isP K rfl List.mem_cons_self hz hf) (by rfl) (T.free 1) (by decide +kernel) (pa_cons (pv 0) (pa_cons (pe_grefK K rfl (T.glo 19) rfl) pa_nil))) pa_nil))))))
      (pss_one (ps_ret (pe_op op_cat (pv 1) (pe_lst (pa_cons (pe_callB (call_isP K rfl List.mem_cons_self hz hf) (by rfl) (T.free 1) (by decide +kernel) (pa_cons (pv 0) (pa_cons (pe_grefK K rfl (T.glo 20) rfl) pa_nil))) (pa_cons (pe_callB (call_isP K rfl List.mem_cons_self hz hf) (by rfl) (T.free 1) (by decide +kernel) (pa_cons (pv 0) (pa_cons (pe_grefK K rfl (T.glo 21) rfl) pa_nil))) (pa_cons (pe_callB (call_isP K rfl List.mem_cons_self hz hf) (by rfl) (T.free 1) (by decide +kernel) (pa_cons (pv 0) (pa_cons (pe_grefK K rfl (T.glo 22) rfl) pa_nil))) pa_nil))))))))), ?_⟩
    walk_at "rd"
    refine rd_isX ec (T.exk (List.mem_of_getElem? (i := 0) rfl)) ?_
    walk_at "rd"
    refine rd_isX ec (T.exk (List.mem_of_getElem? (i := 1) rfl)) ?_
    walk_at "rd"
    refine rd_isX ec (T.exk (List.mem_of_getElem? (i := 2) rfl)) ?_
    walk_at "rd"
    refine rd_isX ec (T.exk (List.mem_of_getElem? (i := 3) rfl)) ?_
    walk_at "rd"
    refine rd_new (hn := by show 4 ≤ sizeLine; decide) fun p1 hp1 => ?_
    have s1 := same_upd (o := HO.lst [V.bl false, .bl false, .bl false, .bl false]) hp1
    have L1 : (upd H p1 (HO.lst [V.bl false, .bl false, .bl false, .bl false])) p1 = _ := upd_same
    generalize upd H p1 (HO.lst [V.bl false, .bl false, .bl false, .bl false]) = H1 at s1 L1 ⊢
    walk_at "rd"
    refine rd_isX ec (T.exk (List.mem_of_getElem? (i := 4) rfl)) ?_
    walk_at "rd"
    refine rd_isX ec (T.exk (List.mem_of_getElem? (i := 5) rfl)) ?_
    walk_at "rd"
    refine rd_isX ec (T.exk (List.mem_of_getElem? (i := 6) rfl)) ?_
    walk_at "rd"
    refine rd_new (hn := by show 3 ≤ sizeLine; decide) fun p2 hp2 => ?_
    have s2 := same_upd (o := HO.lst [V.bl false, .bl false, .bl false]) hp2
    have L2 : (upd H1 p2 (HO.lst [V.bl false, .bl false, .bl false])) p2 = _ := upd_same
    generalize upd H1 p2 (HO.lst [V.bl false, .bl false, .bl false]) = H2 at s2 L2 ⊢
    walk_at "rd"
    refine ⟨p1, p2, _, _, rfl, rfl, s2 _ _ L1, L2, by show 7 ≤ sizeLine; decide, fun p3 hp3 => ?_⟩
    have s3 := same_upd (o := HO.lst ([V.bl false, .bl false, .bl false, .bl false] ++ [V.bl false, .bl false, .bl false])) hp3
    have L3 : (upd H2 p3 (HO.lst ([V.bl false, .bl false, .bl false, .bl false] ++ [V.bl false, .bl false, .bl false]))) p3 = _ := upd_same
    generalize upd H2 p3 (HO.lst ([V.bl false, .bl false, .bl false, .bl false] ++ [V.bl false, .bl false, .bl false])) = H3 at s3 L3 ⊢
    walk_at "rd"
    refine rd_isX ec (T.exk (List.mem_of_getElem? (i := 7) rfl)) ?_
    walk_at "rd"
    refine rd_isX ec (T.exk (List.mem_of_getElem? (i := 8) rfl)) ?_
    walk_at "rd"
    refine rd_isX ec (T.exk (List.mem_of_getElem? (i := 9) rfl)) ?_
    walk_at "rd"
    refine rd_new (hn := by show 3 ≤ sizeLine; decide) fun p4 hp4 => ?_
    have s4 := same_upd (o := HO.lst [V.bl false, .bl false, .bl false]) hp4
    have L4 : (upd H3 p4 (HO.lst [V.bl false, .bl false, .bl false])) p4 = _ := upd_same
    generalize upd H3 p4 (HO.lst [V.bl false, .bl false, .bl false]) = H4 at s4 L4 ⊢
    walk_at "rd"
    refine ⟨p3, p4, _, _, rfl, rfl, s4 _ _ L3, L4, by show 10 ≤ sizeLine; decide, fun p5 hp5 => ?_⟩
    exact k p5 _ _ ((((s1.trans s2).trans s3).trans s4).trans (same_upd hp5)) upd_same rfl
def sp_refused : Sp := fun vs H Q _ => ∃ x : V, vs = [x] ∧ ((∃ L, x = .str (tx L) ∧ L.length ≤ 1000 ∧ ¬ okW L) ∨ NoTx H x) ∧ ∀ H', Same H H' → Q (.bl true) H'
theorem mp_refused : MonP sp_refused := fun vs H Q Q' E h ⟨x, x1, x2, k⟩ => ⟨x, x1, x2, fun H' s => h _ _ (k H' s)⟩
theorem ok_refused (T : Env fa fn K mg) : Good P w K mg base CX0 3 ("_law_refused", none) ["_law_thing"] sp_refused := by
  have GX_read_whole := okX_rw (P := P) (w := w) (base := base) T
  have GE_w_others := okE_others (P := P) (w := w) (base := base) T
  refine good_mk T 9 (d := d_w_refused) (N := ["_law_thing", "_law_e"]) (ps := ["_law_thing"]) rfl rfl sc_w_refused (fun _ _ _ _ _ _ us hl => match us, hl with | [_], _ => rfl) (fun vs H Q E h => ?_) (fun f cdv A outer s H vs Q E hr h => ?_)
  · obtain ⟨x, rfl, _⟩ := h; rfl
  · obtain ⟨x, rfl, hx, k⟩ := h
    have ec := (T.exf (List.mem_of_getElem? (i := 0) rfl)).ec
    refine ⟨_, (pss_cons (ps_tryA K rfl (i := 1) rfl rfl sc_w_refused.nd rfl rfl ⟨rfl, by decide, .inl (T.glo 7)⟩ takes0N (fun W pn xe tk pw => (pss_one (ps_expr (pe_cgX K rfl tk GX_read_whole (hr.mono (by decide)) (T.glo 23) (pa_cons (pv 0) pa_nil)))))
      (fun a oe cls d pn hz hf => (pss_cons (ps_if (PW.pt (pw_or (pt_val (pe_callB (call_isP K rfl List.mem_cons_self (L2N.Zn.zc hz) hf) (by rfl) (T.free 1) (by decide +kernel) (pa_cons (pv 1) (pa_cons (pe_grefK K rfl (T.glo 26) rfl) pa_nil)))) (pw_or (pt_val (pe_callB (call_isP K rfl List.mem_cons_self (L2N.Zn.zc hz) hf) (by rfl) (T.free 1) (by decide +kernel) (pa_cons (pv 1) (pa_cons (pe_grefK K rfl (T.glo 25) rfl) pa_nil)))) (pw_or1 (pt_cmpR (op_inK K rfl) pe_bl (pe_callE K rfl GE_w_others (roomH_suite hr (by decide)) (hot_of rfl hz hf) List.mem_cons_self (L2N.Zn.zc hz) (T.glo 24) (pa_cons (pv 1) pa_nil)) (by first | exact nomark _ | rfl)))))) (pss_one (ps_ret pe_bl)) pss_nil)
      (pss_one (ps_ret (pe_and (pe_callB (call_isP K rfl List.mem_cons_self (L2N.Zn.zc hz) hf) (by rfl) (T.free 1) (by decide +kernel) (pa_cons (pv 1) (pa_cons (pe_grefK K rfl (T.glo 28) rfl) pa_nil))) (pe_one (pe_callB (call_isP K rfl List.mem_cons_self (L2N.Zn.zc hz) hf) (by rfl) (T.free 1) (by decide +kernel) (pa_cons (pv 1) (pa_cons (pe_bltn (v := V.ty "ValueError") rfl (T.free 27) (by decide +kernel) rfl) pa_nil))))))))))
      (pss_one (ps_ret pe_bl))), ?_⟩
    walk_at "rd"
    refine rd_tryA ?_
    walk_at "rd"
    refine rd_callS ?_
    walk_at "rd"
    have use : ∀ (Q' : VK) (E' : XK), E' (.ref (He.ga K "NoNumber")) none H → sp_rw K [x] H Q' E' := fun Q' E' q => ⟨x, rfl, hx.elim (fun ⟨L, e, l, n⟩ => .inl ⟨L, e, l, fun ok => absurd ok n, fun _ => q⟩) fun h => .inr ⟨h, q⟩⟩
    refine use _ _ ?_
    refine wAs_yes (T.exm (List.mem_of_getElem? (i := 10) rfl)) fun a ha => ?_
    walk_at "rd"
    refine rd_isX ec (T.exk (List.mem_of_getElem? (i := 12) rfl)) ?_
    walk_at "rd"
    refine rd_isX ec (T.exk (List.mem_of_getElem? (i := 11) rfl)) ?_
    walk_at "rd"
    refine rd_callE ?_
    walk_at "rd"
    refine ⟨rfl, rfl, rfl, fun p xs H1 s1 L1 ex => ?_⟩
    subst ex
    walk_at "rd"
    refine ⟨p, _, rfl, .inl (SqL.of L1), rfl, by decide, ?_⟩
    have e : inV (V.bl true) (List.replicate 10 (V.bl false)) = false := by decide
    show _
    rw [if_neg Bool.false_ne_true, e]
    walk_at "rd"
    refine rd_isX ec (T.exk (List.mem_of_getElem? (i := 14) rfl)) ?_
    walk_at "rd"
    refine rd_isXT ec (T.exk (List.mem_of_getElem? (i := 13) rfl)) ?_
    walk_at "rd"
    exact k _ s1
def sp_readW : Sp := fun vs H Q _ => ∃ L, vs = [.str (tx L)] ∧ L.length ≤ 1000 ∧ okW L ∧ Q (.int (valW L)) H
theorem ok_readW (T : Env fa fn K mg) : Good P w K mg base CX0 2 ("_law_read", none) ["_law_line_here"] sp_readW := by
  have GX_read_whole := okX_rw (P := P) (w := w) (base := base) T
  refine good_mk T 10 (d := d_w_read) (N := ["_law_line_here", "_law_found"]) (ps := ["_law_line_here"]) rfl rfl sc_w_read (fun _ _ _ _ _ _ us hl => match us, hl with | [_], _ => rfl) (fun vs H Q E h => ?_) (fun f cdv A outer s H vs Q E hr h => ?_)
  · obtain ⟨L, rfl, _⟩ := h; rfl
  · obtain ⟨L, rfl, hl, ok, k⟩ := h
    refine ⟨_, (pss_cons (ps_set (i := 1) sc_w_read.nd rfl (Or.inl rfl) pe_non)
      (pss_cons (ps_try1 K rfl rfl rfl ⟨rfl, by decide, .inl (T.glo 28)⟩ takes0N (fun W pn xe tk pw => (pss_one (ps_set (i := 1) sc_w_read.nd rfl (Or.inl rfl) (pe_cgX K rfl tk GX_read_whole (hr.mono (by decide)) (T.glo 23) (pa_cons (pv 0) pa_nil)))))
      (fun a oe cls d pn hz hf => (pss_one (ps_ret pe_non))))
      (pss_one (ps_ret (pv 1))))), ?_⟩
    walk_at "rd"
    refine rd_try1 ?_
    walk_at "rd"
    refine rd_callS ?_
    walk_at "rd"
    refine ⟨_, rfl, .inl ⟨L, rfl, hl, fun _ => ?_, fun n => absurd ok n⟩⟩
    walk_at "rd"
    exact k
def sp_due : Sp := fun vs H Q _ => ∃ L, vs = [.str (tx L)] ∧ L.length ≤ 1000 ∧ (okW L → Q (.int (valW L)) H) ∧ (¬ okW L → Q .non H)
set_option maxHeartbeats 8000000 in
theorem ok_due (T : Env fa fn K mg) : Good P w K mg base CX0 1 ("_law_due", none) ["_law_line_here"] sp_due := by
  refine good_mk T 7 (d := d_w_due) (N := ["_law_line_here", "_law_figures", "_law_value", "_law_sign"]) (ps := ["_law_line_here"]) rfl rfl sc_w_due (fun _ _ _ _ _ _ us hl => match us, hl with | [_], _ => rfl) (fun vs H Q E h => ?_) (fun f cdv A outer s H vs Q E hr h => ?_)
  · obtain ⟨L, rfl, _⟩ := h; rfl
  · obtain ⟨L, rfl, hL, hy, hn⟩ := h
    have hsz := sizeBig
    refine ⟨_, (pss_cons (ps_set (i := 1) sc_w_due.nd rfl (Or.inl rfl) (pv 0))
      (pss_cons (ps_if (pt_cmpR op_eq (pe_slice sl_str (pv 0) po_none (po_some pe_int)) pe_str (nomark _)) (pss_one (ps_set (i := 1) sc_w_due.nd rfl (Or.inl rfl) (pe_slice sl_str (pv 0) (po_some pe_int) po_none))) pss_nil)
      (pss_cons (ps_if (PW.pt (pw_or (pt_cmpR op_eq (pv 1) pe_str (nomark _)) (pw_or (pt_cmpR op_gt (pe_callB call_len_str (by rfl) (T.free 4) (by decide +kernel) (pa_cons (pv 1) pa_nil)) pe_int (nomark _)) (pw_or1 (PW.pt (pw_and (pt_cmpR op_eq (pe_ix ix_str (pv 1) pe_int (fun _ _ => rfl)) pe_str (nomark _)) (pw_and1 (pt_cmpR op_ne (pv 0) pe_str (nomark _))))))))) (pss_one (ps_ret pe_non)) pss_nil)
      (pss_cons (ps_set (i := 2) sc_w_due.nd rfl (Or.inl rfl) pe_int)
      (pss_cons (ps_for PassesOwn.never rfl (pi_str (pv 1)) (pg_name (i := 3) sc_w_due.nd rfl (Or.inl rfl)) (pss_cons (ps_if (pt_cmpR op_notIn_sign (pv 3) pe_str rfl) (pss_one (ps_ret pe_non)) pss_nil)
      (pss_one (ps_set (i := 2) sc_w_due.nd rfl (Or.inl rfl) (pe_op op_add (pe_op op_mulW pe_int (pv 2)) (pe_m1 PySem.F.slot_str_find PySem.F.type_str_find mt_find pe_str (pv 3)))))))
      (pss_cons (ps_if (pt_cmpR op_eq (pe_ix ix_str (pv 0) pe_int (fun _ _ => rfl)) pe_str (nomark _)) (pss_one (ps_ret (pe_un un_neg (pv 2)))) pss_nil)
      (pss_one (ps_ret (pv 2))))))))), ?_⟩
    walk_at "rhi"
    have e45 : Str.ofString "-" = tx [45] := str_tx (by decide +kernel)
    refine rd_cut (fun σ H' => H' = H ∧ σ = [some (.str (tx L)), some (.str (tx (figsOf L))), none, none]) (by
      have := mr_sl
      walk_at "mono") ?_ ?_
    · walk_at "rd"
      refine ⟨_, rfl, len_ok (by omega), ?_⟩
      walk_at "rd"
      have e1 := cut_to L 1
      rw [show (((1 : Nat) : Int)) = 1 from rfl] at e1
      rw [e1, e45, tx_eq]
      have e2 : decide (L.take 1 = [45]) = decide (L.head? = some 45) := by
        cases L with
        | nil => rfl
        | cons c l => exact decide_eq_decide.mpr (by simp)
      rw [e2]
      refine ite_d (fun z => ?_) (fun z => ?_)
      · walk_at "rd"
        refine ⟨_, rfl, len_ok (by omega), ?_⟩
        walk_at "rd"
        refine ⟨rfl, ?_⟩
        have e : figsOf L = L.drop 1 := by unfold figsOf; rw [if_pos z]; exact (List.drop_one).symm
        rw [e]
        have e2 := cut_from L 1
        rw [show (((1 : Nat) : Int)) = 1 from rfl] at e2
        rw [e2]; rfl
      · walk_at "rd"
        refine ⟨rfl, ?_⟩
        have e : figsOf L = L := if_neg z
        rw [e]; rfl
    rintro σ H1 ⟨rfl, rfl⟩
    have hF : (figsOf L).length ≤ L.length ∧ L.length ≤ (figsOf L).length + 1 := by unfold figsOf; split <;> simp <;> omega
    walk_at "rhi"
    refine rd_cut (fun σ H' => H' = H1 ∧ σ = [some (.str (tx L)), some (.str (tx (figsOf L))), none, none] ∧ figsOf L ≠ [] ∧ (figsOf L).length ≤ 30 ∧ ((figsOf L).head? = some 48 → L = [48])) (by
      have := mc_lenS
      have := mr_ixS
      walk_at "mono") ?_ ?_
    · walk_at "rd"
      rw [tx_nil, tx_eq]
      refine ite_d (fun z => ?_) (fun z => ?_)
      · walk_at "rd"
        exact hn fun ok => ok.1 z
      walk_at "rd"
      refine ⟨_, rfl, len_ok (by omega), ?_⟩
      walk_at "rd"
      rw [tx_len]
      refine ite_d (fun z2 => ?_) (fun z2 => ?_)
      · walk_at "rd"
        exact hn fun ok => by have := ok.2.1; omega
      obtain ⟨c0, l0, e0⟩ : ∃ c l, figsOf L = c :: l := by
        cases e : figsOf L with
        | nil => exact absurd e z
        | cons c l => exact ⟨c, l, rfl⟩
      walk_at "rd"
      refine ⟨_, _, c0, rfl, rfl, len_ok (by omega), by show atI (figsOf L) 0 = some c0; rw [e0]; exact atI_nat (j := 0) rfl, ?_⟩
      walk_at "rd"
      rw [tx_nought]
      have e1 : decide ((⟨#[c0]⟩ : Str) = tx [48]) = decide (c0 = 48) := by
        show decide (tx [c0] = tx [48]) = _
        rw [tx_eq]
        exact decide_eq_decide.mpr (by simp)
      rw [e1]
      refine ite_d (fun z3 => ?_) (fun z3 => ?_)
      · walk_at "rd"
        rw [tx_eq]
        refine ite_nd (fun z4 => ?_) (fun z4 => ?_)
        · walk_at "rd"
          exact hn fun ok => z4 (ok.2.2.2 (by rw [e0, z3]; rfl))
        · walk_at "rd"
          exact ⟨rfl, rfl, z, by omega, fun _ => z4⟩
      · walk_at "rd"
        exact ⟨rfl, rfl, z, by omega, fun h => absurd (by rw [e0] at h; exact Option.some.inj h) z3⟩
    rintro σ H2 ⟨rfl, rfl, f1, f2, f3⟩
    walk_at "rd"
    refine ⟨_, rfl, ?_⟩
    refine for_it (walk_str (z := tx (figsOf L))) (fun i σ H' => H' = H2 ∧ (∀ c ∈ (figsOf L).take i, 48 ≤ c ∧ c ≤ 57) ∧ ∃ x3 : Option V, σ = [some (.str (tx L)), some (.str (tx (figsOf L))), some (.int ((dig ((figsOf L).take i) : Nat) : Int)), x3]) ⟨rfl, fun c h => by simp at h, none, rfl⟩ (fun _ _ _ _ _ => trivial) ?_ ?_
    · rintro i v σ Ha Hb hi ⟨rfl, hd, x3, rfl⟩ ⟨rfl, c, hc, rfl⟩
      have hc' : (figsOf L)[i]? = some c := by simpa [tx] using hc
      walk_at "rd"
      refine ⟨c, _, rfl, rfl, ?_⟩
      rw [fig_in]
      walk_at "rd"
      refine ite_nd (fun z3 => ?_) (fun z3 => ?_)
      · walk_at "rd"
        exact hn fun ok => z3 (ok.2.2.1 c (List.mem_of_getElem? hc'))
      · walk_at "rd"
        have hlt := dig_lt _ hd
        have hlen : ((figsOf L).take i).length ≤ 30 := by rw [List.length_take]; omega
        have hp : (10 : Nat) ^ ((figsOf L).take i).length ≤ 10 ^ 30 := Nat.pow_le_pow_right (by decide) hlen
        have hb : ((dig ((figsOf L).take i) : Nat) : Int) < 2 ^ 2000 := by
          have e1 : ((10 ^ 30 : Nat) : Int) ≤ 2 ^ 2000 := by decide +kernel
          have e2 : ((dig ((figsOf L).take i) : Nat) : Int) < ((10 ^ 30 : Nat) : Int) := Int.ofNat_lt.mpr (Nat.lt_of_lt_of_le hlt hp)
          omega
        refine rd_I (mulW_of (by decide +kernel) (by decide +kernel) (by have : (0 : Int) < 2 ^ 2000 := by decide +kernel
                                                                         omega) hb) ?_
        walk_at "rd"
        refine rd_m1 ?_
        walk_at "rd"
        refine rd_st ?_
        walk_at "rd"
        refine ⟨_, _, rfl, rfl, ?_⟩
        rw [find_fig z3]
        walk_at "rd"
        refine ⟨rfl, fun d hd' => ?_, some (.str ⟨#[c]⟩), ?_⟩
        · rw [List.take_succ, hc'] at hd'
          rcases List.mem_append.mp hd' with m | m
          · exact hd d m
          · have e : d = c := by simpa using m
            rw [e]; exact z3
        · have e : (figsOf L).take (i + 1) = (figsOf L).take i ++ [c] := by rw [List.take_succ, hc']; rfl
          rw [e, dig_snoc]
          have e2 : (((dig ((figsOf L).take i) * 10 + (c - 48) : Nat)) : Int) = 10 * ((dig ((figsOf L).take i) : Nat) : Int) + ((c - 48 : Nat) : Int) := by omega
          rw [e2]; rfl
    · rintro σ H' ⟨rfl, hd, x3, rfl⟩
      have e : (figsOf L).take (tx (figsOf L)).cps.size = figsOf L := List.take_of_length_le (by simp [tx])
      rw [e] at hd ⊢
      have ok : okW L := ⟨f1, f2, hd, f3⟩
      have hv := hy ok
      obtain ⟨c0, l0, e0⟩ : ∃ c l, L = c :: l := by
        cases e : L with
        | nil => exfalso; apply f1; rw [e]; rfl
        | cons c l => exact ⟨c, l, rfl⟩
      walk_at "rd"
      refine ⟨_, _, c0, rfl, rfl, len_ok (by omega), by show atI L 0 = some c0; rw [e0]; exact atI_nat (j := 0) rfl, ?_⟩
      walk_at "rd"
      rw [e45]
      have e1 : decide ((⟨#[c0]⟩ : Str) = tx [45]) = decide (L.head? = some 45) := by
        show decide (tx [c0] = tx [45]) = _
        rw [tx_eq, e0]
        exact decide_eq_decide.mpr (by simp)
      rw [e1]
      refine ite_d (fun z3 => ?_) (fun z3 => ?_)
      · walk_at "rd"
        unfold valW at hv
        rw [if_pos z3] at hv
        exact hv
      · walk_at "rd"
        unfold valW at hv
        rw [if_neg z3] at hv
        exact hv
def sp_iw : Sp := fun vs H Q _ => ∃ x : V, vs = [x] ∧ (((∃ i, x = .int i) ∨ (∃ b, x = .bl b) ∨ (∃ z, x = .str z) ∨ x = .non) ∨ (∃ p xs, x = .ref p ∧ (H p = some (.lst xs) ∨ H p = some (.tup xs)))) ∧ Q (.bl (wholeV x)) H
theorem ok_iw (T : Env fa fn K mg) : Good P w K mg base CX0 1 ("is_whole", none) ["thing"] sp_iw := by
  refine good_mk T 0 (d := d_is_whole) (N := ["thing"]) (ps := ["thing"]) rfl rfl sc_is_whole (fun _ _ _ _ _ _ us hl => match us, hl with | [_], _ => rfl) (fun vs H Q E h => ?_) (fun f cdv A outer s H vs Q E hr h => ?_)
  · obtain ⟨x, rfl, _⟩ := h; rfl
  · obtain ⟨x, rfl, hx, k⟩ := h
    refine ⟨_, (pss_one (ps_ret (pe_and (pe_callB (call_isiK K rfl) (by rfl) (T.free 1) (by decide +kernel) (pa_cons (pv 0) (pa_cons (pe_bltn (v := V.ty "int") rfl (T.free 2) (by decide +kernel) rfl) pa_nil))) (pe_one (pe_not (pe_callB (call_isiK K rfl) (by rfl) (T.free 1) (by decide +kernel) (pa_cons (pv 0) (pa_cons (pe_bltn (v := V.ty "bool") rfl (T.free 0) (by decide +kernel) rfl) pa_nil)))))))), ?_⟩
    walk_at "rd"
    rcases hx with (⟨i, rfl⟩ | ⟨b, rfl⟩ | ⟨z, rfl⟩ | rfl) | ⟨p, xs, rfl, hp | hp⟩
    · refine isi_ty (.base (.int i)) (by decide +kernel : kitB "int" "int" = some true) ?_
      walk_at "rd"
      refine isi_ty (.base (.int i)) (by decide +kernel : kitB "int" "bool" = some false) ?_
      walk_at "rd"
      exact k
    · refine isi_ty (.base (.bl b)) (by decide +kernel : kitB "bool" "int" = some true) ?_
      walk_at "rd"
      refine isi_ty (.base (.bl b)) (by decide +kernel : kitB "bool" "bool" = some true) ?_
      walk_at "rd"
      exact k
    · refine isi_ty (.base (.str z)) (by decide +kernel : kitB "str" "int" = some false) ?_
      walk_at "rd"
      exact k
    · refine isi_ty (.base .non) (by decide +kernel : kitB "NoneType" "int" = some false) ?_
      walk_at "rd"
      exact k
    · refine isi_ty (.base (.lst hp)) (by decide +kernel : kitB "list" "int" = some false) ?_
      walk_at "rd"
      exact k
    · refine isi_ty (.base (.tup hp)) (by decide +kernel : kitB "tuple" "int" = some false) ?_
      walk_at "rd"
      exact k
def sp_rightW : Sp := fun vs H Q _ => ∃ L, vs = [.str (tx L)] ∧ L.length ≤ 1000 ∧ ∀ H', Same H H' → Q (.bl true) H'
theorem ok_rightW (T : Env fa fn K mg) : Good P w K mg base CX0 4 ("_law_right", none) ["_law_line_here"] sp_rightW := by
  have G_w_due := ok_due (P := P) (w := w) (base := base) T
  have G_w_refused := ok_refused (P := P) (w := w) (base := base) T
  have G_w_read := ok_readW (P := P) (w := w) (base := base) T
  have G_is_whole := ok_iw (P := P) (w := w) (base := base) T
  refine good_mk T 11 (d := d_w_right) (N := ["_law_line_here", "_law_due_here", "_law_found"]) (ps := ["_law_line_here"]) rfl rfl sc_w_right (fun _ _ _ _ _ _ us hl => match us, hl with | [_], _ => rfl) (fun vs H Q E h => ?_) (fun f cdv A outer s H vs Q E hr h => ?_)
  · obtain ⟨L, rfl, _⟩ := h; rfl
  · obtain ⟨L, rfl, hl, k⟩ := h
    refine ⟨_, (pss_cons (ps_set (i := 1) sc_w_right.nd rfl (Or.inl rfl) (pe_cgK K rfl G_w_due (hr.mono (by decide)) (T.glo 29) (pa_cons (pv 0) pa_nil)))
      (pss_cons (ps_if (pt_cmpR op_isN (pv 1) pe_non (nomark _)) (pss_one (ps_ret (pe_cgK K rfl G_w_refused (hr.mono (by decide)) (T.glo 30) (pa_cons (pv 0) pa_nil)))) pss_nil)
      (pss_cons (ps_set (i := 2) sc_w_right.nd rfl (Or.inl rfl) (pe_cgK K rfl G_w_read (hr.mono (by decide)) (T.glo 31) (pa_cons (pv 0) pa_nil)))
      (pss_cons (ps_if (PW.pt (pw_or (pt_not (pt_val (pe_callB (call_isiK K rfl) (by rfl) (T.free 1) (by decide +kernel) (pa_cons (pv 2) (pa_cons (pe_bltn (v := V.ty "int") rfl (T.free 2) (by decide +kernel) rfl) pa_nil))))) (pw_or1 (pt_val (pe_callB (call_isiK K rfl) (by rfl) (T.free 1) (by decide +kernel) (pa_cons (pv 2) (pa_cons (pe_bltn (v := V.ty "bool") rfl (T.free 0) (by decide +kernel) rfl) pa_nil))))))) (pss_one (ps_ret pe_bl)) pss_nil)
      (pss_one (ps_ret (pe_and (pe_cmpR op_eq (pv 2) (pv 1) (nomark _)) (pe_one (pe_cmpR op_is_bl (pe_cgK K rfl G_is_whole (hr.mono (by decide)) (T.glo 32) (pa_cons (pv 2) pa_nil)) pe_bl (nomark _)))))))))), ?_⟩
    walk_at "rd"
    by_cases ok : okW L
    · refine ⟨L, rfl, hl, fun _ => ?_, fun n => absurd ok n⟩
      walk_at "rd"
      rw [decide_eq_false (by simp)]
      walk_at "rd"
      refine ⟨L, rfl, hl, ok, ?_⟩
      walk_at "rd"
      refine rd_isiI ?_
      walk_at "rd"
      refine rd_isiB ?_
      walk_at "rd"
      rw [decide_eq_true rfl]
      walk_at "rd"
      refine ⟨_, rfl, .inl (.inl ⟨_, rfl⟩), ?_⟩
      refine ⟨true, true, rfl, rfl, ?_⟩
      exact k _ (Same.refl _)
    · refine ⟨L, rfl, hl, fun y => absurd y ok, fun _ => ?_⟩
      walk_at "rd"
      rw [decide_eq_true rfl]
      walk_at "rd"
      exact ⟨_, rfl, .inl ⟨L, rfl, hl, ok⟩, k⟩
def sp_mixN : Sp := fun vs H Q _ => ∃ c k : Int, vs = [.int c, .int k] ∧ 0 ≤ k ∧ k ≤ 5000 ∧ ∀ m : Int, 0 ≤ m → Q (.int m) H
theorem mul64 {a b : Int} (h0 : 0 ≤ a) (h1 : a < 2 ^ 64) (h2 : 0 ≤ b) (h3 : b < 2 ^ 64) : CMulW a b := by
  have e1 : (2 : Int) ^ 64 ≤ 2 ^ 2000 := by decide +kernel
  exact mulW_of (by omega) (by omega) (by omega) (by omega)
theorem mp_mixN : MonP sp_mixN := fun vs H Q Q' E h ⟨c, k, x1, x2, x3, q⟩ => ⟨c, k, x1, x2, x3, fun m a => h _ _ (q m a)⟩
theorem ok_mixN (T : Env fa fn K mg) : Good P w K mg base CX0 1 ("_law_mix", none) ["_law_cell", "_law_k"] sp_mixN := by
  refine good_mk T 3 (d := d_w_mix) (N := ["_law_cell", "_law_k", "_law_value"]) (ps := ["_law_cell", "_law_k"]) rfl rfl sc_w_mix (fun _ _ _ _ _ _ us hl => match us, hl with | [_, _], _ => rfl) (fun vs H Q E h => ?_) (fun f cdv A outer s H vs Q E hr h => ?_)
  · obtain ⟨c, k, rfl, _⟩ := h; rfl
  · obtain ⟨c, k, rfl, h0, h1, q⟩ := h
    refine ⟨_, (pss_cons (ps_set (i := 2) sc_w_mix.nd rfl (Or.inl rfl) (pe_op op_mod (pe_op op_mulW (pe_op op_add (pe_op op_add (pe_op op_mod (pv 0) pe_int) (pe_op op_mulW pe_int (pv 1))) pe_int) (pe_op op_add pe_int (pe_op op_mulW pe_int (pv 1)))) pe_int))
      (pss_one (ps_ret (pe_op op_fdivW (pe_op op_mod (pe_op op_mulW (pe_op op_add (pe_op op_fdivW (pv 2) pe_int) (pv 1)) pe_int) pe_int) pe_int)))), ?_⟩
    walk_at "rd"
    refine rd_I (mul64 (by decide) (by decide) (by omega) (by omega)) ?_
    walk_at "rd"
    refine rd_I (mul64 (by decide) (by decide) (by omega) (by omega)) ?_
    walk_at "rd"
    refine rd_I (mul64 (by omega) (by omega) (by omega) (by omega)) ?_
    walk_at "rd"
    generalize hu : (c % 998244353 + 17 * k + 5) * (48271 + 2 * k) % 2147483647 = u
    have u0 : 0 ≤ u := by omega
    have u1 : u < 2147483647 := by omega
    refine rd_I (mul64 (by omega) (by omega) (by decide) (by decide)) ?_
    walk_at "rd"
    exact q _ (by omega)
def sp_sign : Sp := fun vs H Q _ => ∃ c : Int, vs = [.int c] ∧ ∀ s : Nat, Q (.str (tx [s])) H
theorem mp_sign : MonP sp_sign := fun vs H Q Q' E h ⟨c, x1, q⟩ => ⟨c, x1, fun m => h _ _ (q m)⟩
theorem ok_sign (T : Env fa fn K mg) : Good P w K mg base CX0 1 ("_law_any_sign", none) ["_law_cell"] sp_sign := by
  refine good_mk T 4 (d := d_w_any_sign) (N := ["_law_cell", "_law_some"]) (ps := ["_law_cell"]) rfl rfl sc_w_any_sign (fun _ _ _ _ _ _ us hl => match us, hl with | [_], _ => rfl) (fun vs H Q E h => ?_) (fun f cdv A outer s H vs Q E hr h => ?_)
  · obtain ⟨c, rfl, _⟩ := h; rfl
  · obtain ⟨c, rfl, q⟩ := h
    refine ⟨_, (pss_cons (ps_set (i := 1) sc_w_any_sign.nd rfl (Or.inl rfl) pe_str)
      (pss_cons (ps_set (i := 1) sc_w_any_sign.nd rfl (Or.inl rfl) (pe_op op_add_str (pv 1) pe_str))
      (pss_one (ps_ret (pe_ix ix_str (pv 1) (pe_op op_mod (pv 0) (pe_callB call_len_str (by rfl) (T.free 4) (by decide +kernel) (pa_cons (pv 1) pa_nil))) (fun _ _ => rfl)))))), ?_⟩
    walk_at "rd"
    refine ⟨_, _, rfl, rfl, by decide +kernel, ?_⟩
    generalize hz : (Str.ofString _ ++ Str.ofString _) = z
    have hl : 0 < z.length ∧ z.length ≤ 1000 := by rw [← hz]; decide +kernel
    clear hz
    walk_at "rd"
    refine ⟨_, rfl, by have := sizeBig; omega, ?_⟩
    walk_at "rd"
    refine rd_mod (by omega) ?_
    obtain ⟨d, hd⟩ : ∃ d : Nat, c % (z.length : Int) = (d : Int) := ⟨(c % (z.length : Int)).toNat, by have := Int.emod_nonneg c (show (z.length : Int) ≠ 0 by omega); omega⟩
    have hlt : d < (TL.tl z).length := by rw [← TL.len_tl]; have := Int.emod_lt_of_pos c (show (0 : Int) < (z.length : Int) by omega); omega
    rw [hd]
    exact ⟨_, _, (TL.tl z)[d], rfl, rfl, by have := sizeBig; omega, atI_nat (at_get hlt), q _⟩
def sp_oddN : Sp := fun vs H Q _ => ∃ c : Int, vs = [.int c] ∧ ∀ (L : List Nat) H', Same H H' → L.length ≤ 40 → Q (.str (tx L)) H'
theorem mp_oddN : MonP sp_oddN := fun vs H Q Q' E h ⟨c, x1, q⟩ => ⟨c, x1, fun L H' a b => h _ _ (q L H' a b)⟩
def odds : List Str := ["-", "+7", " 7", "7 ", "--7", "7-", "-0", "00", "07", "-07", "7.0", "1_0"].map Str.ofString
theorem odds_len : odds.length = 12 ∧ ∀ z ∈ odds, z.length ≤ 40 := by decide +kernel
theorem ok_oddN (T : Env fa fn K mg) : Good P w K mg base CX0 1 ("_law_odd", none) ["_law_cell"] sp_oddN := by
  refine good_mk T 5 (d := d_w_odd) (N := ["_law_cell", "_law_some"]) (ps := ["_law_cell"]) rfl rfl sc_w_odd (fun _ _ _ _ _ _ us hl => match us, hl with | [_], _ => rfl) (fun vs H Q E h => ?_) (fun f cdv A outer s H vs Q E hr h => ?_)
  · obtain ⟨c, rfl, _⟩ := h; rfl
  · obtain ⟨c, rfl, q⟩ := h
    refine ⟨_, (pss_cons (ps_set (i := 1) sc_w_odd.nd rfl (Or.inl rfl) (pe_lst (pa_cons pe_str (pa_cons pe_str (pa_cons pe_str (pa_cons pe_str (pa_cons pe_str (pa_cons pe_str (pa_cons pe_str (pa_cons pe_str (pa_cons pe_str (pa_cons pe_str (pa_cons pe_str (pa_cons pe_str pa_nil))))))))))))))
      (pss_one (ps_ret (pe_ix (ix_listK K rfl) (pv 1) (pe_op op_mod (pv 0) pe_int) (fun _ _ => rfl))))), ?_⟩
    walk_at "rd"
    refine rd_new (hn := by show 12 ≤ sizeLine; decide) fun p hp => ?_
    have sp := same_upd (o := HO.lst (odds.map V.str)) hp
    have Lp : (upd H p (HO.lst (odds.map V.str))) p = some (.lst (odds.map V.str)) := upd_same
    have eo : [V.str (Str.ofString "-"), .str (Str.ofString "+7"), .str (Str.ofString " 7"), .str (Str.ofString "7 "), .str (Str.ofString "--7"), .str (Str.ofString "7-"), .str (Str.ofString "-0"), .str (Str.ofString "00"), .str (Str.ofString "07"), .str (Str.ofString "-07"), .str (Str.ofString "7.0"), .str (Str.ofString "1_0")] = odds.map V.str := rfl
    rw [eo]
    generalize upd H p (HO.lst (odds.map V.str)) = H1 at sp Lp ⊢
    walk_at "rd"
    obtain ⟨d, hd⟩ : ∃ d : Nat, c % 12 = (d : Int) := ⟨(c % 12).toNat, by omega⟩
    have hlt : d < odds.length := by rw [odds_len.1]; omega
    rw [hd]
    refine rd_ixL (SqL.of Lp) (atI_nat (map_get V.str (at_get hlt))) ?_
    have ez : odds[d] = tx (TL.tl odds[d]) := str_tx rfl
    rw [ez]
    exact q _ _ sp (by rw [← TL.len_tl]; exact odds_len.2 _ (List.getElem_mem hlt))
theorem dig_get (d : Nat) (h : d < 10) : ∃ s, atI (Str.ofString "0123456789").cps.toList ((d : Nat) : Int) = some s := by
  have hl : d < (Str.ofString "0123456789").cps.toList.length := by rw [show (Str.ofString "0123456789").cps.toList.length = 10 by decide +kernel]; exact h
  exact ⟨_, atI_nat (at_get hl)⟩
def sp_line (K : PySem.W.Frag) : Sp := fun vs H Q _ => ∃ (a : Addr) (ns : List Int) (k : Int), vs = [.ref a, .int k] ∧ SqL K H a (ns.map V.int) ∧ 0 ≤ k ∧ ∀ (L : List Nat) H', Same H H' → L.length ≤ 100 → Q (.str (tx L)) H'
set_option maxHeartbeats 8000000 in
theorem ok_line (T : Env fa fn K mg) : Good P w K mg base CX0 2 ("_law_line", none) ["_law_script", "_law_at_here"] (sp_line K) := by
  have G_w_at := ok_at (P := P) (w := w) (base := base) T
  have G_w_mix := ok_mixN (P := P) (w := w) (base := base) T
  have G_w_any_sign := ok_sign (P := P) (w := w) (base := base) T
  have G_w_odd := ok_oddN (P := P) (w := w) (base := base) T
  refine good_mk T 6 (d := d_w_line) (N := ["_law_script", "_law_at_here", "_law_line_here", "_law_k", "_law_spot", "_law_way", "_law_sign"]) (ps := ["_law_script", "_law_at_here"]) rfl rfl sc_w_line (fun _ _ _ _ _ _ us hl => match us, hl with | [_, _], _ => rfl) (fun vs H Q E h => ?_) (fun f cdv A outer s H vs Q E hr h => ?_)
  · obtain ⟨a, ns, k, rfl, _⟩ := h; rfl
  · obtain ⟨a, ns, p, rfl, hS, h0, k⟩ := h
    have hsz := sizeBig
    have mp1 := @mp_at K
    have mp2 := mp_mixN
    have mp3 := mp_oddN
    have m1 := mr_sl
    have m2 := mr_ixS
    have m3 := mr_addS
    have hS' : ∀ {H'}, Same H H' → SqL K H' a (ns.map V.int) := fun s => sqL_on hS fun o e => s _ _ e
    have nat : ∀ i : Int, 0 ≤ i → ∃ n : Nat, i = n := fun i h => ⟨i.toNat, by omega⟩
    refine ⟨_, (pss_cons (ps_set (i := 2) sc_w_line.nd rfl (Or.inl rfl) pe_str)
      (pss_cons (ps_for PassesOwn.never rfl (pi_range1 (by rfl) (T.free 8) (pa_cons (pe_op op_mod (pe_cgK K rfl G_w_at (hr.mono (by decide)) (T.glo 9) (pa_cons (pv 0) (pa_cons (pe_op op_add (pv 1) pe_int) pa_nil))) pe_int) pa_nil)) (pg_name (i := 3) sc_w_line.nd rfl (Or.inl rfl)) (pss_one (ps_set (i := 2) sc_w_line.nd rfl (Or.inl rfl) (pe_op op_add_str (pv 2) (pe_ix ix_str pe_str (pe_op op_mod (pe_cgK K rfl G_w_mix (hr.mono (by decide)) (T.glo 10) (pa_cons (pe_cgK K rfl G_w_at (hr.mono (by decide)) (T.glo 9) (pa_cons (pv 0) (pa_cons (pv 1) pa_nil))) (pa_cons (pv 3) pa_nil))) pe_int) (fun _ _ => rfl))))))
      (pss_cons (ps_if (pt_cmpR op_eq (pe_op op_mod (pe_cgK K rfl G_w_at (hr.mono (by decide)) (T.glo 9) (pa_cons (pv 0) (pa_cons (pe_op op_add (pv 1) pe_int) pa_nil))) pe_int) pe_int (nomark _)) (pss_one (ps_set (i := 2) sc_w_line.nd rfl (Or.inl rfl) (pe_op op_add_str pe_str (pv 2)))) pss_nil)
      (pss_cons (ps_set (i := 4) sc_w_line.nd rfl (Or.inl rfl) (pe_op op_mod (pe_op op_fdivW (pe_cgK K rfl G_w_at (hr.mono (by decide)) (T.glo 9) (pa_cons (pv 0) (pa_cons (pe_op op_add (pv 1) pe_int) pa_nil))) pe_int) (pe_op op_add (pe_callB call_len_str (by rfl) (T.free 4) (by decide +kernel) (pa_cons (pv 2) pa_nil)) pe_int)))
      (pss_cons (ps_set (i := 5) sc_w_line.nd rfl (Or.inl rfl) (pe_op op_mod (pe_cgK K rfl G_w_at (hr.mono (by decide)) (T.glo 9) (pa_cons (pv 0) (pa_cons (pe_op op_add (pv 1) pe_int) pa_nil))) pe_int))
      (pss_cons (ps_set (i := 6) sc_w_line.nd rfl (Or.inl rfl) (pe_cgK K rfl G_w_any_sign (hr.mono (by decide)) (T.glo 11) (pa_cons (pe_op op_fdivW (pe_cgK K rfl G_w_at (hr.mono (by decide)) (T.glo 9) (pa_cons (pv 0) (pa_cons (pe_op op_add (pv 1) pe_int) pa_nil))) pe_int) pa_nil)))
      (pss_cons (ps_if (pt_cmpR op_eq (pv 5) pe_int (nomark _)) (pss_one (ps_set (i := 2) sc_w_line.nd rfl (Or.inl rfl) (pe_op op_add_str (pe_op op_add_str (pe_slice sl_str (pv 2) po_none (po_some (pv 4))) (pv 6)) (pe_slice sl_str (pv 2) (po_some (pv 4)) po_none)))) pss_nil)
      (pss_cons (ps_if (pt_cmpR op_eq (pv 5) pe_int (nomark _)) (pss_one (ps_set (i := 2) sc_w_line.nd rfl (Or.inl rfl) (pe_op op_add_str (pe_op op_add_str (pe_slice sl_str (pv 2) po_none (po_some (pv 4))) (pv 6)) (pe_slice sl_str (pv 2) (po_some (pe_op op_add (pv 4) pe_int)) po_none)))) pss_nil)
      (pss_cons (ps_if (pt_cmpR op_eq (pv 5) pe_int (nomark _)) (pss_one (ps_set (i := 2) sc_w_line.nd rfl (Or.inl rfl) (pe_cgK K rfl G_w_odd (hr.mono (by decide)) (T.glo 12) (pa_cons (pe_op op_fdivW (pe_cgK K rfl G_w_at (hr.mono (by decide)) (T.glo 9) (pa_cons (pv 0) (pa_cons (pe_op op_add (pv 1) pe_int) pa_nil))) pe_int) pa_nil)))) pss_nil)
      (pss_one (ps_ret (pv 2)))))))))))), ?_⟩
    walk_at "rd"
    refine ⟨a, ns, p + 1, rfl, hS, by omega, ?_⟩
    walk_at "rd"
    obtain ⟨n, hn⟩ := nat (atN ns (p + 1).toNat % 33) (by omega)
    rw [hn]
    refine ⟨_, rfl, by omega, by omega, ?_⟩
    rw [Int.toNat_natCast, tx_nil]
    refine for_it (walk_r0 (n := n)) (fun i σ H' => H' = H ∧ ∃ (l : List Nat) (x3 : Option V), l.length = i ∧ σ = [some (.ref a), some (.int p), some (.str (tx l)), x3, none, none, none]) ⟨rfl, [], none, rfl, rfl⟩ (fun _ _ _ _ _ => trivial) ?_ ?_
    · rintro i x σ Ha Hb hi ⟨rfl, l, x3, hl, rfl⟩ ⟨rfl, rfl⟩
      walk_at "rd"
      refine ⟨a, ns, p, rfl, hS, h0, ?_⟩
      walk_at "rd"
      refine ⟨_, _, rfl, by omega, by omega, fun m m0 => ?_⟩
      walk_at "rd"
      obtain ⟨d, hd⟩ := nat (m % 10) (by omega)
      obtain ⟨s, hs⟩ := dig_get d (by omega)
      rw [hd]
      refine ⟨_, _, s, rfl, rfl, by decide +kernel, hs, ?_⟩
      refine ⟨_, _, rfl, rfl, by rw [tx_len]; show l.length + 1 ≤ sizeLine; omega, ?_⟩
      walk_at "rd"
      refine ⟨rfl, l ++ [s], some (.int ((i : Nat) : Int)), by simp [hl], ?_⟩
      have e : tx l ++ (⟨#[s]⟩ : Str) = tx (l ++ [s]) := tx_app l [s]
      rw [e]; rfl
    rintro σ H1 ⟨rfl, l, x3, hl, rfl⟩
    walk_at "rhi"
    refine rd_cut (fun σ H' => H' = H1 ∧ ∃ l : List Nat, l.length ≤ 40 ∧ σ = [some (.ref a), some (.int p), some (.str (tx l)), x3, none, none, none]) (by walk_at "mono") ?_ ?_
    · walk_at "rd"
      refine ⟨a, ns, p + 2, rfl, hS, by omega, ?_⟩
      walk_at "rd"
      refine ite_d (fun z => ?_) (fun z => ?_)
      · walk_at "rd"
        have e45 : Str.ofString "-" = tx [45] := str_tx (by decide +kernel)
        rw [e45]
        refine ⟨_, _, rfl, rfl, by rw [tx_len, tx_len]; show 1 + l.length ≤ sizeLine; omega, ?_⟩
        walk_at "rd"
        refine ⟨rfl, [45] ++ l, by simp; omega, ?_⟩
        rw [tx_app]; rfl
      · walk_at "rd"
        exact ⟨rfl, l, by omega, rfl⟩
    clear hl
    rintro σ H2 ⟨rfl, l, hl, rfl⟩
    walk_at "rd"
    refine ⟨a, ns, p + 2, rfl, hS, by omega, ?_⟩
    walk_at "rd"
    refine ⟨_, rfl, len_ok (by omega), ?_⟩
    walk_at "rd"
    refine rd_mod (by omega) ?_
    obtain ⟨d, hd⟩ := nat (atN ns (p + 2).toNat / 2 % (((tx l).length : Int) + 1)) (Int.emod_nonneg _ (by omega))
    rw [hd]
    walk_at "rd"
    refine ⟨a, ns, p + 3, rfl, hS, by omega, ?_⟩
    walk_at "rd"
    generalize hw : atN ns (p + 3).toNat % 6 = way
    refine ⟨a, ns, p + 3, rfl, hS, by omega, ?_⟩
    walk_at "rd"
    refine ⟨_, rfl, fun s => ?_⟩
    walk_at "rhi"
    refine rd_cut (fun σ H' => H' = H2 ∧ ∃ l : List Nat, l.length ≤ 60 ∧ σ = [some (.ref a), some (.int p), some (.str (tx l)), x3, some (.int (d : Int)), some (.int way), some (.str (tx [s]))]) (by walk_at "mono") ?_ ?_
    · walk_at "rd"
      refine ite_d (fun z => ?_) (fun z => ?_)
      · walk_at "rd"
        refine ⟨_, rfl, len_ok (by omega), ?_⟩
        walk_at "rd"
        rw [cut_to]
        refine ⟨_, _, rfl, rfl, by rw [tx_len, tx_len, List.length_take]; show min d l.length + 1 ≤ sizeLine; omega, ?_⟩
        walk_at "rd"
        rw [tx_app]
        refine ⟨_, rfl, len_ok (by omega), ?_⟩
        rw [cut_from]
        refine ⟨_, _, rfl, rfl, by rw [tx_len, tx_len, List.length_append, List.length_take, List.length_drop]; show min d l.length + 1 + (l.length - d) ≤ sizeLine; omega, ?_⟩
        walk_at "rd"
        rw [tx_app]
        exact ⟨rfl, _, by rw [List.length_append, List.length_append, List.length_take, List.length_drop]; show min d l.length + 1 + (l.length - d) ≤ 60; omega, rfl⟩
      · walk_at "rd"
        exact ⟨rfl, l, by omega, rfl⟩
    clear hl hd
    rintro σ H3 ⟨rfl, l, hl, rfl⟩
    walk_at "rhi"
    refine rd_cut (fun σ H' => H' = H3 ∧ ∃ l : List Nat, l.length ≤ 80 ∧ σ = [some (.ref a), some (.int p), some (.str (tx l)), x3, some (.int (d : Int)), some (.int way), some (.str (tx [s]))]) (by walk_at "mono") ?_ ?_
    · walk_at "rd"
      refine ite_d (fun z => ?_) (fun z => ?_)
      · walk_at "rd"
        refine ⟨_, rfl, len_ok (by omega), ?_⟩
        walk_at "rd"
        rw [cut_to]
        refine ⟨_, _, rfl, rfl, by rw [tx_len, tx_len, List.length_take]; show min d l.length + 1 ≤ sizeLine; omega, ?_⟩
        walk_at "rd"
        rw [tx_app]
        refine ⟨_, rfl, len_ok (by omega), ?_⟩
        have e1 : ((d : Int) + 1) = ((d + 1 : Nat) : Int) := by omega
        rw [e1, cut_from]
        refine ⟨_, _, rfl, rfl, by rw [tx_len, tx_len, List.length_append, List.length_take, List.length_drop]; show min d l.length + 1 + (l.length - (d + 1)) ≤ sizeLine; omega, ?_⟩
        walk_at "rd"
        rw [tx_app]
        exact ⟨rfl, _, by rw [List.length_append, List.length_append, List.length_take, List.length_drop]; show min d l.length + 1 + (l.length - (d + 1)) ≤ 80; omega, rfl⟩
      · walk_at "rd"
        exact ⟨rfl, l, by omega, rfl⟩
    clear hl
    rintro σ H4 ⟨rfl, l, hl, rfl⟩
    walk_at "rd"
    refine ite_d (fun z => ?_) (fun z => ?_)
    · walk_at "rd"
      refine ⟨a, ns, p + 3, rfl, hS, by omega, ?_⟩
      walk_at "rd"
      refine ⟨_, rfl, fun L H' s1 hL => ?_⟩
      walk_at "rd"
      exact k _ _ s1 (by omega)
    · walk_at "rd"
      exact k _ _ (Same.refl _) (by omega)
def lawLevel : Nat := 5
set_option maxHeartbeats 8000000 in
theorem ok_law (T : Env fa fn K mg) : Good P w K mg base CX0 lawLevel ("law", none) ["_law_script"] (sp_law K) := by
  have G_w_at := ok_at (P := P) (w := w) (base := base) T
  have G_w_line := ok_line (P := P) (w := w) (base := base) T
  have G_w_right := ok_rightW (P := P) (w := w) (base := base) T
  have G_w_refused := ok_refused (P := P) (w := w) (base := base) T
  have G_is_whole := ok_iw (P := P) (w := w) (base := base) T
  refine good_mk T 12 (d := d_law) (N := ["_law_script", "_law_at_here", "_law_number", "_law_thing"]) (ps := ["_law_script"]) rfl rfl sc_law (fun _ _ _ _ _ _ us hl => match us, hl with | [_], _ => rfl) (fun vs H Q E h => ?_) (fun f cdv A outer σ0 H vs Q E hr h => ?_)
  · obtain ⟨a, ns, rfl, _⟩ := h; rfl
  · obtain ⟨a0, ns, rfl, hS, hlen, hO, k⟩ := h
    have hsz := sizeBig
    refine ⟨_, (pss_cons (ps_for PassesOwn.never rfl (pi_range3 (by rfl) (T.free 8) (pa_cons pe_int (pa_cons (pe_callB (call_max2 rfl) (by rfl) (T.free 34) (by decide +kernel) (pa_cons pe_int (pa_cons (pe_callB (call_min2 rfl) (by rfl) (T.free 33) (by decide +kernel) (pa_cons (pe_callB (call_lenK K rfl) (by rfl) (T.free 4) (by decide +kernel) (pa_cons (pv 0) pa_nil)) (pa_cons pe_int pa_nil))) pa_nil))) (pa_cons pe_int pa_nil)))) (pg_name (i := 1) sc_law.nd rfl (Or.inl rfl)) (pss_one (ps_if (pt_not (pt_val (pe_cgK K rfl G_w_right (hr.mono (by decide)) (T.glo 35) (pa_cons (pe_cgK K rfl G_w_line (hr.mono (by decide)) (T.glo 36) (pa_cons (pv 0) (pa_cons (pv 1) pa_nil))) pa_nil)))) (pss_one (ps_ret pe_bl)) pss_nil)))
      (pss_cons (ps_set (i := 2) sc_law.nd rfl (Or.inl rfl) (pe_op op_mod (pe_cgK K rfl G_w_at (hr.mono (by decide)) (T.glo 9) (pa_cons (pv 0) (pa_cons pe_int pa_nil))) (pe_op op_pow pe_int pe_int)))
      (pss_cons (ps_if (PW.pt (pw_or (pt_not (pt_val (pe_cgK K rfl G_w_refused (hr.mono (by decide)) (T.glo 30) (pa_cons (pv 2) pa_nil)))) (pw_or (pt_not (pt_val (pe_cgK K rfl G_w_refused (hr.mono (by decide)) (T.glo 30) (pa_cons pe_non pa_nil)))) (pw_or1 (pt_not (pt_val (pe_cgK K rfl G_w_refused (hr.mono (by decide)) (T.glo 30) (pa_cons (pe_lst (pa_cons (pe_callTy call_str_int (by rfl) (T.free 3) (by decide +kernel) (pa_cons (pv 2) pa_nil)) pa_nil)) pa_nil)))))))) (pss_one (ps_ret pe_bl)) pss_nil)
      (pss_cons (ps_if (PW.pt (pw_or (pt_cmpR op_isnot_bl (pe_cgK K rfl G_is_whole (hr.mono (by decide)) (T.glo 32) (pa_cons (pv 2) pa_nil)) pe_bl (nomark _)) (pw_or1 (pt_cmpR op_isnot_bl (pe_cgK K rfl G_is_whole (hr.mono (by decide)) (T.glo 32) (pa_cons (pe_un un_neg (pv 2)) pa_nil)) pe_bl (nomark _))))) (pss_one (ps_ret pe_bl)) pss_nil)
      (pss_cons (ps_for PassesOwn.never rfl (pi_listK K rfl (pe_lst (pa_cons pe_bl (pa_cons pe_bl (pa_cons pe_non (pa_cons (pe_callTy call_str_int (by rfl) (T.free 3) (by decide +kernel) (pa_cons (pv 2) pa_nil)) (pa_cons (pe_lst (pa_cons (pv 2) pa_nil)) (pa_cons (pe_tup (pa_cons (pv 2) pa_nil)) pa_nil)))))))) (pg_name (i := 3) sc_law.nd rfl (Or.inl rfl)) (pss_one (ps_if (pt_cmpR op_isnot_bl (pe_cgK K rfl G_is_whole (hr.mono (by decide)) (T.glo 32) (pa_cons (pv 3) pa_nil)) pe_bl (nomark _)) (pss_one (ps_ret pe_bl)) pss_nil)))
      (pss_one (ps_ret pe_bl))))))), ?_⟩
    walk_at "rd"
    refine rd_len hS ?_
    walk_at "rd"
    rw [List.length_map]
    obtain ⟨J, hJ⟩ : ∃ J : Int, J = (if (if (60 : Int) < (ns.length : Int) then (60 : Int) else (ns.length : Int)) > 4 then (if (60 : Int) < (ns.length : Int) then (60 : Int) else (ns.length : Int)) else 4) := ⟨_, rfl⟩
    have hJb : 0 ≤ J ∧ J ≤ 1000 := by rw [hJ]; constructor <;> (repeat' split) <;> omega
    rw [← hJ]
    obtain ⟨n, hrg, hn⟩ := rgc_up (i := 0) (j := J) (c := 4) (by decide) (by decide) hJb.1 hJb.2 (by decide) (by decide)
    refine ⟨0, J, 4, n, rfl, hrg, ?_⟩
    refine for_it (walk_rangeC (lo := 0) (c := 4) (n := n)) (fun i σ Hq => Same H Hq ∧ ∃ (x1 : Option V), σ = [some (.ref a0), x1, none, none]) ⟨Same.refl _, none, rfl⟩ (fun _ _ _ _ _ => trivial) ?_ ?_
    · rintro i x σ Ha Hb hi ⟨s5, x1, rfl⟩ ⟨rfl, hx⟩
      obtain ⟨pos, pos0, rfl⟩ : ∃ pos : Int, 0 ≤ pos ∧ x = .int pos := ⟨0 + (i : Int) * 4, by omega, hx⟩
      walk_at "rd"
      refine ⟨a0, ns, pos, rfl, sqL_on hS fun o e => s5 _ _ e, pos0, fun L H1 s1 hL => ?_⟩
      refine ⟨L, rfl, by omega, fun H2 s2 => ?_⟩
      walk_at "rd"
      exact ⟨(s5.trans s1).trans s2, _, rfl⟩
    rintro σ H1 ⟨s1, x1, rfl⟩
    walk_at "rd"
    refine ⟨a0, ns, 0, rfl, sqL_on hS fun o e => s1 _ _ e, by decide, ?_⟩
    walk_at "rd"
    refine rd_I (by refine ⟨by omega, by omega, by decide⟩) ?_
    have e : (10 : Int) ^ (30 : Int).toNat = 1000000000000000000000000000000 := by decide
    rw [e]
    walk_at "rd"
    obtain ⟨m, hm⟩ : ∃ m : Nat, atN ns (Int.toNat 0) % 1000000000000000000000000000000 = (m : Int) := ⟨(atN ns (Int.toNat 0) % 1000000000000000000000000000000).toNat, by omega⟩
    have hm30 : m < 10 ^ 30 := by omega
    rw [hm]
    refine ⟨_, rfl, .inr (.inl ⟨_, rfl⟩), fun H2 s2 => ?_⟩
    walk_at "rd"
    refine ⟨_, rfl, .inr (.inr (.inl rfl)), fun H3 s3 => ?_⟩
    walk_at "rd"
    refine ⟨_, rfl, log30 hm30, ?_⟩
    refine rd_new (hn := by show 1 ≤ sizeLine; decide) fun p hp => ?_
    refine ⟨_, rfl, .inr (.inr (.inr ⟨p, _, rfl, upd_same⟩)), fun H4 s4 => ?_⟩
    walk_at "rd"
    refine ⟨_, rfl, .inl (.inl ⟨_, rfl⟩), ?_⟩
    walk_at "rd"
    refine ⟨true, true, rfl, rfl, ?_⟩
    walk_at "rd"
    refine iteF ?_
    walk_at "rd"
    refine ⟨_, rfl, .inl (.inl ⟨_, rfl⟩), ?_⟩
    walk_at "rd"
    refine ⟨true, true, rfl, rfl, ?_⟩
    walk_at "rd"
    refine iteF ?_
    walk_at "rd"
    refine ⟨_, rfl, log30 hm30, ?_⟩
    walk_at "rd"
    refine rd_new (hn := by show 1 ≤ sizeLine; decide) fun p1 hp1 => ?_
    have t1 := same_upd (o := HO.lst [V.int (m : Int)]) hp1
    have L1 : (upd H4 p1 (HO.lst [V.int (m : Int)])) p1 = _ := upd_same
    generalize upd H4 p1 (HO.lst [V.int (m : Int)]) = H5 at t1 L1 ⊢
    walk_at "rd"
    refine rd_new (hn := by show 1 ≤ sizeLine; decide) fun p2 hp2 => ?_
    have t2 := same_upd (o := HO.tup [V.int (m : Int)]) hp2
    have L2 : (upd H5 p2 (HO.tup [V.int (m : Int)])) p2 = _ := upd_same
    generalize upd H5 p2 (HO.tup [V.int (m : Int)]) = H6 at t2 L2 ⊢
    walk_at "rd"
    refine rd_new (hn := by show 6 ≤ sizeLine; decide) fun p3 hp3 => ?_
    generalize hz : Str.ofString (toString (m : Int)) = z
    have t3 := same_upd (o := HO.lst [V.bl true, .bl false, .non, .str z, .ref p1, .ref p2]) hp3
    have L3 : (upd H6 p3 (HO.lst [V.bl true, .bl false, .non, .str z, .ref p1, .ref p2])) p3 = _ := upd_same
    have L1' := t3 _ _ (t2 _ _ L1)
    have L2' := t3 _ _ L2
    generalize upd H6 p3 (HO.lst [V.bl true, .bl false, .non, .str z, .ref p1, .ref p2]) = H7 at L1' L2' L3 ⊢
    refine ⟨p3, rfl, ⟨_, SqL.of L3⟩, ?_⟩
    refine for_it (walk_list (xs := [V.bl true, .bl false, .non, .str z, .ref p1, .ref p2])) (fun i σ H' => H' = H7 ∧ ∃ x3 : Option V, σ = [some (.ref a0), x1, some (.int (m : Int)), x3]) ⟨rfl, none, rfl⟩ (fun i σ H' _ h => SqL.of (by rw [h.1]; exact L3)) ?_ ?_
    · rintro i x σ Ha Hb hi ⟨rfl, x3, rfl⟩ ⟨rfl, hx⟩
      have way : (((∃ i, x = .int i) ∨ (∃ b, x = .bl b) ∨ (∃ z, x = .str z) ∨ x = .non) ∨ (∃ p xs, x = .ref p ∧ (Hb p = some (.lst xs) ∨ Hb p = some (.tup xs)))) ∧ wholeV x = false := by
        match i, hx with
        | 0, hx => cases hx; exact ⟨.inl (.inr (.inl ⟨_, rfl⟩)), rfl⟩
        | 1, hx => cases hx; exact ⟨.inl (.inr (.inl ⟨_, rfl⟩)), rfl⟩
        | 2, hx => cases hx; exact ⟨.inl (.inr (.inr (.inr rfl))), rfl⟩
        | 3, hx => cases hx; exact ⟨.inl (.inr (.inr (.inl ⟨_, rfl⟩))), rfl⟩
        | 4, hx => cases hx; exact ⟨.inr ⟨_, _, rfl, .inl L1'⟩, rfl⟩
        | 5, hx => cases hx; exact ⟨.inr ⟨_, _, rfl, .inr L2'⟩, rfl⟩
      walk_at "rd"
      refine ⟨x, rfl, way.1, ?_⟩
      rw [way.2]
      walk_at "rd"
      refine ⟨false, false, rfl, rfl, ?_⟩
      walk_at "rd"
      refine iteF ?_
      walk_at "rd"
      exact ⟨rfl, _, rfl⟩
    · rintro σ H' ⟨rfl, x3, rfl⟩
      walk_at "rd"
      exact k _
end
end JF

namespace JF
open PySem PySem.Spec PyProof.Rows L2
/-! ### the head: facts by names, the run; the end -/
theorem fn_ofE {P : Program} {w : World} {K : PySem.W.Frag} {mg : Str → Option Value} {k : Nat} {sp : Sp} {f : Addr} (hfa : mg ("law" : Str) = some (.ref f)) (T : Env fa fn K mg)
    (ok : ∀ base : Heap, K.In base → base.Ns mainGlobals mg → Good P w K mg base CX0 k ("law", none) ["_law_script"] sp) :
    ∃ fd : FuncData, (∀ (s : Shared) (v : Value), BindsTo s fd ⟨[v], []⟩ [("_law_script", v)]) ∧ ∀ base : Heap, K.In base → base.Ns mainGlobals mg → FnOk P w K mg base CX0 k f fd ["_law_script"] sp := by
  obtain ⟨fd, F⟩ := T.c.def_ (d := d_law) 12 rfl
  have e := hfa.symm.trans (T.glo 37)
  cases e
  have b := FunD.bindsA (ps := ["_law_script"]) F fun _ _ _ _ _ _ us hl => match us, hl with | [_], _ => rfl
  refine ⟨fd, fun s v => b s [v] rfl, fun base h1 h2 => ?_⟩
  obtain ⟨fd2, F2, _, _, l2⟩ := ok base h1 h2
  cases (fdAt_of (p := ("law", none)) F).eq l2
  exact F2
abbrev Rr : PySem.W.OpenRow := PySem.W.OpenLaw.row PySem.Challenge.rw_jumpfield_k01_numbers_read
abbrev AlE : Type := Bool × He.AlD
def obsE (K : PySem.W.Frag) : AlE := (tbB K, He.obsD fa fn K)
def valE : AlE := (true, He.valD fn)
def obsEG (g : Addr → Option Obj) : AlE := obsE (He.frG g (He.asD g 4))
def hk : PySem.W.Hook where
  α := AlE
  obs := fun s => obsEG s.heap.get?
  val := fun _ => valE
  says := fun _ h => ∃ K : PySem.W.Frag, K.In h ∧ obsE K = valE
  of := fun _ _ e => ⟨_, He.frG_in, e⟩
  keeps := fun _ _ _ ⟨K, hK, c⟩ k => ⟨K, PySem.W.Frag.In.keeps hK k, c⟩
def ob (s : PySem.W.SharedT) : hk.α := obsEG (HandSHeadRun.getT s)
theorem ob_eq (s : PySem.W.SharedT) : ob s = hk.obs s.abs := by
  have e : HandSHeadRun.getT s = s.abs.heap.get? := funext (HandSHeadRun.getT_eq s)
  show obsEG (HandSHeadRun.getT s) = obsEG s.abs.heap.get?
  rw [e]
theorem run (w : World) : HandSHeadRun.RunEq Rr (PySem.W.view Rr.prog [31]) hk ob 100000 looseN w := by
  intro os
  kernel_rfl
end JF
open PySem PySem.W PySem.Calls PyProof.Rows
theorem PySem.Challenge.cw_jumpfield_k01_numbers_read_holds : PySem.Challenge.rw_jumpfield_k01_numbers_read.Holds := by
  w_on; o_law
  refine HandSHeadRun.head_any (r := OpenLaw.row PySem.Challenge.rw_jumpfield_k01_numbers_read) (q := view (OpenLaw.row PySem.Challenge.rw_jumpfield_k01_numbers_read).prog [31]) (H := JF.hk) (ob := JF.ob) (M := 100000) (loose := JF.looseN) (d := HandSHeadRun.topDef (OpenLaw.row PySem.Challenge.rw_jumpfield_k01_numbers_read).prog 31) (kwd := []) JF.ob_eq
    (by kernel_rfl) (fun s => by kernel_rfl) JF.run (by kernel_rfl) (by kernel_rfl) (by kernel_rfl) (by rfl) (by first | assumption | decide +kernel) (by decide +kernel) ⟨rfl, rfl, rfl, rfl, rfl, by decide +kernel⟩ ?hw ?hc
  case hw => w_witness2
  case hc =>
    refine L2.walk_ofE (l := PySem.Challenge.rw_jumpfield_k01_numbers_read) (n := 63) (k := JF.lawLevel) (x := "_law_script") (CX := L2.CX0) rfl (by decide) (by kernel_rfl) ⟨rfl, by decide, by decide⟩ ?F (fun _ _ _ _ z => z)
    intro w mg fa h Y G hmg0
    obtain ⟨K, KX, c⟩ := Y
    have hmg : mg ("law" : PySem.Str) = some (.ref fa) := by
      have e : (HandSHeadRun.topDef (OpenLaw.row PySem.Challenge.rw_jumpfield_k01_numbers_read).prog 31).name = ("law" : PySem.Str) := by kernel_rfl
      rw [← e]
      exact hmg0
    have T : JF.Env JF.fa JF.fn K mg := ⟨congrArg (fun z : JF.AlE => z.2) c, ⟨h, KX, G⟩, congrArg (fun z : JF.AlE => z.1) c⟩
    obtain ⟨fd, hb, hF⟩ := JF.fn_ofE (P := (PySem.Challenge.rw_jumpfield_k01_numbers_read).prog) (w := w) hmg T (fun base h1 h2 => JF.ok_law T)
    exact ⟨K, fd, JF.sp_law K, KX, hb, fun H a ns hl hO hS => JF.sp_law_in H a ns hl hO hS, hF⟩
#print axioms PySem.Challenge.cw_jumpfield_k01_numbers_read_holds

