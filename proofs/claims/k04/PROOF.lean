import PyProof.Rows.All
import Wide.All
import OpenK.AllK
import Wide.FinOn
import KE.KStateDown
import KE.GoesMore
import KE.GoesZip
import PyProof.EnumMake
import HandS.ForMost
import HandS.ForExc
import HandS.Flow
import HandS.Wide
import HandS.WideMore
import HandS.IsInst
import HandS.SetKeys
import HandS.Style
import HandS.TupLe
import HandS.Zip
import HandS.Defaults
import HandS.Head0
import HandS.Head1
import HandS.Head2
import HandS.HeadEnd
import HandS.HeadHook1
import HandS.HeadHook2
import HandS.Walk
import PyProof.DictMoreH
import HandS.SetFor
import PySem.Challenge.RW_jumpfield_k04_a_rule_written_again
set_option Elab.async false
set_option linter.all false
set_option maxRecDepth 100000
set_option maxHeartbeats 4000000
/-! ### the frame: facts of the top, defs by their places, calls -/
namespace JF
open PySem PySem.Spec PyProof.Rows L2

/-! ### what the top has left, by facts with numbers -/
/-- the module's tuples of numbers -/
def tb : List (Str × List He.Dv) := [("TO_THE_LEFT", [.int 2, .int 4, .int 7, .int 1, .int 6, .int 0, .int 3, .int 5]), ("IN_THE_MIRROR", [.int 2, .int 1, .int 0, .int 4, .int 3, .int 7, .int 6, .int 5])]
def tbB (K : PySem.W.Frag) : Bool := tb.all fun t => He.tupB K t.1 t.2
structure Env (fa : List He.Fa) (fn : List He.DefD) (K : PySem.W.Frag) (mg : Str → Option Value) : Prop where
  c : He.SaysD fa fn K
  ex : ∃ h : Heap, K.In h ∧ h.Ns mainGlobals mg
  tb : tbB K = true
section
variable {fa : List He.Fa} {fn : List He.DefD} {K : PySem.W.Frag} {mg : Str → Option Value}
theorem Env.glo (T : Env fa fn K mg) (i : Nat) {x : Str} (h : fa[i]? = some (.glo x) := by rfl) : mg x = some (.ref (He.ga K x)) := by
  obtain ⟨hp, X, G⟩ := T.ex
  exact He.glo_ok X G (T.c.fact i h)
theorem Env.tup (T : Env fa fn K mg) (i : Nat) {x : Str} {vs : List He.Dv} (H : Hp) (h : JF.tb[i]? = some (x, vs) := by rfl) : SqT K H (He.ga K x) (vs.map (He.Dv.v K)) :=
  He.tupB_ok (List.all_eq_true.mp T.tb _ (List.mem_of_getElem? h)) H
theorem Env.free (T : Env fa fn K mg) (i : Nat) {x : Str} (h : fa[i]? = some (.free x) := by rfl) : mg x = none := by
  obtain ⟨hp, X, G⟩ := T.ex
  exact He.free_ok X G (T.c.fact i h)
theorem Env.int (T : Env fa fn K mg) (i : Nat) {x : Str} {n : Int} (h : fa[i]? = some (.int x n) := by rfl) : ∃ t, mg x = some (.int n t) := by
  obtain ⟨hp, X, G⟩ := T.ex
  exact He.int_ok X G (T.c.fact i h)
theorem Env.str (T : Env fa fn K mg) (i : Nat) {x z : Str} (h : fa[i]? = some (.str x z) := by rfl) : ∃ t, mg x = some (.str z t) := by
  obtain ⟨hp, X, G⟩ := T.ex
  exact He.str_ok X G (T.c.fact i h)
theorem Env.cls (T : Env fa fn K mg) (i : Nat) {x : Str} (h : fa[i]? = some (.cls x) := by rfl) : Cls K (He.ga K x) := He.cls_ok (T.c.fact i h)
theorem Env.noat (T : Env fa fn K mg) (i : Nat) {x f : Str} (h : fa[i]? = some (.noat x f) := by rfl) : NoAttr K (He.ga K x) f := He.noat_ok (T.c.fact i h)
theorem Env.meth (T : Env fa fn K mg) (i : Nat) {x m : Str} (h : fa[i]? = some (.meth x m) := by rfl) : Meth K (He.ga K x) m (He.ma K (He.ga K x) m) := He.meth_ok (T.c.fact i h)
theorem Env.mkr (T : Env fa fn K mg) (i : Nat) {x : Str} (h : fa[i]? = some (.mkr x) := by rfl) : Mk K (He.ga K x) (He.ma K (He.ga K x) "__init__") := He.mkr_ok (T.c.fact i h)
end

/-! ### a def that keeps its promise, by its place -/
/-- the def's datum stands there -/
def FdAt (K : PySem.W.Frag) (p : Str × Option Str) (fd : FuncData) : Prop := ∃ oc od osl, K.lookup (He.fAd K p) = some ⟨oc, od, .func fd, osl⟩
theorem FdAt.eq {K : PySem.W.Frag} {p : Str × Option Str} {fd fd' : FuncData} (h : FdAt K p fd) (h' : FdAt K p fd') : fd = fd' := by
  obtain ⟨a, b, c, e⟩ := h
  obtain ⟨a', b', c', e'⟩ := h'
  rw [e] at e'
  cases e'
  rfl
theorem fdAt_of {K : PySem.W.Frag} {x qual : Str} {params : Arguments} {body : List Stmt} {scope : Scope} {dvs : List V} {kws : List (Str × V)} {p : Str × Option Str} {fd : FuncData} (F : FunD K x qual params body scope dvs kws (He.fAd K p) fd) : FdAt K p fd := by
  obtain ⟨oc, od, dV, kV, doc, pm, an, cdv, ct, osl, e, lk, hcd, _, _⟩ := F.ex
  exact ⟨oc, od, osl, lk⟩
def Good (P : Program) (w : World) (K : PySem.W.Frag) (mg : Str → Option Value) (base : Heap) (CX : CXT) (k : Nat) (p : Str × Option Str) (ps : List Str) (sp : Sp) : Prop :=
  ∃ fd, FnOk P w K mg base CX k (He.fAd K p) fd ps sp ∧ Binds K fd ps [] ∧ PySem.W.keepIn K (.ref (He.fAd K p)) = true ∧ FdAt K p fd
section
variable {P : Program} {w : World} {K : PySem.W.Frag} {mg : Str → Option Value} {base : Heap} {fa : List He.Fa} {fn : List He.DefD}
theorem Good.mono {CX : CXT} {j k : Nat} {p : Str × Option Str} {ps : List Str} {sp : Sp} (G : Good P w K mg base CX j p ps sp) (h : j ≤ k) : Good P w K mg base CX k p ps sp := by
  obtain ⟨fd, F, b, kp, lk⟩ := G
  exact ⟨fd, F.mono h, b, kp, lk⟩
theorem Good.imp {CX : CXT} {k : Nat} {p : Str × Option Str} {ps : List Str} {sp sp' : Sp} (G : Good P w K mg base CX k p ps sp) (h : ∀ vs H Q E, sp' vs H Q E → sp vs H Q E) : Good P w K mg base CX k p ps sp' := by
  obtain ⟨fd, F, b, kp, lk⟩ := G
  exact ⟨fd, F.imp h, b, kp, lk⟩
/-- THE RULE of a def: nothing leaves it but by return -/
theorem good_mk (T : Env fa fn K mg) (i : Nat) {d : He.DefD} {k : Nat} {N ps : List Str} {sp : Sp} {x qual : Str} {st : Stmt} {at_ : Str × Option Str} (hi : fn[i]? = some d) (hd : d = ⟨at_, x, qual, defArgs st, defBody st, defScope st, [], []⟩) (S : FnScope N ps (defScope st))
    (hb : ∀ (kV doc pm : Value) (an : Option Addr) (cdv ct : Value) (us : List Value), us.length = ps.length → bindArgs (PySem.W.fnOf x qual (defArgs st) (defBody st) (defScope st) .none kV doc pm an cdv ct) ⟨us, []⟩ = pure (ps.zip us))
    (len : ∀ vs H Q E, sp vs H Q E → vs.length = ps.length)
    (hbody : ∀ (f : Addr) (cdv : Value) (A : Around) (outer : List PySem.Env) (s : Shared) (H : Hp) (vs : List V) (Q : VK) (E : XK), Room k (A.deeper (envOfC qual (defScope st) s.heap.objs.size f cdv)) → sp vs H Q E →
      ∃ t, PSs (cxOf CX0 P w K mg base N qual (defScope st) f cdv A outer s H E).nox (defBody st) t ∧ t { nx := fun _ H' => Q .non H', rt := Q } (start N vs) H) : Good P w K mg base CX0 (k + 1) at_ ps sp := by
  subst hd
  obtain ⟨fd, F⟩ := T.c.def_ i hi
  refine ⟨fd, ?_, FunD.bindsN F hb, F.kp, fdAt_of F⟩
  refine FunD.ok F S len fun cdv A outer s H vs Q E hr h => ?_
  obtain ⟨t, h1, h2⟩ := hbody _ cdv A outer s H vs Q E hr h
  exact ⟨t, h1.nox, h2⟩
end

/-! ### calls -/
section
variable {X : Cx} {k : Nat} {x m : Str} {ps : List Str} {sp : Sp} {p pos apos : Pos} {e o : Expr} {es : List Expr} {ta : TE} {t : TA} {C : Addr}
theorem pe_cg (G : Good X.prog X.w X.K X.mg X.base CX0 k (x, none) ps sp) (hr : Room k X.A) (hm : X.mg x = some (.ref (He.ga X.K x))) (ha : PA X (e :: es) t) (hg : Gl X x := by rfl)
    (hdb : (x == ("__debug__" : Str)) = false := by decide) (he : starEach (e :: es) X.env = (false, eval e X.env) :: starEach es X.env := by rfl) (hpl : (backTo pos (starEach es X.env)).any (·.1) = false := by rfl) :
    PE X (.Call (.Name x p) (e :: es) [] pos) (tCall sp [] E0 t) := by
  obtain ⟨fd, F, b, kp, lk⟩ := G
  exact pe_call F hr hg hm kp b .nil pass0 ha hdb he hpl
theorem pe_cg0 (G : Good X.prog X.w X.K X.mg X.base CX0 k (x, none) ps sp) (hr : Room k X.A) (hm : X.mg x = some (.ref (He.ga X.K x))) (hg : Gl X x := by rfl) (hdb : (x == ("__debug__" : Str)) = false := by decide) :
    PE X (.Call (.Name x p) [] [] pos) (tCall sp [] E0 tNil) := by
  obtain ⟨fd, F, b, kp, lk⟩ := G
  exact pe_call0 F hr hg hm kp b .nil pass0 hdb
theorem pe_mg {cn : Str} {pl : Sem Bool} (he : PE X o ta) (c : Cls X.K (He.ga X.K cn)) (hm : Meth X.K (He.ga X.K cn) m (He.ma X.K (He.ga X.K cn) m)) (G : Good X.prog X.w X.K X.mg X.base CX0 k (cn, some m) ps sp) (hr : Room k X.A) (ha : PA X (e :: es) t)
    (hst : starEach (e :: es) X.env = (false, eval e X.env) :: starEach es X.env := by rfl) (hpl : (backTo pos (starEach es X.env)).any (·.1) = false := by rfl)
    (ht : eval (.Call (.Attribute o m apos) (e :: es) [] pos) X.env = (do
      let ov ← eval o X.env
      standAt apos.atName
      let (f, first) ← holding [ov] (getMethod ov m pl)
      callWith pos f first (backTo pos (starEach (e :: es) X.env)) (backToKw pos (keywordEach [] X.env))) := by rfl) :
    PE X (.Call (.Attribute o m apos) (e :: es) [] pos) (tMeth (He.ga X.K cn) m sp [] E0 ta t) := by
  obtain ⟨fd, F, b, kp, lk⟩ := G
  exact pe_meth he c hm F hr b .nil pass0 ha hst hpl ht
theorem pe_mg0 {cn : Str} {pl : Sem Bool} (he : PE X o ta) (c : Cls X.K (He.ga X.K cn)) (hm : Meth X.K (He.ga X.K cn) m (He.ma X.K (He.ga X.K cn) m)) (G : Good X.prog X.w X.K X.mg X.base CX0 k (cn, some m) ps sp) (hr : Room k X.A)
    (ht : eval (.Call (.Attribute o m apos) [] [] pos) X.env = (do
      let ov ← eval o X.env
      standAt apos.atName
      let (f, first) ← holding [ov] (getMethod ov m pl)
      callWith pos f first (backTo pos (starEach [] X.env)) (backToKw pos (keywordEach [] X.env))) := by rfl) :
    PE X (.Call (.Attribute o m apos) [] [] pos) (tMeth (He.ga X.K cn) m sp [] E0 ta tNil) := by
  obtain ⟨fd, F, b, kp, lk⟩ := G
  exact pe_meth0 he c hm F hr b .nil pass0 ht
theorem pe_mk0 (M : Mk X.K (He.ga X.K x) (He.ma X.K (He.ga X.K x) "__init__")) (G : Good X.prog X.w X.K X.mg X.base CX0 k (x, some "__init__") ps sp) (hr : Room (k + 1) X.A) (hm : X.mg x = some (.ref (He.ga X.K x))) (hg : Gl X x := by rfl)
    (hdb : (x == ("__debug__" : Str)) = false := by decide) : PE X (.Call (.Name x p) [] [] pos) (tMake (He.ga X.K x) sp [] E0 tNil) := by
  obtain ⟨fd, F, b, kp, lk⟩ := G
  exact pe_make0 M F hr hg hm b .nil pass0 hdb
theorem pe_gint {i : Int} (h : ∃ t, X.mg x = some (.int i t)) (hg : Gl X x) (hd : (x == ("__debug__" : Str)) = false := by decide) : PE X (.Name x pos) (tC (.int i)) := by
  obtain ⟨t, e⟩ := h
  exact pe_glob hg e ⟨_, rfl⟩ hd
theorem pe_gstr {z : Str} (h : ∃ t, X.mg x = some (.str z t)) (hg : Gl X x) (hd : (x == ("__debug__" : Str)) = false := by decide) : PE X (.Name x pos) (tC (.str z)) := by
  obtain ⟨t, e⟩ := h
  exact pe_glob hg e ⟨_, rfl⟩ hd
theorem pe_gref (h : X.mg x = some (.ref (He.ga X.K x))) (hg : Gl X x) (hd : (x == ("__debug__" : Str)) = false := by decide) : PE X (.Name x pos) (tC (.ref (He.ga X.K x))) :=
  pe_glob hg h rfl hd
theorem pe_mk0K (K : PySem.W.Frag) (hK : X.K = K) (M : Mk K (He.ga K x) (He.ma K (He.ga K x) "__init__")) (G : Good X.prog X.w K X.mg X.base CX0 k (x, some "__init__") ps sp) (hr : Room (k + 1) X.A) (hm : X.mg x = some (.ref (He.ga K x))) (hg : Gl X x := by rfl)
    (hdb : (x == ("__debug__" : Str)) = false := by decide) : PE X (.Call (.Name x p) [] [] pos) (tMake (He.ga K x) sp [] E0 tNil) := by subst hK; exact pe_mk0 M G hr hm hg hdb
theorem pe_mkgK (K : PySem.W.Frag) (hK : X.K = K) (M : Mk K (He.ga K x) (He.ma K (He.ga K x) "__init__")) (G : Good X.prog X.w K X.mg X.base CX0 k (x, some "__init__") ps sp) (hr : Room (k + 1) X.A) (hm : X.mg x = some (.ref (He.ga K x))) (ha : PA X (e :: es) t) (hg : Gl X x := by rfl)
    (hdb : (x == ("__debug__" : Str)) = false := by decide) (hst : starEach (e :: es) X.env = (false, eval e X.env) :: starEach es X.env := by rfl) (hpl : (backTo pos (starEach es X.env)).any (·.1) = false := by rfl) : PE X (.Call (.Name x p) (e :: es) [] pos) (tMake (He.ga K x) sp [] E0 t) := by
  subst hK
  obtain ⟨fd, F, b, kp, lk⟩ := G
  exact pe_make M F hr hg hm b .nil pass0 ha hdb hst hpl
/-- one of two readings -/
theorem pe_or {t1 t2 : TE} (h1 : PE X e t1) (h2 : PE X e t2) : PE X e (fun σ H Q => t1 σ H Q ∨ t2 σ H Q) := ⟨fun pins s σ H Q I h => h.elim (h1.run pins s σ H Q I) (h2.run pins s σ H Q I)⟩
/-! the written part said outright (in a comprehension's block it is another word for the same) -/
variable {K : PySem.W.Frag} {f : Str} {a b i : Expr} {tb : TE}
theorem pe_fldK (K : PySem.W.Frag) (hK : X.K = K) (he : PE X e ta) (hb : attributeBase e f X.env (eval e X.env) = eval e X.env) : PE X (.Attribute e f pos) (tFld K ta f) := by subst hK; exact pe_fld he hb
theorem ix_listK (K : PySem.W.Frag) (hK : X.K = K) : IxR X (rIxL K) := by subst hK; exact ix_list
theorem ix_tupK (K : PySem.W.Frag) (hK : X.K = K) : IxR X (rIxT K) := by subst hK; exact ix_tup
theorem sl_listK (K : PySem.W.Frag) (hK : X.K = K) : SlR X (rSlL K) := by subst hK; exact sl_list
theorem sl_tupK (K : PySem.W.Frag) (hK : X.K = K) : SlR X (rSlT K) := by subst hK; exact sl_tup
theorem op_inK (K : PySem.W.Frag) (hK : X.K = K) : OpR X (compareOp .In) (rIn K false) := by subst hK; exact op_in_seq
theorem op_notInK (K : PySem.W.Frag) (hK : X.K = K) : OpR X (compareOp .NotIn) (rIn K true) := by subst hK; exact op_notIn_seq
theorem op_eqDK (K : PySem.W.Frag) (hK : X.K = K) (hu : X.A.units + 64 < cLine) : OpR X (compareOp .Eq) (rEqD K) := by subst hK; exact op_eqD hu
theorem op_neDK (K : PySem.W.Frag) (hK : X.K = K) (hu : X.A.units + 64 < cLine) : OpR X (compareOp .NotEq) (rNeD K) := by subst hK; exact op_neD hu
theorem op_catTK (K : PySem.W.Frag) (hK : X.K = K) : OpR X (binaryOp .Add) (rCatT K) := by subst hK; exact op_catT
theorem call_isiK (K : PySem.W.Frag) (hK : X.K = K) : CallR X (.builtin "isinstance") (rIsi K) := by subst hK; exact call_isi
def rLenS (K : PySem.W.Frag) : List V → Hp → VK → Prop := fun xs H Q => ∃ p ys, xs = [.ref p] ∧ (SqL K H p ys ∨ SqT K H p ys) ∧ Q (.int ys.length) H
theorem call_lenK (K : PySem.W.Frag) (hK : X.K = K) : CallR X (.builtin "len") (rLenS K) := by subst hK; exact call_len_seq
def rListOf (K : PySem.W.Frag) : List V → Hp → VK → Prop := fun xs H Q => ∃ p ys, xs = [.ref p] ∧ (SqL K H p ys ∨ SqT K H p ys) ∧ ∀ l, H l = none → Q (.ref l) (upd H l (.lst ys))
theorem call_listK (K : PySem.W.Frag) (hK : X.K = K) : CallR X (.type "list") (rListOf K) := by subst hK; exact call_list_of
theorem cr_sumK (K : PySem.W.Frag) (hK : X.K = K) (hc : X.calm = true) : CallR X (.builtin "sum") (rSum K) := by subst hK; exact cr_sum hc
theorem cr_maxK (K : PySem.W.Frag) (hK : X.K = K) (hc : X.calm = true) : CallR X (.builtin "max") (rMax K) := by subst hK; exact cr_max hc
theorem cr_minK (K : PySem.W.Frag) (hK : X.K = K) (hc : X.calm = true) : CallR X (.builtin "min") (rMin K) := by subst hK; exact cr_min hc
theorem pi_listK (K : PySem.W.Frag) (hK : X.K = K) {tg l : Expr} {tl : TE} (hl : PE X l tl) : PI X tg l (iList K tl) := by subst hK; exact pi_list hl
theorem pi_tupK (K : PySem.W.Frag) (hK : X.K = K) {tg l : Expr} {tl : TE} (hl : PE X l tl) : PI X tg l (iTup K tl) := by subst hK; exact pi_tup hl
theorem pe_mgK (K : PySem.W.Frag) (hK : X.K = K) {cn : Str} {pl : Sem Bool} (he : PE X o ta) (c : Cls K (He.ga K cn)) (hm : Meth K (He.ga K cn) m (He.ma K (He.ga K cn) m)) (G : Good X.prog X.w K X.mg X.base CX0 k (cn, some m) ps sp) (hr : Room k X.A) (ha : PA X (e :: es) t)
    (hst : starEach (e :: es) X.env = (false, eval e X.env) :: starEach es X.env := by rfl) (hpl : (backTo pos (starEach es X.env)).any (·.1) = false := by rfl)
    (ht : eval (.Call (.Attribute o m apos) (e :: es) [] pos) X.env = (do
      let ov ← eval o X.env
      standAt apos.atName
      let (f, first) ← holding [ov] (getMethod ov m pl)
      callWith pos f first (backTo pos (starEach (e :: es) X.env)) (backToKw pos (keywordEach [] X.env))) := by rfl) :
    PE X (.Call (.Attribute o m apos) (e :: es) [] pos) (tMeth (He.ga K cn) m sp [] E0 ta t) := by subst hK; exact pe_mg he c hm G hr ha hst hpl ht
theorem pe_mg0K (K : PySem.W.Frag) (hK : X.K = K) {cn : Str} {pl : Sem Bool} (he : PE X o ta) (c : Cls K (He.ga K cn)) (hm : Meth K (He.ga K cn) m (He.ma K (He.ga K cn) m)) (G : Good X.prog X.w K X.mg X.base CX0 k (cn, some m) ps sp) (hr : Room k X.A)
    (ht : eval (.Call (.Attribute o m apos) [] [] pos) X.env = (do
      let ov ← eval o X.env
      standAt apos.atName
      let (f, first) ← holding [ov] (getMethod ov m pl)
      callWith pos f first (backTo pos (starEach [] X.env)) (backToKw pos (keywordEach [] X.env))) := by rfl) :
    PE X (.Call (.Attribute o m apos) [] [] pos) (tMeth (He.ga K cn) m sp [] E0 ta tNil) := by subst hK; exact pe_mg0 he c hm G hr ht
theorem pe_cgK (K : PySem.W.Frag) (hK : X.K = K) (G : Good X.prog X.w K X.mg X.base CX0 k (x, none) ps sp) (hr : Room k X.A) (hm : X.mg x = some (.ref (He.ga K x))) (ha : PA X (e :: es) t) (hg : Gl X x := by rfl)
    (hdb : (x == ("__debug__" : Str)) = false := by decide) (he : starEach (e :: es) X.env = (false, eval e X.env) :: starEach es X.env := by rfl) (hpl : (backTo pos (starEach es X.env)).any (·.1) = false := by rfl) :
    PE X (.Call (.Name x p) (e :: es) [] pos) (tCall sp [] E0 t) := by subst hK; exact pe_cg G hr hm ha hg hdb he hpl
theorem pe_grefK (K : PySem.W.Frag) (hK : X.K = K) (h : X.mg x = some (.ref (He.ga K x))) (hg : Gl X x) (hd : (x == ("__debug__" : Str)) = false := by decide) : PE X (.Name x pos) (tC (.ref (He.ga K x))) := by subst hK; exact pe_gref h hg hd
end
end JF

/-! ### squares as trees: the mathematics of a grove, no program in sight -/
namespace JF
open PySem PySem.Spec PyProof.Rows L2

inductive Sq where
  | leaf (s : Int)
  | node (a b c d : Sq)
  deriving DecidableEq
abbrev Box := Int × Int × Int × Int
def rb : Option Box → Box → Box
  | none, o => o
  | some b, o => (min b.1 o.1, min b.2.1 o.2.1, max (b.1 + b.2.2.1) (o.1 + o.2.2.1) - min b.1 o.1, max (b.2.1 + b.2.2.2) (o.2.1 + o.2.2.2) - min b.2.1 o.2.1)
def r4step (half : Int) (at_ : Int) (f : Option Box) : Option Box → Option Box
  | none => f
  | some b => some (rb f (b.1 + half * (at_ % 2), b.2.1 + half * (at_ / 2), b.2.2.1, b.2.2.2))
def r4 (half : Int) (a b c d : Option Box) : Option Box := r4step half 3 (r4step half 2 (r4step half 1 (r4step half 0 none a) b) c) d
namespace Sq
def level : Sq → Nat
  | leaf _ => 0
  | node a _ _ _ => a.level + 1
def lives : Sq → Int
  | leaf s => if s = 0 then 0 else 1
  | node a b c d => a.lives + b.lives + c.lives + d.lives
def span : Sq → Option Box
  | leaf s => if s = 0 then none else some (0, 0, 1, 1)
  | node a b c d => r4 (2 ^ a.level : Int) a.span b.span c.span d.span
def wf : Sq → Prop
  | leaf s => 0 ≤ s ∧ s ≤ 7
  | node a b c d => a.wf ∧ b.wf ∧ c.wf ∧ d.wf ∧ b.level = a.level ∧ c.level = a.level ∧ d.level = a.level
def even : Nat → Int → Sq
  | 0, s => leaf s
  | k + 1, s => node (even k s) (even k s) (even k s) (even k s)
theorem level_even (k : Nat) (s : Int) : (even k s).level = k := by
  induction k with
  | zero => rfl
  | succ k ih => show (even k s).level + 1 = k + 1; rw [ih]
theorem wf_even {s : Int} (h0 : 0 ≤ s) (h1 : s ≤ 7) (k : Nat) : (even k s).wf := by
  induction k with
  | zero => exact ⟨h0, h1⟩
  | succ k ih => exact ⟨ih, ih, ih, ih, rfl, rfl, rfl⟩
theorem lives_nonneg : ∀ S : Sq, 0 ≤ S.lives
  | leaf s => by unfold lives; split <;> omega
  | node a b c d => by
    have h1 := lives_nonneg a; have h2 := lives_nonneg b; have h3 := lives_nonneg c; have h4 := lives_nonneg d
    unfold lives; omega
end Sq

/-! ### the dict of a grove: what was made, by numbers -/
def kvsOf : List (List Int) → Nat → List (List Key × V)
  | [], _ => []
  | m :: r, i => (m.map Sum.inl, V.int (i : Int)) :: kvsOf r (i + 1)
def lookI : List (List Int) → List Int → Nat → Option Nat
  | [], _, _ => none
  | m :: r, k, i => if m = k then some i else lookI r k (i + 1)
theorem inl_inj : ∀ {a b : List Int}, a.map (Sum.inl : Int → Key) = b.map Sum.inl → a = b
  | [], [], _ => rfl
  | [], _ :: _, h => by cases h
  | _ :: _, [], h => by cases h
  | x :: a, y :: b, h => by
    simp only [List.map_cons, List.cons.injEq, Sum.inl.injEq] at h
    rw [h.1, inl_inj h.2]
theorem kvsOf_len : ∀ (mk : List (List Int)) (i : Nat), (kvsOf mk i).length = mk.length
  | [], _ => rfl
  | _ :: r, i => by show (kvsOf r (i + 1)).length + 1 = r.length + 1; rw [kvsOf_len r]
theorem kvsOf_app : ∀ (mk : List (List Int)) (m : List Int) (i : Nat), kvsOf (mk ++ [m]) i = kvsOf mk i ++ [(m.map Sum.inl, V.int ((i + mk.length : Nat) : Int))]
  | [], m, i => rfl
  | x :: r, m, i => by
    show _ :: kvsOf (r ++ [m]) (i + 1) = _ :: (kvsOf r (i + 1) ++ _)
    rw [kvsOf_app r m (i + 1)]
    have e : i + 1 + r.length = i + (x :: r).length := by simp; omega
    rw [e]
theorem valV_kvsOf : ∀ (mk : List (List Int)) (k : List Int) (i : Nat), valV (kvsOf mk i) (k.map Sum.inl) = (lookI mk k i).map fun n : Nat => V.int (n : Int)
  | [], _, _ => rfl
  | m :: r, k, i => by
    by_cases h : m = k
    · subst h
      simp [kvsOf, lookI, valV]
    · have h' : ¬ (m.map (Sum.inl : Int → Key) = k.map Sum.inl) := fun e => h (inl_inj e)
      have ih := valV_kvsOf r k (i + 1)
      simp only [kvsOf, lookI, valV, List.find?_cons, h, h', decide_false, if_false] at ih ⊢
      exact ih
theorem lookI_some : ∀ {mk : List (List Int)} {k : List Int} {i n : Nat}, lookI mk k i = some n → i ≤ n ∧ mk[n - i]? = some k
  | [], _, _, _, h => by cases h
  | m :: r, k, i, n, h => by
    by_cases e : m = k
    · simp only [lookI, e, if_true, Option.some.injEq] at h
      subst h
      simp [e]
    · simp only [lookI, e, if_false] at h
      obtain ⟨h1, h2⟩ := lookI_some h
      refine ⟨by omega, ?_⟩
      have e2 : n - i = (n - (i + 1)) + 1 := by omega
      rw [e2, List.getElem?_cons_succ]
      exact h2
theorem lookI_none : ∀ {mk : List (List Int)} {k : List Int} {i : Nat}, lookI mk k i = none → k ∉ mk
  | [], _, _, _ => by simp
  | m :: r, k, i, h => by
    by_cases e : m = k
    · simp [lookI, e] at h
    · simp only [lookI, e, if_false] at h
      have := lookI_none h
      simp only [List.mem_cons, not_or]
      exact ⟨fun z => e z.symm, this⟩

/-- what a square is made of, by the numbers of its quarters -/
def Made (q : List Sq) : Sq → List Int → Prop
  | .leaf s, m => m = [s]
  | .node A B C D, m => ∃ a b c d : Nat, m = [(a : Int), (b : Int), (c : Int), (d : Int)] ∧ q[a]? = some A ∧ q[b]? = some B ∧ q[c]? = some C ∧ q[d]? = some D
theorem getElem?_app {α : Type} {q : List α} {i : Nat} {x : α} (h : q[i]? = some x) (t : List α) : (q ++ t)[i]? = some x := by
  rw [List.getElem?_append_left (List.getElem?_eq_some_iff.mp h).1]
  exact h
theorem Made.app {q : List Sq} {S : Sq} {m : List Int} (h : Made q S m) (t : List Sq) : Made (q ++ t) S m := by
  cases S with
  | leaf s => exact h
  | node A B C D =>
    obtain ⟨a, b, c, d, e, h1, h2, h3, h4⟩ := h
    exact ⟨a, b, c, d, e, getElem?_app h1 t, getElem?_app h2 t, getElem?_app h3 t, getElem?_app h4 t⟩
theorem nodup_at {q : List Sq} (hq : q.Nodup) {i j : Nat} {S : Sq} (a : q[i]? = some S) (b : q[j]? = some S) : i = j := by
  obtain ⟨h1, e1⟩ := List.getElem?_eq_some_iff.mp a
  obtain ⟨h2, e2⟩ := List.getElem?_eq_some_iff.mp b
  exact (List.getElem_inj hq).mp (e1.trans e2.symm)
theorem made_inj {q : List Sq} (hq : q.Nodup) {S : Sq} {m m' : List Int} (a : Made q S m) (b : Made q S m') : m = m' := by
  cases S with
  | leaf s => exact (show m = [s] from a).trans (show m' = [s] from b).symm
  | node A B C D =>
    obtain ⟨a1, b1, c1, d1, rfl, h1, h2, h3, h4⟩ := a
    obtain ⟨a2, b2, c2, d2, rfl, k1, k2, k3, k4⟩ := b
    rw [nodup_at hq h1 k1, nodup_at hq h2 k2, nodup_at hq h3 k3, nodup_at hq h4 k4]
theorem made_same {q : List Sq} {S S' : Sq} {m : List Int} (a : Made q S m) (b : Made q S' m) : S = S' := by
  cases S with
  | leaf s =>
    cases S' with
    | leaf s' =>
      have e : [s] = [s'] := (show m = [s] from a).symm.trans (show m = [s'] from b)
      simp only [List.cons.injEq, and_true] at e
      rw [e]
    | node A B C D =>
      obtain ⟨a2, b2, c2, d2, e, _⟩ := b
      have e1 : m = [s] := a
      rw [e1] at e
      simp at e
  | node A B C D =>
    obtain ⟨a1, b1, c1, d1, e1, h1, h2, h3, h4⟩ := a
    cases S' with
    | leaf s' =>
      have e2 : m = [s'] := b
      rw [e1] at e2
      simp at e2
    | node A' B' C' D' =>
      obtain ⟨a2, b2, c2, d2, e2, k1, k2, k3, k4⟩ := b
      rw [e1] at e2
      simp only [List.cons.injEq, Int.ofNat_inj, and_true] at e2
      obtain ⟨rfl, rfl, rfl, rfl⟩ := e2
      rw [h1] at k1; rw [h2] at k2; rw [h3] at k3; rw [h4] at k4
      cases k1; cases k2; cases k3; cases k4
      rfl
end JF

namespace JF
open PySem PySem.Spec PyProof.Rows L2
def top (i : Nat) : Stmt := PySem.Challenge.pw_jumpfield_k04_a_rule_written_again.main.body.getD i (.Pass ⟨0, 0, 0, 0⟩)
abbrev st_Condition_holds : Stmt := inClass (top 1) 0
theorem sc_Condition_holds : FnScope ["self", "around"] ["self", "around"] (defScope st_Condition_holds) := ⟨rfl, rfl, rfl, by decide +kernel, rfl, by decide +kernel, by decide +kernel⟩
def d_Condition_holds : He.DefD := ⟨("Condition", some "holds"), "holds", "Condition.holds", defArgs (inClass (top 1) 0), defBody (inClass (top 1) 0), defScope (inClass (top 1) 0), [], []⟩
abbrev st_Condition_reordered : Stmt := inClass (top 1) 1
theorem sc_Condition_reordered : FnScope ["self", "order"] ["self", "order"] (defScope st_Condition_reordered) := ⟨rfl, rfl, rfl, by decide +kernel, rfl, by decide +kernel, by decide +kernel⟩
def d_Condition_reordered : He.DefD := ⟨("Condition", some "reordered"), "reordered", "Condition.reordered", defArgs (inClass (top 1) 1), defBody (inClass (top 1) 1), defScope (inClass (top 1) 1), [], []⟩
abbrev st_Condition_written : Stmt := inClass (top 1) 2
theorem sc_Condition_written : FnScope ["self"] ["self"] (defScope st_Condition_written) := ⟨rfl, rfl, rfl, by decide +kernel, rfl, by decide +kernel, by decide +kernel⟩
def d_Condition_written : He.DefD := ⟨("Condition", some "written"), "written", "Condition.written", defArgs (inClass (top 1) 2), defBody (inClass (top 1) 2), defScope (inClass (top 1) 2), [], []⟩
abbrev st_Amount_init : Stmt := inClass (top 2) 0
theorem sc_Amount_init : FnScope ["self", "state", "numbers"] ["self", "state", "numbers"] (defScope st_Amount_init) := ⟨rfl, rfl, rfl, by decide +kernel, rfl, by decide +kernel, by decide +kernel⟩
def d_Amount_init : He.DefD := ⟨("Amount", some "__init__"), "__init__", "Amount.__init__", defArgs (inClass (top 2) 0), defBody (inClass (top 2) 0), defScope (inClass (top 2) 0), [], []⟩
abbrev st_Amount_holds : Stmt := inClass (top 2) 1
theorem sc_Amount_holds : FnScope ["self", "around"] ["self", "around"] (defScope st_Amount_holds) := ⟨rfl, rfl, rfl, by decide +kernel, rfl, by decide +kernel, by decide +kernel⟩
def d_Amount_holds : He.DefD := ⟨("Amount", some "holds"), "holds", "Amount.holds", defArgs (inClass (top 2) 1), defBody (inClass (top 2) 1), defScope (inClass (top 2) 1), [], []⟩
abbrev st_Amount_written : Stmt := inClass (top 2) 2
theorem sc_Amount_written : FnScope ["self", "number"] ["self"] (defScope st_Amount_written) := ⟨rfl, rfl, rfl, by decide +kernel, rfl, by decide +kernel, by decide +kernel⟩
def d_Amount_written : He.DefD := ⟨("Amount", some "written"), "written", "Amount.written", defArgs (inClass (top 2) 2), defBody (inClass (top 2) 2), defScope (inClass (top 2) 2), [], []⟩
abbrev st_Places_init : Stmt := inClass (top 3) 0
theorem sc_Places_init : FnScope ["self", "wanted"] ["self", "wanted"] (defScope st_Places_init) := ⟨rfl, rfl, rfl, by decide +kernel, rfl, by decide +kernel, by decide +kernel⟩
def d_Places_init : He.DefD := ⟨("Places", some "__init__"), "__init__", "Places.__init__", defArgs (inClass (top 3) 0), defBody (inClass (top 3) 0), defScope (inClass (top 3) 0), [], []⟩
abbrev st_Places_holds : Stmt := inClass (top 3) 1
theorem sc_Places_holds : FnScope ["self", "around", "wish", "state"] ["self", "around"] (defScope st_Places_holds) := ⟨rfl, rfl, rfl, by decide +kernel, rfl, by decide +kernel, by decide +kernel⟩
def d_Places_holds : He.DefD := ⟨("Places", some "holds"), "holds", "Places.holds", defArgs (inClass (top 3) 1), defBody (inClass (top 3) 1), defScope (inClass (top 3) 1), [], []⟩
abbrev st_Places_reordered : Stmt := inClass (top 3) 2
theorem sc_Places_reordered : FnScope ["self", "order", "at"] ["self", "order"] (defScope st_Places_reordered) := ⟨rfl, rfl, rfl, by decide +kernel, rfl, by decide +kernel, by decide +kernel⟩
def d_Places_reordered : He.DefD := ⟨("Places", some "reordered"), "reordered", "Places.reordered", defArgs (inClass (top 3) 2), defBody (inClass (top 3) 2), defScope (inClass (top 3) 2), [], []⟩
abbrev st_Places_written : Stmt := inClass (top 3) 3
theorem sc_Places_written : FnScope ["self", "wish"] ["self"] (defScope st_Places_written) := ⟨rfl, rfl, rfl, by decide +kernel, rfl, by decide +kernel, by decide +kernel⟩
def d_Places_written : He.DefD := ⟨("Places", some "written"), "written", "Places.written", defArgs (inClass (top 3) 3), defBody (inClass (top 3) 3), defScope (inClass (top 3) 3), [], []⟩
abbrev st_Clause_init : Stmt := inClass (top 4) 0
theorem sc_Clause_init : FnScope ["self", "taken", "conditions", "made"] ["self", "taken", "conditions", "made"] (defScope st_Clause_init) := ⟨rfl, rfl, rfl, by decide +kernel, rfl, by decide +kernel, by decide +kernel⟩
def d_Clause_init : He.DefD := ⟨("Clause", some "__init__"), "__init__", "Clause.__init__", defArgs (inClass (top 4) 0), defBody (inClass (top 4) 0), defScope (inClass (top 4) 0), [], []⟩
abbrev st_Clause_fits : Stmt := inClass (top 4) 1
theorem sc_Clause_fits : FnScope ["self", "cell", "around", "condition"] ["self", "cell", "around"] (defScope st_Clause_fits) := ⟨rfl, rfl, rfl, by decide +kernel, rfl, by decide +kernel, by decide +kernel⟩
def d_Clause_fits : He.DefD := ⟨("Clause", some "fits"), "fits", "Clause.fits", defArgs (inClass (top 4) 1), defBody (inClass (top 4) 1), defScope (inClass (top 4) 1), [], []⟩
abbrev st_Clause_reordered : Stmt := inClass (top 4) 2
theorem sc_Clause_reordered : FnScope ["self", "order", "one"] ["self", "order"] (defScope st_Clause_reordered) := ⟨rfl, rfl, rfl, by decide +kernel, rfl, by decide +kernel, by decide +kernel⟩
def d_Clause_reordered : He.DefD := ⟨("Clause", some "reordered"), "reordered", "Clause.reordered", defArgs (inClass (top 4) 2), defBody (inClass (top 4) 2), defScope (inClass (top 4) 2), [], []⟩
abbrev st_Clause_written : Stmt := inClass (top 4) 3
theorem sc_Clause_written : FnScope ["self", "words", "condition"] ["self"] (defScope st_Clause_written) := ⟨rfl, rfl, rfl, by decide +kernel, rfl, by decide +kernel, by decide +kernel⟩
def d_Clause_written : He.DefD := ⟨("Clause", some "written"), "written", "Clause.written", defArgs (inClass (top 4) 3), defBody (inClass (top 4) 3), defScope (inClass (top 4) 3), [], []⟩
abbrev st_written_state : Stmt := top 5
theorem sc_written_state : FnScope ["state"] ["state"] (defScope st_written_state) := ⟨rfl, rfl, rfl, by decide +kernel, rfl, by decide +kernel, by decide +kernel⟩
def d_written_state : He.DefD := ⟨("written_state", none), "written_state", "written_state", defArgs (top 5), defBody (top 5), defScope (top 5), [], []⟩
abbrev st_Rule_init : Stmt := inClass (top 15) 0
theorem sc_Rule_init : FnScope ["self", "clauses"] ["self", "clauses"] (defScope st_Rule_init) := ⟨rfl, rfl, rfl, by decide +kernel, rfl, by decide +kernel, by decide +kernel⟩
def d_Rule_init : He.DefD := ⟨("Rule", some "__init__"), "__init__", "Rule.__init__", defArgs (inClass (top 15) 0), defBody (inClass (top 15) 0), defScope (inClass (top 15) 0), [], []⟩
abbrev st_deciding : Stmt := top 16
theorem sc_deciding : FnScope ["rule", "cell", "around", "at", "clause"] ["rule", "cell", "around"] (defScope st_deciding) := ⟨rfl, rfl, rfl, by decide +kernel, rfl, by decide +kernel, by decide +kernel⟩
def d_deciding : He.DefD := ⟨("deciding", none), "deciding", "deciding", defArgs (top 16), defBody (top 16), defScope (top 16), [], []⟩
abbrev st_becomes : Stmt := top 17
theorem sc_becomes : FnScope ["rule", "cell", "around", "at"] ["rule", "cell", "around"] (defScope st_becomes) := ⟨rfl, rfl, rfl, by decide +kernel, rfl, by decide +kernel, by decide +kernel⟩
def d_becomes : He.DefD := ⟨("becomes", none), "becomes", "becomes", defArgs (top 17), defBody (top 17), defScope (top 17), [], []⟩
abbrev st_read_state : Stmt := top 18
theorem sc_read_state : FnScope ["word"] ["word"] (defScope st_read_state) := ⟨rfl, rfl, rfl, by decide +kernel, rfl, by decide +kernel, by decide +kernel⟩
def d_read_state : He.DefD := ⟨("read_state", none), "read_state", "read_state", defArgs (top 18), defBody (top 18), defScope (top 18), [], []⟩
abbrev st_read_wish : Stmt := top 19
theorem sc_read_wish : FnScope ["word"] ["word"] (defScope st_read_wish) := ⟨rfl, rfl, rfl, by decide +kernel, rfl, by decide +kernel, by decide +kernel⟩
def d_read_wish : He.DefD := ⟨("read_wish", none), "read_wish", "read_wish", defArgs (top 19), defBody (top 19), defScope (top 19), [], []⟩
abbrev st_read_numbers : Stmt := top 20
theorem sc_read_numbers : FnScope ["word", "numbers", "sign", "number"] ["word"] (defScope st_read_numbers) := ⟨rfl, rfl, rfl, by decide +kernel, rfl, by decide +kernel, by decide +kernel⟩
def d_read_numbers : He.DefD := ⟨("read_numbers", none), "read_numbers", "read_numbers", defArgs (top 20), defBody (top 20), defScope (top 20), [], []⟩
abbrev st_read_condition : Stmt := top 21
theorem sc_read_condition : FnScope ["word", "sign"] ["word"] (defScope st_read_condition) := ⟨rfl, rfl, rfl, by decide +kernel, rfl, by decide +kernel, by decide +kernel⟩
def d_read_condition : He.DefD := ⟨("read_condition", none), "read_condition", "read_condition", defArgs (top 21), defBody (top 21), defScope (top 21), [], []⟩
abbrev st_read_clause : Stmt := top 22
theorem sc_read_clause : FnScope ["part", "words", "conditions", "word"] ["part"] (defScope st_read_clause) := ⟨rfl, rfl, rfl, by decide +kernel, rfl, by decide +kernel, by decide +kernel⟩
def d_read_clause : He.DefD := ⟨("read_clause", none), "read_clause", "read_clause", defArgs (top 22), defBody (top 22), defScope (top 22), [], []⟩
abbrev st_read_rule : Stmt := top 23
theorem sc_read_rule : FnScope ["text", "clauses", "rule", "part"] ["text"] (defScope st_read_rule) := ⟨rfl, rfl, rfl, by decide +kernel, rfl, by decide +kernel, by decide +kernel⟩
def d_read_rule : He.DefD := ⟨("read_rule", none), "read_rule", "read_rule", defArgs (top 23), defBody (top 23), defScope (top 23), [], []⟩
abbrev st_shown_rule : Stmt := top 24
theorem sc_shown_rule : FnScope ["rule", "clause"] ["rule"] (defScope st_shown_rule) := ⟨rfl, rfl, rfl, by decide +kernel, rfl, by decide +kernel, by decide +kernel⟩
def d_shown_rule : He.DefD := ⟨("shown_rule", none), "shown_rule", "shown_rule", defArgs (top 24), defBody (top 24), defScope (top 24), [], []⟩
abbrev st_turned_rule : Stmt := top 25
theorem sc_turned_rule : FnScope ["rule", "clause"] ["rule"] (defScope st_turned_rule) := ⟨rfl, rfl, rfl, by decide +kernel, rfl, by decide +kernel, by decide +kernel⟩
def d_turned_rule : He.DefD := ⟨("turned_rule", none), "turned_rule", "turned_rule", defArgs (top 25), defBody (top 25), defScope (top 25), [], []⟩
abbrev st_mirrored_rule : Stmt := top 26
theorem sc_mirrored_rule : FnScope ["rule", "clause"] ["rule"] (defScope st_mirrored_rule) := ⟨rfl, rfl, rfl, by decide +kernel, rfl, by decide +kernel, by decide +kernel⟩
def d_mirrored_rule : He.DefD := ⟨("mirrored_rule", none), "mirrored_rule", "mirrored_rule", defArgs (top 26), defBody (top 26), defScope (top 26), [], []⟩
abbrev st_w_at : Stmt := top 28
theorem sc_w_at : FnScope ["_law_script", "_law_k"] ["_law_script", "_law_k"] (defScope st_w_at) := ⟨rfl, rfl, rfl, by decide +kernel, rfl, by decide +kernel, by decide +kernel⟩
def d_w_at : He.DefD := ⟨("_law_at", none), "_law_at", "_law_at", defArgs (top 28), defBody (top 28), defScope (top 28), [], []⟩
abbrev st_w_mix : Stmt := top 29
theorem sc_w_mix : FnScope ["_law_cell", "_law_k", "_law_value"] ["_law_cell", "_law_k"] (defScope st_w_mix) := ⟨rfl, rfl, rfl, by decide +kernel, rfl, by decide +kernel, by decide +kernel⟩
def d_w_mix : He.DefD := ⟨("_law_mix", none), "_law_mix", "_law_mix", defArgs (top 29), defBody (top 29), defScope (top 29), [], []⟩
abbrev st_w_state_by : Stmt := top 30
theorem sc_w_state_by : FnScope ["_law_mains", "_law_value"] ["_law_mains", "_law_value"] (defScope st_w_state_by) := ⟨rfl, rfl, rfl, by decide +kernel, rfl, by decide +kernel, by decide +kernel⟩
def d_w_state_by : He.DefD := ⟨("_law_state_by", none), "_law_state_by", "_law_state_by", defArgs (top 30), defBody (top 30), defScope (top 30), [], []⟩
abbrev st_w_condition_by : Stmt := top 31
theorem sc_w_condition_by : FnScope ["_law_mains", "_law_seed", "_law_j", "_law_wanted", "_law_k", "_law_value", "_law_mask"] ["_law_mains", "_law_seed", "_law_j"] (defScope st_w_condition_by) := ⟨rfl, rfl, rfl, by decide +kernel, rfl, by decide +kernel, by decide +kernel⟩
def d_w_condition_by : He.DefD := ⟨("_law_condition_by", none), "_law_condition_by", "_law_condition_by", defArgs (top 31), defBody (top 31), defScope (top 31), [], []⟩
abbrev st_w_clause_by : Stmt := top 32
theorem sc_w_clause_by : FnScope ["_law_mains", "_law_seed", "_law_j", "_law_taken", "_law_conditions", "_law_value", "_law_many", "_law_k"] ["_law_mains", "_law_seed", "_law_j"] (defScope st_w_clause_by) := ⟨rfl, rfl, rfl, by decide +kernel, rfl, by decide +kernel, by decide +kernel⟩
def d_w_clause_by : He.DefD := ⟨("_law_clause_by", none), "_law_clause_by", "_law_clause_by", defArgs (top 32), defBody (top 32), defScope (top 32), [], []⟩
abbrev st_w_holds : Stmt := top 33
theorem sc_w_holds : FnScope ["_law_condition", "_law_around", "_law_k", "_law_many", "_law_state"] ["_law_condition", "_law_around"] (defScope st_w_holds) := ⟨rfl, rfl, rfl, by decide +kernel, rfl, by decide +kernel, by decide +kernel⟩
def d_w_holds : He.DefD := ⟨("_law_holds", none), "_law_holds", "_law_holds", defArgs (top 33), defBody (top 33), defScope (top 33), [], []⟩
abbrev st_w_decides : Stmt := top 34
theorem sc_w_decides : FnScope ["_law_clauses", "_law_cell", "_law_around", "_law_at_here", "_law_fits", "_law_condition"] ["_law_clauses", "_law_cell", "_law_around"] (defScope st_w_decides) := ⟨rfl, rfl, rfl, by decide +kernel, rfl, by decide +kernel, by decide +kernel⟩
def d_w_decides : He.DefD := ⟨("_law_decides", none), "_law_decides", "_law_decides", defArgs (top 34), defBody (top 34), defScope (top 34), [], []⟩
abbrev st_w_becomes : Stmt := top 35
theorem sc_w_becomes : FnScope ["_law_clauses", "_law_cell", "_law_around", "_law_at_here"] ["_law_clauses", "_law_cell", "_law_around"] (defScope st_w_becomes) := ⟨rfl, rfl, rfl, by decide +kernel, rfl, by decide +kernel, by decide +kernel⟩
def d_w_becomes : He.DefD := ⟨("_law_becomes", none), "_law_becomes", "_law_becomes", defArgs (top 35), defBody (top 35), defScope (top 35), [], []⟩
abbrev st_w_clauses_by : Stmt := top 36
theorem sc_w_clauses_by : FnScope ["_law_script", "_law_first", "_law_many", "_law_mains", "_law_clauses", "_law_k"] ["_law_script", "_law_first", "_law_many"] (defScope st_w_clauses_by) := ⟨rfl, rfl, rfl, by decide +kernel, rfl, by decide +kernel, by decide +kernel⟩
def d_w_clauses_by : He.DefD := ⟨("_law_clauses_by", none), "_law_clauses_by", "_law_clauses_by", defArgs (top 36), defBody (top 36), defScope (top 36), [], []⟩
abbrev st_w_word : Stmt := top 37
theorem sc_w_word : FnScope ["_law_condition", "_law_state", "_law_k"] ["_law_condition"] (defScope st_w_word) := ⟨rfl, rfl, rfl, by decide +kernel, rfl, by decide +kernel, by decide +kernel⟩
def d_w_word : He.DefD := ⟨("_law_word", none), "_law_word", "_law_word", defArgs (top 37), defBody (top 37), defScope (top 37), [], []⟩
abbrev st_w_text : Stmt := top 38
theorem sc_w_text : FnScope ["_law_clauses", "_law_parts", "_law_clause", "_law_words", "_law_condition"] ["_law_clauses"] (defScope st_w_text) := ⟨rfl, rfl, rfl, by decide +kernel, rfl, by decide +kernel, by decide +kernel⟩
def d_w_text : He.DefD := ⟨("_law_text", none), "_law_text", "_law_text", defArgs (top 38), defBody (top 38), defScope (top 38), [], []⟩
abbrev st_w_reordered : Stmt := top 39
theorem sc_w_reordered : FnScope ["_law_clauses", "_law_order", "_law_some", "_law_clause", "_law_conditions", "_law_condition", "_law_k"] ["_law_clauses", "_law_order"] (defScope st_w_reordered) := ⟨rfl, rfl, rfl, by decide +kernel, rfl, by decide +kernel, by decide +kernel⟩
def d_w_reordered : He.DefD := ⟨("_law_reordered", none), "_law_reordered", "_law_reordered", defArgs (top 39), defBody (top 39), defScope (top 39), [], []⟩
abbrev st_law : Stmt := top 40
theorem sc_law : FnScope ["_law_script", "_law_many", "_law_clauses", "_law_line", "_law_turned", "_law_mirrored", "_law_rule", "_law_back"] ["_law_script"] (defScope st_law) := ⟨rfl, rfl, rfl, by decide +kernel, rfl, by decide +kernel, by decide +kernel⟩
def d_law : He.DefD := ⟨("law", none), "law", "law", defArgs (top 40), defBody (top 40), defScope (top 40), [], []⟩
abbrev st_Amount_reordered : Stmt := inClass (top 1) 1
theorem sc_Amount_reordered : FnScope ["self", "order"] ["self", "order"] (defScope st_Amount_reordered) := ⟨rfl, rfl, rfl, by decide +kernel, rfl, by decide +kernel, by decide +kernel⟩
def d_Amount_reordered : He.DefD := ⟨("Amount", some "reordered"), "reordered", "Condition.reordered", defArgs (inClass (top 1) 1), defBody (inClass (top 1) 1), defScope (inClass (top 1) 1), [], []⟩
def fn : List He.DefD := [d_Condition_holds, d_Condition_reordered, d_Condition_written, d_Amount_init, d_Amount_holds, d_Amount_written, d_Places_init, d_Places_holds, d_Places_reordered, d_Places_written, d_Clause_init, d_Clause_fits, d_Clause_reordered, d_Clause_written, d_written_state, d_Rule_init, d_deciding, d_becomes, d_read_state, d_read_wish, d_read_numbers, d_read_condition, d_read_clause, d_read_rule, d_shown_rule, d_turned_rule, d_mirrored_rule, d_w_at, d_w_mix, d_w_state_by, d_w_condition_by, d_w_clause_by, d_w_holds, d_w_decides, d_w_becomes, d_w_clauses_by, d_w_word, d_w_text, d_w_reordered, d_law, d_Amount_reordered]
def fa : List He.Fa := [(.free "str"), (.free "zip"), (.mkr "Places"), (.glo "Places"), (.glo "written_state"), (.cls "Places"), (.meth "Places" "holds"), (.cls "Amount"), (.meth "Amount" "holds"), (.mkr "Clause"), (.glo "Clause"), (.meth "Places" "reordered"), (.meth "Amount" "reordered"), (.meth "Places" "written"), (.meth "Amount" "written"), (.free "enumerate"), (.cls "Clause"), (.meth "Clause" "fits"), (.glo "deciding"), (.str "STATES" "01234567"), (.free "len"), (.free "int"), (.glo "read_state"), (.str "NUMBERS" "012345678"), (.mkr "Amount"), (.glo "Amount"), (.glo "read_numbers"), (.glo "read_wish"), (.glo "read_condition"), (.free "isinstance"), (.glo "read_clause"), (.mkr "Rule"), (.glo "Rule"), (.glo "becomes"), (.meth "Clause" "written"), (.meth "Clause" "reordered"), (.glo "TO_THE_LEFT"), (.glo "IN_THE_MIRROR"), (.glo "_law_mix"), (.free "range"), (.glo "_law_state_by"), (.glo "_law_condition_by"), (.glo "_law_holds"), (.glo "_law_decides"), (.glo "_law_at"), (.glo "_law_clause_by"), (.glo "_law_becomes"), (.glo "_law_word"), (.glo "_law_clauses_by"), (.glo "_law_text"), (.glo "_law_reordered"), (.glo "read_rule"), (.glo "shown_rule"), (.glo "turned_rule"), (.glo "mirrored_rule"), (.noat "Amount" "numbers"), (.noat "Amount" "state"), (.noat "Clause" "conditions"), (.noat "Clause" "made"), (.noat "Clause" "taken"), (.noat "Places" "wanted"), (.noat "Rule" "clauses"), (.cls "Rule"), (.glo "law")]
def loose0 : List Str := ["Condition", "Amount", "Places", "Clause", "written_state", "FieldError", "NoRule", "Restless", "STATES", "NUMBERS", "TO_THE_LEFT", "IN_THE_MIRROR", "Rule", "deciding", "becomes", "read_state", "read_wish", "read_numbers", "read_condition", "read_clause", "read_rule", "shown_rule", "turned_rule", "mirrored_rule", "_law_at", "_law_mix", "_law_state_by", "_law_condition_by", "_law_clause_by", "_law_holds"]
def loose1 : List Str := ["_law_decides", "_law_becomes", "_law_clauses_by", "_law_word", "_law_text", "_law_reordered"]
def looseN : List Str := loose0 ++ loose1
end JF

/-! ### readings step by step: a rule for each construct, tried by «walk_at "rd"» -/
namespace JF
open PySem PySem.Spec PyProof.Rows L2
section
variable {D : Ends} {σ : L2.St} {H : Hp} {Q : VK} {QB : Bool → Hp → Prop} {QA : List V → Hp → Prop} {t u : TS} {te ta tb tc : TE} {g : TG} {c c' : TT} {v : V} {i : Nat} {K : PySem.W.Frag}
theorem rd_seq (h : t { D with nx := u D } σ H) : tSeq t u D σ H := h
/-- the walk halts ahead of a loop -/
def Halt (p : Prop) : Prop := p
theorem rd_seqF {wi : TI} (h : Halt (tSeq (tFor wi g t) u D σ H)) : tSeq (tFor wi g t) u D σ H := h
theorem rd_seqW (h : Halt (tSeq (tWhile c t) u D σ H)) : tSeq (tWhile c t) u D σ H := h
theorem rd_seqI {t' : TS} (h : Halt (tSeq (tIfS c t t') u D σ H)) : tSeq (tIfS c t t') u D σ H := h
theorem rd_next (h : D.nx σ H) : tNext D σ H := h
theorem rd_asg (h : te σ H fun x H1 => g x σ H1 D.nx) : tAsg te g D σ H := h
theorem rd_gname {R : L2.St → Hp → Prop} (h : R (σ.set i (some v)) H) : gName i v σ H R := h
theorem rd_ret (h : te σ H D.rt) : tRet te D σ H := h
theorem rd_retN (h : D.rt .non H) : tRetN D σ H := h
theorem rd_drop (h : te σ H fun _ H1 => D.nx σ H1) : tDrop te D σ H := h
theorem rd_if (h : c σ H fun b H1 => if b = true then t D σ H1 else u D σ H1) : tIfS c t u D σ H := h
theorem rd_ifE (h : c σ H fun b H1 => if b = true then ta σ H1 Q else tb σ H1 Q) : tIf c ta tb σ H Q := h
theorem rd_brk (h : D.bk σ H) : tBreak D σ H := h
theorem rd_cont (h : D.ct σ H) : tCont D σ H := h
theorem rd_var (h : σ[i]? = some (some v)) (q : Q v H) : tVar i σ H Q := ⟨v, h, q⟩
theorem rd_c (q : Q v H) : tC v σ H Q := q
theorem rd_op {r : R2} (h : ta σ H fun x H1 => tb σ H1 fun y H2 => r x y H2 Q) : tOp r ta tb σ H Q := h
theorem rd_un {r : V → Hp → VK → Prop} (h : ta σ H fun x H1 => r x H1 Q) : tUn r ta σ H Q := h
theorem rd_I0 {f : Int → Int → V} {a b : Int} (q : Q (f a b) H) : rI0 f (.int a) (.int b) H Q := ⟨a, b, rfl, rfl, q⟩
theorem rd_U {f : Int → V} {a : Int} (q : Q (f a) H) : rU f (.int a) H Q := ⟨a, rfl, q⟩
theorem rd_test (h : te σ H fun x H' => ∃ k, x = .bl k ∧ QB k H') : tTest te σ H QB := h
theorem rd_B (h : te σ H fun x H' => ∃ k, x = .bl k ∧ QB k H') : tB te σ H QB := h
theorem rd_bl {b : Bool} {R : Bool → Prop} (q : R b) : ∃ k, V.bl b = .bl k ∧ R k := ⟨b, rfl, q⟩
theorem iteT' {A B : Prop} (h : A) : if true = true then A else B := iteT h
theorem iteF' {A B : Prop} (h : B) : if false = true then A else B := iteF h
theorem iteNT {A B : Prop} (h : B) : if (!true) = true then A else B := iteF h
theorem iteNF {A B : Prop} (h : A) : if (!false) = true then A else B := iteT h
theorem rd_for {wi : TI} (h : wi σ H fun J H1 => ∃ W : Nat → Nat → L2.St → Hp → Prop, (∃ m, W 0 m σ H1) ∧ ∀ i m σ H, W i m σ H →
  (J.stop i H ∧ D.nx σ H) ∨ (J.go i H ∧ ∃ N : L2.St → Hp → Prop, (∀ σ' H', N σ' H' → ∃ m', m' < m ∧ W (i + 1) m' σ' H') ∧ ∀ x H', J.yld i H x H' → g x σ H' fun σ2 H2 => t { D with nx := N, ct := N, bk := D.nx } σ2 H2)) : tFor wi g t D σ H := h
theorem rd_and (h : c σ H fun b H1 => if b = true then c' σ H1 QB else QB false H1) : tAnd c c' σ H QB := h
theorem rd_or (h : c σ H fun b H1 => if b = true then QB true H1 else c' σ H1 QB) : tOr c c' σ H QB := h
theorem rd_not (h : c σ H fun b H1 => QB (!b) H1) : tNot c σ H QB := h
theorem rd_andV (h : ta σ H fun x H1 => ∃ k, x = .bl k ∧ if k = true then tb σ H1 Q else Q (.bl false) H1) : tAndV ta tb σ H Q := h
theorem rd_orV (h : ta σ H fun x H1 => ∃ k, x = .bl k ∧ if k = true then Q (.bl true) H1 else tb σ H1 Q) : tOrV ta tb σ H Q := h
theorem rd_notV (h : ta σ H fun x H1 => ∃ k, x = .bl k ∧ Q (.bl (!k)) H1) : tNotV ta σ H Q := h
theorem rd_eqI {a b : Int} (q : Q (.bl (decide (a = b))) H) : rEq (.int a) (.int b) H Q := ⟨rfl, by
  have e : decide (V.int a = V.int b) = decide (a = b) := by by_cases z : a = b <;> simp [z]
  rw [e]; exact q⟩
theorem rd_neI {a b : Int} (q : Q (.bl (!decide (a = b))) H) : rNe (.int a) (.int b) H Q := ⟨rfl, by
  have e : decide (V.int a = V.int b) = decide (a = b) := by by_cases z : a = b <;> simp [z]
  rw [e]; exact q⟩
theorem rd_eqS {a b : Str} (q : Q (.bl (decide (a = b))) H) : rEq (.str a) (.str b) H Q := ⟨rfl, by
  have e : decide (V.str a = V.str b) = decide (a = b) := by by_cases z : a = b <;> simp [z]
  rw [e]; exact q⟩
theorem rd_neS {a b : Str} (q : Q (.bl (!decide (a = b))) H) : rNe (.str a) (.str b) H Q := ⟨rfl, by
  have e : decide (V.str a = V.str b) = decide (a = b) := by by_cases z : a = b <;> simp [z]
  rw [e]; exact q⟩
theorem rd_nil (q : QA [] H) : tNil σ H QA := q
theorem rd_cons {tr : TA} (h : ta σ H fun x H1 => tr σ H1 fun xs H2 => QA (x :: xs) H2) : tCons ta tr σ H QA := h
theorem rd_call {sp : Sp} {dvs : List V} {E : XK} {tr : TA} (h : tr σ H fun vs H1 => sp (vs ++ dvs) H1 Q E) : tCall sp dvs E tr σ H Q := h
theorem rd_CB {r : List V → Hp → VK → Prop} {tr : TA} (h : tr σ H fun vs H1 => r vs H1 Q) : tCB r tr σ H Q := h
theorem rd_meth {C : Addr} {m : Str} {sp : Sp} {dvs : List V} {E : XK} {tr : TA} (h : ta σ H fun x H1 => ∃ a dx fs, x = .ref a ∧ H1 a = some (.ins C dx fs) ∧ fs.lookup m = none ∧ tr σ H1 fun vs H2 => sp (x :: (vs ++ dvs)) H2 Q E) : tMeth C m sp dvs E ta tr σ H Q := h
theorem rd_methR {a dx : Addr} {fs : List (Str × V)} {C : Addr} {m : Str} {R : Prop} (h1 : H a = some (.ins C dx fs)) (h2 : fs.lookup m = none) (q : R) : ∃ a' dx fs, V.ref a = .ref a' ∧ H a' = some (.ins C dx fs) ∧ fs.lookup m = none ∧ R := ⟨a, dx, fs, rfl, h1, h2, q⟩
theorem rd_fld {f : Str} (h : ta σ H fun x H1 => ∃ a C dx fs v, x = .ref a ∧ H1 a = some (.ins C dx fs) ∧ Cls K C ∧ NoAttr K C f ∧ fs.lookup f = some v ∧ Q v H1) : tFld K ta f σ H Q := h
theorem rd_fldR {a C dx : Addr} {fs : List (Str × V)} {f : Str} {R : V → Prop} (h1 : H a = some (.ins C dx fs)) (h2 : Cls K C) (h3 : NoAttr K C f) (h4 : fs.lookup f = some v) (q : R v) : ∃ a' C dx fs v, V.ref a = .ref a' ∧ H a' = some (.ins C dx fs) ∧ Cls K C ∧ NoAttr K C f ∧ fs.lookup f = some v ∧ R v := ⟨a, C, dx, fs, v, rfl, h1, h2, h3, h4, q⟩
theorem rd_chain {r r' : R2} (h : ta σ H fun x H1 => tb σ H1 fun y H2 => r x y H2 fun z H3 => ∃ k, z = .bl k ∧ (if k = true then tc σ H3 fun w' H4 => r' y w' H4 Q else Q (.bl false) H3)) : tChain r r' ta tb tc σ H Q := h
theorem rd_tup {tr : TA} (h : tr σ H fun xs H1 => xs.length ≤ sizeLine ∧ ∀ p, H1 p = none → Q (.ref p) (upd H1 p (.tup xs))) : tTup tr σ H Q := h
theorem rd_lst {tr : TA} (h : tr σ H fun xs H1 => xs.length ≤ sizeLine ∧ ∀ p, H1 p = none → Q (.ref p) (upd H1 p (.lst xs))) : tLst tr σ H Q := h
theorem rd_new {n : Nat} {R : Addr → Prop} (hn : n ≤ sizeLine := by (first | (show _ ≤ sizeLine; decide) | omega)) (h : ∀ p, H p = none → R p) : n ≤ sizeLine ∧ ∀ p, H p = none → R p := ⟨hn, h⟩
theorem rd_bm {T : String} {r : V → List V → Hp → VK → Prop} {tr : TA} (h : ta σ H fun x H1 => tyV K T x H1 ∧ tr σ H1 fun xs H2 => r x xs H2 Q) : tBM K T r ta tr σ H Q := h
theorem rd_bm0 {T : String} {r : V → List V → Hp → VK → Prop} (h : ta σ H fun x H1 => tyV K T x H1 ∧ r x [] H1 Q) : tBM0 K T r ta σ H Q := h
theorem rd_ixL {p : Addr} {xs : List V} {k : Int} (h1 : SqL K H p xs) (h2 : atI xs k = some v) (q : Q v H) : rIxL K (.ref p) (.int k) H Q := ⟨p, xs, k, v, rfl, rfl, h1, h2, q⟩
theorem rd_ixT {p : Addr} {xs : List V} {k : Int} (h1 : SqT K H p xs) (h2 : atI xs k = some v) (q : Q v H) : rIxT K (.ref p) (.int k) H Q := ⟨p, xs, k, v, rfl, rfl, h1, h2, q⟩
theorem rd_tyL {l : Addr} {xs : List V} {R : Prop} (h1 : H l = some (.lst xs)) (q : R) : tyV K "list" (.ref l) H ∧ R := ⟨Or.inl ⟨rfl, _, Or.inl (Or.inl h1)⟩, q⟩
theorem rd_append {l : Addr} {xs : List V} {y : V} (h1 : H l = some (.lst xs)) (h2 : xs.length < sizeLine) (q : Q .non (upd H l (.lst (xs ++ [y])))) : rAppend (.ref l) [y] H Q :=
  ⟨l, xs, y, rfl, rfl, h1, h2, q⟩
theorem rd_dget {td ty : TE} (h : td σ H fun x H1 => ty σ H1 fun y H2 => ∃ a v, x = .ref a ∧ DGet H2 a y (some v) ∧ Q v H2) : tDGet td ty σ H Q := h
theorem rd_din {td ty : TE} (h : ty σ H fun y H1 => td σ H1 fun x H2 => ∃ a o, x = .ref a ∧ DGet H2 a y o ∧ Q (.bl o.isSome) H2) : tDIn ty td σ H Q := h
theorem rd_dput {td ty tv : TE} (h : tv σ H fun v H1 => td σ H1 fun x H2 => ty σ H2 fun y H3 => ∃ a H4, x = .ref a ∧ DPut H3 a y v H4 ∧ D.nx σ H4) : sDPut td ty tv D σ H := h
theorem rd_2I {a b : Int} {R : Int → Int → Prop} (h : R a b) : ∃ i j, [V.int a, V.int b] = [V.int i, V.int j] ∧ R i j := ⟨a, b, rfl, h⟩
theorem rd_I {C : Int → Int → Prop} {f : Int → Int → V} {a b : Int} (hc : C a b) (q : Q (f a b) H) : rI C f (.int a) (.int b) H Q := ⟨a, b, rfl, rfl, hc, q⟩
theorem rd_mod {f : Int → Int → V} {a b : Int} (hc : 0 < b) (q : Q (f a b) H) : rI (fun _ j => 0 < j) f (.int a) (.int b) H Q := ⟨a, b, rfl, rfl, hc, q⟩
theorem rd_fdiv {f : Int → Int → V} {a b : Int} (h1 : 0 < b) (h2 : b < 2 ^ 100) (q : Q (f a b) H) : rI CDivW f (.int a) (.int b) H Q :=
  ⟨a, b, rfl, rfl, wide_div h1 (b := 100) (by have h3 : (b.natAbs : Int) = b := by omega
                                              have h4 : (b.natAbs : Int) < ((2 ^ 100 : Nat) : Int) := by rw [h3]; exact h2
                                              exact Int.ofNat_lt.mp h4) (by decide) (by decide), q⟩
theorem mulW_of {a b : Int} (h1 : -(2 ^ 2000) < a) (h2 : a < 2 ^ 2000) (h3 : -(2 ^ 2000) < b) (h4 : b < 2 ^ 2000) : CMulW a b := by
  have e : ∀ x : Int, -(2 ^ 2000) < x → x < 2 ^ 2000 → x.natAbs < 2 ^ 2000 := fun x p q => by
    have e1 : ((2 ^ 2000 : Nat) : Int) = (2 : Int) ^ 2000 := by norm_cast
    have h : (x.natAbs : Int) < ((2 ^ 2000 : Nat) : Int) := by rw [e1]; omega
    exact Int.ofNat_lt.mp h
  exact wide_mul (e a h1 h2) (e b h3 h4) (by decide) (by decide) (by decide)
theorem rd_nn {R : Prop} (h : R) : V.non = V.non ∧ R := ⟨rfl, h⟩
theorem rd_len {p : Addr} {ys : List V} {R : List V → Prop} (h : SqL K H p ys) (q : R ys) : ∃ p' ys, [V.ref p] = [V.ref p'] ∧ (SqL K H p' ys ∨ SqT K H p' ys) ∧ R ys := ⟨p, ys, rfl, .inl h, q⟩
theorem rd_lenT {p : Addr} {ys : List V} {R : List V → Prop} (h : SqT K H p ys) (q : R ys) : ∃ p' ys, [V.ref p] = [V.ref p'] ∧ (SqL K H p' ys ∨ SqT K H p' ys) ∧ R ys := ⟨p, ys, rfl, .inr h, q⟩
theorem rd_iE {tr : TA} {R : It → Hp → Prop} (h : tr σ H fun vs H1 => ∃ a xs, vs = [.ref a] ∧ SqL K H1 a xs ∧ R (Ite K a) H1) : iEnum K tr σ H R := h
theorem rd_iL {R : It → Hp → Prop} (h : te σ H fun x H1 => ∃ a, x = .ref a ∧ (∃ xs, SqL K H1 a xs) ∧ R (Itl K a) H1) : iList K te σ H R := h
theorem rd_iT {R : It → Hp → Prop} (h : te σ H fun x H1 => ∃ a, x = .ref a ∧ (∃ xs, SqT K H1 a xs) ∧ R (Itt K a) H1) : iTup K te σ H R := h
theorem rd_iR1 {tr : TA} {R : It → Hp → Prop} (h : tr σ H fun vs H1 => ∃ j : Int, vs = [.int j] ∧ -(2 ^ 62) ≤ j ∧ j < 2 ^ 62 ∧ R (Itr 0 j.toNat) H1) : iRng1 tr σ H R := h
theorem rd_iR2 {tr : TA} {R : It → Hp → Prop} (h : tr σ H fun vs H1 => ∃ i j : Int, vs = [.int i, .int j] ∧ (-(2 ^ 62) ≤ i ∧ i < 2 ^ 62 ∧ -(2 ^ 62) ≤ j ∧ j < 2 ^ 62) ∧ R (Itr i (j - i).toNat) H1) : iRng2 tr σ H R := h
theorem rd_iR3 {tr : TA} {R : It → Hp → Prop} (h : tr σ H fun vs H1 => ∃ (i j c : Int) (n : Nat), vs = [.int i, .int j, .int c] ∧ RgC i j c n ∧ R (Itc i c n) H1) : iRng3 tr σ H R := h
theorem rd_iS {R : It → Hp → Prop} (h : te σ H fun v H1 => ∃ x, v = .str x ∧ R (Its x) H1) : iStr te σ H R := h
theorem rd_iZ {tr : TA} {R : It → Hp → Prop} (h : tr σ H fun vs H1 => ∃ a b xs ys, vs = [.ref a, .ref b] ∧ SqL K H1 a xs ∧ SqL K H1 b ys ∧ R (Itz K a b) H1) : iZip K tr σ H R := h
theorem rd_sl {r : V → Option Int → Option Int → Hp → VK → Prop} {tl th : TO} (h : te σ H fun x H1 => tl σ H1 fun l H2 => th σ H2 fun u H3 => r x l u H3 Q) : tSl r te tl th σ H Q := h
theorem rd_np {R : Option Int → Hp → Prop} (h : R none H) : tNoPart σ H R := h
theorem rd_pt {R : Option Int → Hp → Prop} (h : te σ H fun x H1 => ∃ i, x = .int i ∧ R (some i) H1) : tPart te σ H R := h
theorem rd_int {a : Int} {R : Int → Prop} (h : R a) : ∃ i, V.int a = .int i ∧ R i := ⟨a, rfl, h⟩
theorem rd_gtup {n : Nat} {tt : TGs} {a : Addr} {xs : List V} {R : L2.St → Hp → Prop} (h1 : SqT K H a xs) (h2 : xs.length = n) (q : tt xs σ H R) : gTup K n tt (.ref a) σ H R := ⟨a, xs, rfl, h1, h2, q⟩
theorem rd_gcons {tt : TGs} {r : List V} {R : L2.St → Hp → Prop} (q : g v σ H fun σ' H' => tt r σ' H' R) : gCons g tt (v :: r) σ H R := ⟨v, r, rfl, q⟩
theorem rd_gsub {to ti : TE} {ts : TSet} {R : L2.St → Hp → Prop} (h : to σ H fun o H1 => ti σ H1 fun i H2 => ts o i v H2 fun H3 => R σ H3) : gSub to ti ts v σ H R := h
theorem rd_gnil {R : L2.St → Hp → Prop} (q : R σ H) : gNil [] σ H R := ⟨rfl, q⟩
theorem rd_lc {wi : TI} {vs : List Nat} (h : wi σ H fun J H1 => ∀ D, H1 D = none → ∃ W : Nat → Nat → Hp → Prop, (∃ m, W 0 m (upd H1 D (.lst []))) ∧ ∀ i m H, W i m H →
  (J.stop i H ∧ Q (.ref D) H) ∨ (J.go i H ∧ ∃ Nx : Hp → Prop, (∀ H', Nx H' → ∃ m', m' < m ∧ W (i + 1) m' H') ∧ ∀ x H', J.yld i H x H' → g x (wipe σ vs) H' fun σ2 H2 => wipe σ2 vs = wipe σ vs ∧ c σ2 H2 fun b H3 =>
    if b = true then te σ2 H3 fun y H4 => ∃ acc, H4 D = some (.lst acc) ∧ acc.length < sizeLine ∧ Nx (upd H4 D (.lst (acc ++ [y]))) else Nx H3)) : tLc wi g c te vs σ H Q := h
theorem rd_yes (h : QB true H) : tYes σ H QB := h
theorem rd_dsetd {td ty tx : TE} (h : td σ H fun x H1 => ∃ a, x = .ref a ∧ IsD H1 a ∧ ty σ H1 fun y H2 => tx σ H2 fun z H3 => ∃ (kvs : List (Key × V)) (k : Key), H3 a = some (.dK kvs) ∧ y = kV k ∧ kvs.length < sizeLine ∧
  (∀ v, valV kvs k = some v → Q v H3) ∧ (valV kvs k = none → Q z (upd H3 a (.dK (putK kvs k z))))) : tDSetd td ty tx σ H Q := h
theorem rd_isD {a : Addr} {kvs : List (Key × V)} {R : Addr → Prop} (h : H a = some (.dK kvs)) (q : R a) : ∃ b, V.ref a = .ref b ∧ IsD H b ∧ R b := ⟨a, rfl, .inl ⟨kvs, .inl h⟩, q⟩
theorem rd_fldS {ta tv : TE} {f : Str} (h : tv σ H fun y H1 => ta σ H1 fun x H2 => ∃ a C dx fs, x = .ref a ∧ H2 a = some (.ins C dx fs) ∧ Cls K C ∧ NoAttr K C f ∧ fs.length < 1000 ∧ D.nx σ (upd H2 a (.ins C dx (putF f y fs)))) : sFld K ta tv f D σ H := h
theorem rd_newK {R : Addr → Prop} (h : ∀ p, H p = none → R p) : ∀ p, H p = none → R p := h
theorem dp_ints {ns : List Int} : DpAll K H (ns.map V.int) (ns.map PyData.int) := by
  induction ns with
  | nil => exact .nil
  | cons n r ih => exact .cons (.int n) ih
theorem rd_eqDI {p p' : Addr} {ns ms : List Int} (h1 : SqL K H p (ns.map V.int)) (h2 : SqL K H p' (ms.map V.int)) (s1 : SeqAt.shaped (.list (ns.map PyData.int)) = true) (s2 : SeqAt.shaped (.list (ms.map PyData.int)) = true)
    (q : Q (.bl (PyData.eqv (.list (ns.map PyData.int)) (.list (ms.map PyData.int)))) H) : rEqD K (.ref p) (.ref p') H Q := ⟨_, _, .lst h1 dp_ints, .lst h2 dp_ints, s1, s2, q⟩
theorem rd_neDI {p p' : Addr} {ns ms : List Int} (h1 : SqL K H p (ns.map V.int)) (h2 : SqL K H p' (ms.map V.int)) (s1 : SeqAt.shaped (.list (ns.map PyData.int)) = true) (s2 : SeqAt.shaped (.list (ms.map PyData.int)) = true)
    (q : Q (.bl (!PyData.eqv (.list (ns.map PyData.int)) (.list (ms.map PyData.int)))) H) : rNeD K (.ref p) (.ref p') H Q := ⟨_, _, .lst h1 dp_ints, .lst h2 dp_ints, s1, s2, q⟩
theorem rd_rep {l : Addr} {k : Int} {xs : List V} (h1 : H l = some (.lst xs)) (h2 : -(2 ^ 63) ≤ k) (h3 : k < 2 ^ 63) (h4 : xs.length * k.toNat ≤ sizeLine) (q : ∀ p, H p = none → Q (.ref p) (upd H p (.lst (List.replicate k.toNat xs).flatten))) : rRep (.ref l) (.int k) H Q :=
  ⟨l, k, xs, rfl, rfl, h1, h2, h3, h4, q⟩
theorem ite_d {p : Prop} [Decidable p] {A B : Prop} (h1 : p → A) (h2 : ¬ p → B) : if decide p = true then A else B := by
  by_cases h : p
  · rw [decide_eq_true h, if_pos rfl]; exact h1 h
  · rw [decide_eq_false h, if_neg Bool.false_ne_true]; exact h2 h
theorem ite_nd {p : Prop} [Decidable p] {A B : Prop} (h1 : ¬ p → A) (h2 : p → B) : if (!decide p) = true then A else B := by
  by_cases h : p
  · rw [decide_eq_true h]; exact iteF (h2 h)
  · rw [decide_eq_false h]; exact iteT (h1 h)
theorem ite_b {b : Bool} {A B : Prop} (h1 : b = true → A) (h2 : b = false → B) : if b = true then A else B := by
  cases b
  · exact iteF (h2 rfl)
  · exact iteT (h1 rfl)
theorem ite_nb {b : Bool} {A B : Prop} (h1 : b = false → A) (h2 : b = true → B) : if (!b) = true then A else B := by
  cases b
  · exact iteT (h1 rfl)
  · exact iteF (h2 rfl)
end
end JF

local macro_rules | `(tactic| walk_at "rs1") => `(tactic| first
  | with_reducible refine JF.rd_seq ?_ | with_reducible refine JF.rd_asg ?_ | with_reducible refine JF.rd_gname ?_
  | with_reducible refine JF.rd_var rfl ?_ | with_reducible refine JF.rd_c ?_ | with_reducible refine JF.rd_op ?_ | with_reducible refine JF.rd_I0 ?_
  | with_reducible refine JF.rd_if ?_ | with_reducible refine JF.rd_test ?_ | with_reducible refine JF.rd_bl ?_
  | with_reducible refine JF.rd_eqI ?_ | with_reducible refine JF.rd_neI ?_ | with_reducible refine JF.rd_eqS ?_ | with_reducible refine JF.rd_neS ?_
  | with_reducible refine JF.rd_cons ?_ | with_reducible refine JF.rd_nil ?_ | with_reducible refine JF.rd_call ?_ | with_reducible refine JF.rd_meth ?_ | with_reducible refine JF.rd_fld ?_ | with_reducible refine JF.rd_CB ?_
  | with_reducible refine JF.rd_ret ?_ | with_reducible refine JF.rd_drop ?_ | with_reducible refine JF.rd_next ?_ | with_reducible refine JF.rd_and ?_ | with_reducible refine JF.rd_or ?_ | with_reducible refine JF.rd_not ?_
  | with_reducible refine JF.rd_andV ?_ | with_reducible refine JF.rd_orV ?_ | with_reducible refine JF.rd_notV ?_ | with_reducible refine JF.rd_B ?_ | with_reducible refine JF.rd_un ?_ | with_reducible refine JF.rd_U ?_
  | with_reducible refine JF.rd_chain ?_ | with_reducible refine JF.rd_tup ?_ | with_reducible refine JF.rd_lst ?_ | with_reducible refine JF.rd_bm ?_ | with_reducible refine JF.rd_bm0 ?_
  | with_reducible refine JF.rd_dget ?_ | with_reducible refine JF.rd_din ?_ | with_reducible refine JF.rd_dput ?_ | with_reducible refine JF.rd_ifE ?_ | with_reducible refine JF.rd_retN ?_ | with_reducible refine JF.rd_brk ?_ | with_reducible refine JF.rd_cont ?_
  | with_reducible refine JF.iteT' ?_ | with_reducible refine JF.iteF' ?_ | with_reducible refine JF.iteNT ?_ | with_reducible refine JF.iteNF ?_ | ((with_reducible refine' JF.rd_fldR ?h1 ?h2 ?h3 ?h4 ?q); (case h1 => assumption); (case h2 => assumption); (case h3 => assumption); (case h4 => exact rfl))
  | with_reducible refine JF.rd_dsetd ?_ | with_reducible refine JF.rd_fldS ?_
  | with_reducible refine JF.rd_yes ?_ | with_reducible refine JF.rd_iE ?_ | with_reducible refine JF.rd_iL ?_ | with_reducible refine JF.rd_iT ?_ | with_reducible refine JF.rd_iR1 ?_ | with_reducible refine JF.rd_iR2 ?_ | with_reducible refine JF.rd_iR3 ?_ | with_reducible refine JF.rd_iS ?_ | with_reducible refine JF.rd_iZ ?_ | with_reducible refine JF.rd_sl ?_ | with_reducible refine JF.rd_np ?_ | with_reducible refine JF.rd_pt ?_ | with_reducible refine JF.rd_int ?_
  | ((with_reducible refine' JF.rd_gtup ?h1 ?h2 ?q); (case h1 => exact L2.SqT.of (by assumption)); (case h2 => exact rfl)) | with_reducible refine JF.rd_gcons ?_ | with_reducible refine JF.rd_gnil ?_ | with_reducible refine JF.rd_gsub ?_
  | with_reducible refine JF.rd_2I ?_ | ((with_reducible refine' JF.rd_ixT ?h1 ?h2 ?q); (case h1 => exact L2.SqT.of (by assumption)); (case h2 => exact rfl)) | ((with_reducible refine JF.rd_mod ?_ ?_); · decide) | ((with_reducible refine JF.rd_fdiv ?h1 ?h2 ?_); (case h1 => decide); (case h2 => decide)) | with_reducible refine JF.rd_nn ?_)
local macro_rules | `(tactic| walk_at "rd1") => `(tactic| first | walk_at "rs1" | with_reducible refine JF.rd_for ?_ | with_reducible refine JF.rd_lc ?_)
local macro_rules | `(tactic| walk_at "rh") => `(tactic| repeat (first | with_reducible refine JF.rd_seqF ?_ | with_reducible refine JF.rd_seqW ?_ | walk_at "rs1"))
local macro_rules | `(tactic| walk_at "rhi") => `(tactic| repeat (first | with_reducible refine JF.rd_seqF ?_ | with_reducible refine JF.rd_seqW ?_ | with_reducible refine JF.rd_seqI ?_ | walk_at "rs1"))
local macro_rules | `(tactic| walk_at "rs") => `(tactic| repeat walk_at "rs1")
local macro_rules | `(tactic| walk_at "rd") => `(tactic| repeat walk_at "rd1")
local macro_rules | `(tactic| walk_at "ne") => `(tactic| first | assumption | (apply Ne.symm; assumption))
local macro_rules | `(tactic| walk_at "hp") => `(tactic| first | assumption | exact L2.upd_same | ((with_reducible refine (L2.upd_ne ?h1).trans ?h2); (case h1 => walk_at "ne"); (case h2 => walk_at "hp")))

/-! ### readings are monotone in what is wanted; a cut between two statements -/
namespace JF
open PySem PySem.Spec PyProof.Rows L2
def MonE (t : TE) : Prop := ∀ σ H (Q Q' : VK), (∀ v H, Q v H → Q' v H) → t σ H Q → t σ H Q'
def MonT (t : TT) : Prop := ∀ σ H (Q Q' : Bool → Hp → Prop), (∀ v H, Q v H → Q' v H) → t σ H Q → t σ H Q'
def MonA (t : TA) : Prop := ∀ σ H (Q Q' : List V → Hp → Prop), (∀ v H, Q v H → Q' v H) → t σ H Q → t σ H Q'
def MonO (t : TO) : Prop := ∀ σ H (Q Q' : Option Int → Hp → Prop), (∀ v H, Q v H → Q' v H) → t σ H Q → t σ H Q'
def MonR (r : R2) : Prop := ∀ x y H (Q Q' : VK), (∀ v H, Q v H → Q' v H) → r x y H Q → r x y H Q'
def MonU (r : V → Hp → VK → Prop) : Prop := ∀ x H (Q Q' : VK), (∀ v H, Q v H → Q' v H) → r x H Q → r x H Q'
def MonC (r : List V → Hp → VK → Prop) : Prop := ∀ x H (Q Q' : VK), (∀ v H, Q v H → Q' v H) → r x H Q → r x H Q'
def MonM (r : V → List V → Hp → VK → Prop) : Prop := ∀ x y H (Q Q' : VK), (∀ v H, Q v H → Q' v H) → r x y H Q → r x y H Q'
def MonL (r : V → Option Int → Option Int → Hp → VK → Prop) : Prop := ∀ x y z H (Q Q' : VK), (∀ v H, Q v H → Q' v H) → r x y z H Q → r x y z H Q'
def MonG (g : TG) : Prop := ∀ v σ H (Q Q' : L2.St → Hp → Prop), (∀ σ H, Q σ H → Q' σ H) → g v σ H Q → g v σ H Q'
def MonGs (g : TGs) : Prop := ∀ v σ H (Q Q' : L2.St → Hp → Prop), (∀ σ H, Q σ H → Q' σ H) → g v σ H Q → g v σ H Q'
def MonI (t : TI) : Prop := ∀ σ H (Q Q' : It → Hp → Prop), (∀ v H, Q v H → Q' v H) → t σ H Q → t σ H Q'
def MonP (sp : Sp) : Prop := ∀ vs H (Q Q' : VK) E, (∀ v H, Q v H → Q' v H) → sp vs H Q E → sp vs H Q' E
def EndsLe (D D' : Ends) : Prop := (∀ σ H, D.nx σ H → D'.nx σ H) ∧ (∀ v H, D.rt v H → D'.rt v H) ∧ (∀ σ H, D.bk σ H → D'.bk σ H) ∧ (∀ σ H, D.ct σ H → D'.ct σ H)
def MonS (t : TS) : Prop := ∀ D D' σ H, EndsLe D D' → t D σ H → t D' σ H
section
variable {t u : TS} {te ta tb tc : TE} {c c' : TT} {g : TG} {gs : TGs} {tr : TA} {r r' : R2} {wi : TI}
/-- THE CUT: P holds between both -/
theorem rd_cut {D : Ends} {σ : L2.St} {H : Hp} (P : L2.St → Hp → Prop) (m : MonS t) (h1 : t { D with nx := P } σ H) (h2 : ∀ σ H, P σ H → u D σ H) : tSeq t u D σ H :=
  m { D with nx := P } { D with nx := u D } σ H ⟨h2, fun _ _ h => h, fun _ _ h => h, fun _ _ h => h⟩ h1
theorem rd_cutE {σ : L2.St} {H : Hp} {Q : VK} (P : VK) (m : MonE te) (h1 : te σ H P) (h2 : ∀ v H, P v H → Q v H) : te σ H Q := m _ _ _ _ h2 h1
theorem me_var {i : Nat} : MonE (tVar i) := fun σ H Q Q' h ⟨v, e, q⟩ => ⟨v, e, h _ _ q⟩
theorem me_c {v : V} : MonE (tC v) := fun σ H Q Q' h q => h _ _ q
theorem me_op (m : MonR r) (a : MonE ta) (b : MonE tb) : MonE (tOp r ta tb) := fun σ H Q Q' h q => a _ _ _ _ (fun _ _ z => b _ _ _ _ (fun _ _ z' => m _ _ _ _ _ h z') z) q
theorem me_un {r : V → Hp → VK → Prop} (m : MonU r) (a : MonE ta) : MonE (tUn r ta) := fun σ H Q Q' h q => a _ _ _ _ (fun _ _ z => m _ _ _ _ h z) q
theorem me_fld {K : PySem.W.Frag} {f : Str} (a : MonE ta) : MonE (tFld K ta f) := fun σ H Q Q' h q => a _ _ _ _ (fun _ _ ⟨x, C, dx, fs, v, e1, e2, e3, e4, e5, z⟩ => ⟨x, C, dx, fs, v, e1, e2, e3, e4, e5, h _ _ z⟩) q
theorem me_tup (a : MonA tr) : MonE (tTup tr) := fun σ H Q Q' h q => a _ _ _ _ (fun _ _ ⟨l, z⟩ => ⟨l, fun p hp => h _ _ (z p hp)⟩) q
theorem me_lst (a : MonA tr) : MonE (tLst tr) := fun σ H Q Q' h q => a _ _ _ _ (fun _ _ ⟨l, z⟩ => ⟨l, fun p hp => h _ _ (z p hp)⟩) q
theorem me_call {sp : Sp} {dvs : List V} {E : XK} (m : MonP sp) (a : MonA tr) : MonE (tCall sp dvs E tr) := fun σ H Q Q' h q => a _ _ _ _ (fun _ _ z => m _ _ _ _ _ h z) q
theorem me_meth {C : Addr} {n : Str} {sp : Sp} {dvs : List V} {E : XK} (m : MonP sp) (a : MonE ta) (b : MonA tr) : MonE (tMeth C n sp dvs E ta tr) := fun σ H Q Q' h q => a _ _ _ _ (fun _ _ ⟨x, dx, fs, e1, e2, e3, z⟩ => ⟨x, dx, fs, e1, e2, e3, b _ _ _ _ (fun _ _ y => m _ _ _ _ _ h y) z⟩) q
theorem me_cb {r : List V → Hp → VK → Prop} (m : MonC r) (a : MonA tr) : MonE (tCB r tr) := fun σ H Q Q' h q => a _ _ _ _ (fun _ _ z => m _ _ _ _ h z) q
theorem me_bm {K : PySem.W.Frag} {T : String} {r : V → List V → Hp → VK → Prop} (m : MonM r) (a : MonE ta) (b : MonA tr) : MonE (tBM K T r ta tr) := fun σ H Q Q' h q => a _ _ _ _ (fun _ _ ⟨y, z⟩ => ⟨y, b _ _ _ _ (fun _ _ z' => m _ _ _ _ _ h z') z⟩) q
theorem me_bm0 {K : PySem.W.Frag} {T : String} {r : V → List V → Hp → VK → Prop} (m : MonM r) (a : MonE ta) : MonE (tBM0 K T r ta) := fun σ H Q Q' h q => a _ _ _ _ (fun _ _ ⟨y, z⟩ => ⟨y, m _ _ _ _ _ h z⟩) q
theorem me_andV (a : MonE ta) (b : MonE tb) : MonE (tAndV ta tb) := fun σ H Q Q' h q => a _ _ _ _ (fun _ _ ⟨k, e, z⟩ => ⟨k, e, by cases k; exact h _ _ z; exact b _ _ _ _ h z⟩) q
theorem me_orV (a : MonE ta) (b : MonE tb) : MonE (tOrV ta tb) := fun σ H Q Q' h q => a _ _ _ _ (fun _ _ ⟨k, e, z⟩ => ⟨k, e, by cases k; exact b _ _ _ _ h z; exact h _ _ z⟩) q
theorem me_notV (a : MonE ta) : MonE (tNotV ta) := fun σ H Q Q' h q => a _ _ _ _ (fun _ _ ⟨k, e, z⟩ => ⟨k, e, h _ _ z⟩) q
theorem me_if (m : MonT c) (a : MonE ta) (b : MonE tb) : MonE (tIf c ta tb) := fun σ H Q Q' h q => m _ _ _ _ (fun k _ z => by cases k; exact b _ _ _ _ h z; exact a _ _ _ _ h z) q
theorem me_chain (m : MonR r) (m' : MonR r') (a : MonE ta) (b : MonE tb) (d : MonE tc) : MonE (tChain r r' ta tb tc) := fun σ H Q Q' h q =>
  a _ _ _ _ (fun _ _ z => b _ _ _ _ (fun _ _ z' => m _ _ _ _ _ (fun _ _ ⟨k, e, y⟩ => ⟨k, e, by cases k; exact h _ _ y; exact d _ _ _ _ (fun _ _ y' => m' _ _ _ _ _ h y') y⟩) z') z) q
theorem me_sl {rl : V → Option Int → Option Int → Hp → VK → Prop} {tl th : TO} (m : MonL rl) (a : MonE te) (b : MonO tl) (d : MonO th) : MonE (tSl rl te tl th) := fun σ H Q Q' h q => a _ _ _ _ (fun _ _ z => b _ _ _ _ (fun _ _ z => d _ _ _ _ (fun _ _ z => m _ _ _ _ _ _ h z) z) z) q
theorem me_dget {td ty : TE} (a : MonE td) (b : MonE ty) : MonE (tDGet td ty) := fun σ H Q Q' h q => a _ _ _ _ (fun _ _ z => b _ _ _ _ (fun _ _ ⟨x, v, e1, e2, z⟩ => ⟨x, v, e1, e2, h _ _ z⟩) z) q
theorem me_dget2 {td ty tx : TE} (a : MonE td) (b : MonE ty) (d : MonE tx) : MonE (tDGet2 td ty tx) := fun σ H Q Q' h q => a _ _ _ _ (fun _ _ ⟨x, e1, e2, z⟩ => ⟨x, e1, e2, b _ _ _ _ (fun _ _ z => d _ _ _ _ (fun _ _ ⟨o, e3, z⟩ => ⟨o, e3, h _ _ z⟩) z) z⟩) q
theorem me_din {td ty : TE} (a : MonE td) (b : MonE ty) : MonE (tDIn ty td) := fun σ H Q Q' h q => b _ _ _ _ (fun _ _ z => a _ _ _ _ (fun _ _ ⟨x, v, e1, e2, z⟩ => ⟨x, v, e1, e2, h _ _ z⟩) z) q
theorem me_dnotin {td ty : TE} (a : MonE td) (b : MonE ty) : MonE (tDNotIn ty td) := fun σ H Q Q' h q => b _ _ _ _ (fun _ _ z => a _ _ _ _ (fun _ _ ⟨x, v, e1, e2, z⟩ => ⟨x, v, e1, e2, h _ _ z⟩) z) q
theorem me_dsetd {td ty tx : TE} (a : MonE td) (b : MonE ty) (d : MonE tx) : MonE (tDSetd td ty tx) := fun σ H Q Q' h q =>
  a _ _ _ _ (fun _ _ ⟨x, e1, e2, z⟩ => ⟨x, e1, e2, b _ _ _ _ (fun _ _ z => d _ _ _ _ (fun _ _ ⟨kvs, k, e3, e4, e5, z1, z2⟩ => ⟨kvs, k, e3, e4, e5, fun v hv => h _ _ (z1 v hv), fun hv => h _ _ (z2 hv)⟩) z) z⟩) q
theorem mt_test' (a : MonE te) : MonT (tTest te) := fun σ H Q Q' h q => a _ _ _ _ (fun _ _ ⟨k, e, z⟩ => ⟨k, e, h _ _ z⟩) q
theorem mt_B (a : MonE te) : MonT (tB te) := fun σ H Q Q' h q => a _ _ _ _ (fun _ _ ⟨k, e, z⟩ => ⟨k, e, h _ _ z⟩) q
theorem mt_and (a : MonT c) (b : MonT c') : MonT (tAnd c c') := fun σ H Q Q' h q => a _ _ _ _ (fun k _ z => by cases k; exact h _ _ z; exact b _ _ _ _ h z) q
theorem mt_or (a : MonT c) (b : MonT c') : MonT (tOr c c') := fun σ H Q Q' h q => a _ _ _ _ (fun k _ z => by cases k; exact b _ _ _ _ h z; exact h _ _ z) q
theorem mt_not (a : MonT c) : MonT (tNot c) := fun σ H Q Q' h q => a _ _ _ _ (fun k _ z => h _ _ z) q
theorem ma_nil : MonA tNil := fun σ H Q Q' h q => h _ _ q
theorem ma_cons (a : MonE ta) (b : MonA tr) : MonA (tCons ta tr) := fun σ H Q Q' h q => a _ _ _ _ (fun _ _ z => b _ _ _ _ (fun _ _ y => h _ _ y) z) q
theorem mo_none : MonO tNoPart := fun σ H Q Q' h q => h _ _ q
theorem mo_some (a : MonE te) : MonO (tPart te) := fun σ H Q Q' h q => a _ _ _ _ (fun _ _ ⟨i, e, z⟩ => ⟨i, e, h _ _ z⟩) q
theorem mr_I0 {f : Int → Int → V} : MonR (rI0 f) := fun x y H Q Q' h ⟨i, j, a, b, q⟩ => ⟨i, j, a, b, h _ _ q⟩
theorem mr_I {C : Int → Int → Prop} {f : Int → Int → V} : MonR (rI C f) := fun x y H Q Q' h ⟨i, j, a, b, d, q⟩ => ⟨i, j, a, b, d, h _ _ q⟩
theorem mr_eq : MonR rEq := fun x y H Q Q' h ⟨a, q⟩ => ⟨a, h _ _ q⟩
theorem mr_ne : MonR rNe := fun x y H Q Q' h ⟨a, q⟩ => ⟨a, h _ _ q⟩
theorem mr_ixL {K : PySem.W.Frag} : MonR (rIxL K) := fun x y H Q Q' h ⟨p, xs, i, v, a, b, c, d, q⟩ => ⟨p, xs, i, v, a, b, c, d, h _ _ q⟩
theorem mr_ixT {K : PySem.W.Frag} : MonR (rIxT K) := fun x y H Q Q' h ⟨p, xs, i, v, a, b, c, d, q⟩ => ⟨p, xs, i, v, a, b, c, d, h _ _ q⟩
theorem mr_ixS : MonR rIxS := fun x y H Q Q' h ⟨p, xs, i, a, b, c, d, q⟩ => ⟨p, xs, i, a, b, c, d, h _ _ q⟩
theorem mr_cat : MonR rCat := fun x y H Q Q' h ⟨l, b, xs, zs, e1, e2, e3, e4, e5, q⟩ => ⟨l, b, xs, zs, e1, e2, e3, e4, e5, fun p hp => h _ _ (q p hp)⟩
theorem mr_in {K : PySem.W.Frag} {neg : Bool} : MonR (rIn K neg) := fun x y H Q Q' h ⟨p, xs, e1, e2, e3, e4, q⟩ => ⟨p, xs, e1, e2, e3, e4, h _ _ q⟩
theorem mr_isN : MonR (fun x y H Q => y = V.non ∧ Q (.bl (decide (x = .non))) H) := fun x y H Q Q' h ⟨a, q⟩ => ⟨a, h _ _ q⟩
theorem mr_notN : MonR (fun x y H Q => y = V.non ∧ Q (.bl (!decide (x = .non))) H) := fun x y H Q Q' h ⟨a, q⟩ => ⟨a, h _ _ q⟩
theorem mu_U {f : Int → V} : MonU (rU f) := fun x H Q Q' h ⟨i, a, q⟩ => ⟨i, a, h _ _ q⟩
theorem mc_len {K : PySem.W.Frag} : MonC (rLenS K) := fun x H Q Q' h ⟨p, ys, a, b, q⟩ => ⟨p, ys, a, b, h _ _ q⟩
theorem mc_isi {K : PySem.W.Frag} : MonC (rIsi K) := fun x H Q Q' h ⟨x', c, t, u, b, a1, a2, a3, a4, q⟩ => ⟨x', c, t, u, b, a1, a2, a3, a4, h _ _ q⟩
theorem mm_append : MonM rAppend := fun x y H Q Q' h ⟨l, xs, z, a, b, c, d, q⟩ => ⟨l, xs, z, a, b, c, d, h _ _ q⟩
theorem mg_name {i : Nat} : MonG (gName i) := fun v σ H Q Q' h q => h _ _ q
theorem mg_tup {K : PySem.W.Frag} {n : Nat} (m : MonGs gs) : MonG (gTup K n gs) := fun v σ H Q Q' h ⟨a, xs, e1, e2, e3, q⟩ => ⟨a, xs, e1, e2, e3, m _ _ _ _ _ h q⟩
theorem mgs_nil : MonGs gNil := fun v σ H Q Q' h ⟨e, q⟩ => ⟨e, h _ _ q⟩
theorem mgs_cons (a : MonG g) (b : MonGs gs) : MonGs (gCons g gs) := fun v σ H Q Q' h ⟨x, r, e, q⟩ => ⟨x, r, e, a _ _ _ _ _ (fun _ _ z => b _ _ _ _ _ h z) q⟩
theorem mi_L {K : PySem.W.Frag} (a : MonE te) : MonI (iList K te) := fun σ H Q Q' h q => a _ _ _ _ (fun _ _ ⟨x, e1, e2, z⟩ => ⟨x, e1, e2, h _ _ z⟩) q
theorem mi_T {K : PySem.W.Frag} (a : MonE te) : MonI (iTup K te) := fun σ H Q Q' h q => a _ _ _ _ (fun _ _ ⟨x, e1, e2, z⟩ => ⟨x, e1, e2, h _ _ z⟩) q
theorem mi_R1 (a : MonA tr) : MonI (iRng1 tr) := fun σ H Q Q' h q => a _ _ _ _ (fun _ _ ⟨j, e1, e2, e3, z⟩ => ⟨j, e1, e2, e3, h _ _ z⟩) q
theorem mi_R2 (a : MonA tr) : MonI (iRng2 tr) := fun σ H Q Q' h q => a _ _ _ _ (fun _ _ ⟨i, j, e1, e2, z⟩ => ⟨i, j, e1, e2, h _ _ z⟩) q
theorem mi_R3 (a : MonA tr) : MonI (iRng3 tr) := fun σ H Q Q' h q => a _ _ _ _ (fun _ _ ⟨i, j, c, n, e1, e2, z⟩ => ⟨i, j, c, n, e1, e2, h _ _ z⟩) q
theorem mi_E {K : PySem.W.Frag} (a : MonA tr) : MonI (iEnum K tr) := fun σ H Q Q' h q => a _ _ _ _ (fun _ _ ⟨x, xs, e1, e2, z⟩ => ⟨x, xs, e1, e2, h _ _ z⟩) q
theorem mi_S (a : MonE te) : MonI (iStr te) := fun σ H Q Q' h q => a _ _ _ _ (fun _ _ ⟨x, e1, z⟩ => ⟨x, e1, h _ _ z⟩) q
theorem mi_Z {K : PySem.W.Frag} (a : MonA tr) : MonI (iZip K tr) := fun σ H Q Q' h q => a _ _ _ _ (fun _ _ ⟨x, y, xs, ys, e1, e2, e3, z⟩ => ⟨x, y, xs, ys, e1, e2, e3, h _ _ z⟩) q
theorem EndsLe.seq {D D' : Ends} (h : EndsLe D D') {P P' : L2.St → Hp → Prop} (hp : ∀ σ H, P σ H → P' σ H) : EndsLe { D with nx := P } { D' with nx := P' } := ⟨hp, h.2.1, h.2.2.1, h.2.2.2⟩
theorem ms_next : MonS tNext := fun D D' σ H h q => h.1 _ _ q
theorem ms_seq (a : MonS t) (b : MonS u) : MonS (tSeq t u) := fun D D' σ H h q => a _ _ _ _ (h.seq fun _ _ z => b _ _ _ _ h z) q
theorem ms_asg (a : MonE te) (b : MonG g) : MonS (tAsg te g) := fun D D' σ H h q => a _ _ _ _ (fun _ _ z => b _ _ _ _ _ h.1 z) q
theorem ms_drop (a : MonE te) : MonS (tDrop te) := fun D D' σ H h q => a _ _ _ _ (fun _ _ z => h.1 _ _ z) q
theorem ms_ret (a : MonE te) : MonS (tRet te) := fun D D' σ H h q => a _ _ _ _ h.2.1 q
theorem ms_retN : MonS tRetN := fun D D' σ H h q => h.2.1 _ _ q
theorem ms_if (a : MonT c) (b : MonS t) (d : MonS u) : MonS (tIfS c t u) := fun D D' σ H h q => a _ _ _ _ (fun k _ z => by cases k; exact d _ _ _ _ h z; exact b _ _ _ _ h z) q
theorem ms_brk : MonS tBreak := fun D D' σ H h q => h.2.2.1 _ _ q
theorem ms_cont : MonS tCont := fun D D' σ H h q => h.2.2.2 _ _ q
theorem ms_never : MonS tNever := fun D D' σ H h q => q
theorem ms_dput {td ty tv : TE} (a : MonE td) (b : MonE ty) (d : MonE tv) : MonS (sDPut td ty tv) := fun D D' σ H h q => d _ _ _ _ (fun _ _ z => a _ _ _ _ (fun _ _ z => b _ _ _ _ (fun _ _ ⟨x, H4, e1, e2, z⟩ => ⟨x, H4, e1, e2, h.1 _ _ z⟩) z) z) q
theorem ms_fldS {K : PySem.W.Frag} {f : Str} (a : MonE ta) (b : MonE tb) : MonS (sFld K ta tb f) := fun D D' σ H h q => b _ _ _ _ (fun _ _ z => a _ _ _ _ (fun _ _ ⟨x, C, dx, fs, e1, e2, e3, e4, e5, z⟩ => ⟨x, C, dx, fs, e1, e2, e3, e4, e5, h.1 _ _ z⟩) z) q
theorem ms_for (a : MonI wi) (b : MonG g) (d : MonS t) : MonS (tFor wi g t) := fun D D' σ H h q =>
  a _ _ _ _ (fun J H1 ⟨W, w0, z⟩ => ⟨W, w0, fun i m σ H hw => by
    rcases z i m σ H hw with ⟨s, y⟩ | ⟨s, N, hN, y⟩
    · exact .inl ⟨s, h.1 _ _ y⟩
    · exact .inr ⟨s, N, hN, fun x H' hy => b _ _ _ _ _ (fun _ _ y' => d { D with nx := N, ct := N, bk := D.nx } { D' with nx := N, ct := N, bk := D'.nx } _ _ ⟨fun _ _ z => z, h.2.1, h.1, fun _ _ z => z⟩ y') (y x H' hy)⟩⟩) q
theorem ms_while (a : MonT c) (b : MonS t) : MonS (tWhile c t) := fun D D' σ H h ⟨W, w0, z⟩ => ⟨W, w0, fun m σ H hw => a _ _ _ _ (fun k H1 y => by
  cases k
  · exact h.1 _ _ y
  · obtain ⟨N, hN, y⟩ := y
    exact ⟨N, hN, b { D with nx := N, ct := N, bk := D.nx } { D' with nx := N, ct := N, bk := D'.nx } _ _ ⟨fun _ _ z => z, h.2.1, h.1, fun _ _ z => z⟩ y⟩) (z m σ H hw)⟩
theorem me_lc {te' : TE} {tt' : TT} {g' : TG} {vs : List Nat} (a : MonI wi) : MonE (tLc wi g' tt' te' vs) := fun σ H Q Q' h q => a _ _ _ _ (fun J H1 z D hD => by
  obtain ⟨W, w0, z⟩ := z D hD
  exact ⟨W, w0, fun i m H hw => (z i m H hw).imp (fun ⟨s, y⟩ => ⟨s, h _ _ y⟩) id⟩) q
theorem me_m1 {rm : V → List V → Hp → VK → Prop} (m : MonM rm) (a : MonE ta) (b : MonE tb) : MonE (tM1 rm ta tb) := fun σ H Q Q' h q => a _ _ _ _ (fun _ _ ⟨e, z⟩ => ⟨e, b _ _ _ _ (fun _ _ z' => m _ _ _ _ _ h z') z⟩) q
theorem mm_split : MonM (fun x xs H Q => ∃ a b, x = .str a ∧ xs = [.str b] ∧ (b.length == 0) = false ∧ a.length + 2 ≤ sizeLine ∧ rNewStrs (Txt.split a b) H Q) := fun x y H Q Q' h ⟨a, b, e1, e2, e3, e4, q⟩ => ⟨a, b, e1, e2, e3, e4, fun p hp => h _ _ (q p hp)⟩
end
end JF

local macro_rules | `(tactic| walk_at "mono1") => `(tactic| first | assumption | (with_reducible apply JF.me_var) | (with_reducible apply JF.me_c) | (with_reducible apply JF.me_op) | (with_reducible apply JF.me_un) | (with_reducible apply JF.me_fld) | (with_reducible apply JF.me_tup) | (with_reducible apply JF.me_lst) | (with_reducible apply JF.me_call) | (with_reducible apply JF.me_meth) | (with_reducible apply JF.me_cb) | (with_reducible apply JF.me_bm) | (with_reducible apply JF.me_bm0) | (with_reducible apply JF.me_andV) | (with_reducible apply JF.me_orV) | (with_reducible apply JF.me_notV) | (with_reducible apply JF.me_if) | (with_reducible apply JF.me_chain) | (with_reducible apply JF.me_sl) | (with_reducible apply JF.me_dget) | (with_reducible apply JF.me_dget2) | (with_reducible apply JF.me_din) | (with_reducible apply JF.me_dnotin) | (with_reducible apply JF.me_dsetd) | (with_reducible apply JF.me_lc) | (with_reducible apply JF.me_m1) | (with_reducible exact JF.mm_split) | (with_reducible apply JF.mt_test') | (with_reducible apply JF.mt_B) | (with_reducible apply JF.mt_and) | (with_reducible apply JF.mt_or) | (with_reducible apply JF.mt_not) | (with_reducible apply JF.ma_nil) | (with_reducible apply JF.ma_cons) | (with_reducible apply JF.mo_none) | (with_reducible apply JF.mo_some) | (with_reducible apply JF.mr_I0) | (with_reducible apply JF.mr_I) | (with_reducible apply JF.mr_eq) | (with_reducible apply JF.mr_ne) | (with_reducible apply JF.mr_ixL) | (with_reducible apply JF.mr_ixT) | (with_reducible apply JF.mr_ixS) | (with_reducible apply JF.mr_cat) | (with_reducible apply JF.mr_in) | (with_reducible apply JF.mr_isN) | (with_reducible apply JF.mr_notN) | (with_reducible apply JF.mu_U) | (with_reducible apply JF.mc_len) | (with_reducible apply JF.mc_isi) | (with_reducible apply JF.mm_append) | (with_reducible apply JF.mg_name) | (with_reducible apply JF.mg_tup) | (with_reducible apply JF.mgs_nil) | (with_reducible apply JF.mgs_cons) | (with_reducible apply JF.mi_L) | (with_reducible apply JF.mi_T) | (with_reducible apply JF.mi_R1) | (with_reducible apply JF.mi_R2) | (with_reducible apply JF.mi_R3) | (with_reducible apply JF.mi_E) | (with_reducible apply JF.mi_S) | (with_reducible apply JF.mi_Z) | (with_reducible apply JF.ms_next) | (with_reducible apply JF.ms_seq) | (with_reducible apply JF.ms_asg) | (with_reducible apply JF.ms_drop) | (with_reducible apply JF.ms_ret) | (with_reducible apply JF.ms_retN) | (with_reducible apply JF.ms_if) | (with_reducible apply JF.ms_brk) | (with_reducible apply JF.ms_cont) | (with_reducible apply JF.ms_never) | (with_reducible apply JF.ms_dput) | (with_reducible apply JF.ms_fldS) | (with_reducible apply JF.ms_for) | (with_reducible apply JF.ms_while))
local macro_rules | `(tactic| walk_at "mono") => `(tactic| repeat' walk_at "mono1")
/-! ### a grove in the heap -/
namespace JF
open PySem PySem.Spec PyProof.Rows L2
theorem nodup_sub_len {α : Type} [DecidableEq α] : ∀ (l m : List α), l.Nodup → (∀ x ∈ l, x ∈ m) → l.length ≤ m.length
  | [], m, _, _ => Nat.zero_le _
  | x :: l, m, h, hs => by
    rw [List.nodup_cons] at h
    have hx : x ∈ m := hs x List.mem_cons_self
    have ih := nodup_sub_len l (m.erase x) h.2 fun y hy => (List.mem_erase_of_ne (fun e => h.1 (by rw [← e]; exact hy))).mpr (hs y (List.mem_cons_of_mem _ hy))
    rw [List.length_erase_of_mem hx] at ih
    have : 0 < m.length := List.length_pos_of_mem hx
    show l.length + 1 ≤ m.length
    omega
theorem states_len {l : List Int} (h : l.Nodup) (hs : ∀ x ∈ l, 0 ≤ x ∧ x ≤ 7) : l.length ≤ 8 :=
  nodup_sub_len l [0, 1, 2, 3, 4, 5, 6, 7] h fun x hx => by
    have := hs x hx
    simp only [List.mem_cons, List.not_mem_nil, or_false]
    omega
structure GA where
  g : Addr
  dx : Addr
  dn : Addr
  dm : Addr
  dl : Addr
  dv : Addr
  ds : Addr
  dp : Addr
def GA.flds (a : GA) : List (Str × V) := [("numbers", .ref a.dn), ("made", .ref a.dm), ("levels", .ref a.dl), ("lives", .ref a.dv), ("spans", .ref a.ds), ("plain", .ref a.dp)]
def GA.m5 (a : GA) : List Addr := [a.dn, a.dm, a.dl, a.dv, a.ds]
def GA.muts (a : GA) (rows : List (Int × Addr)) : List Addr := a.m5 ++ a.dp :: rows.map (·.2)
/-- a span as a value -/
def SpanV (H : Hp) (v : V) : Option Box → Prop
  | none => v = .non
  | some b => ∃ p, v = .ref p ∧ H p = some (.tup [.int b.1, .int b.2.1, .int b.2.2.1, .int b.2.2.2])
theorem SpanV.keep {H H' : Hp} {v : V} {o : Option Box} (h : SpanV H v o) (k : ∀ b xs, H b = some (.tup xs) → H' b = some (.tup xs)) : SpanV H' v o := by
  cases o with
  | none => exact h
  | some b =>
    obtain ⟨p, e, hp⟩ := h
    exact ⟨p, e, k _ _ hp⟩
/-- what the lists of a grove hold -/
structure GData (H : Hp) (a : GA) (q : List Sq) (tups : List Addr) (mk : List (List Int)) (spt : List V) : Prop where
  hn : H a.dn = some (.dT (kvsOf mk 0))
  hm : H a.dm = some (.lst (tups.map V.ref))
  hl : H a.dl = some (.lst (q.map fun S => V.int (S.level : Int)))
  hv : H a.dv = some (.lst (q.map fun S => V.int S.lives))
  hs : H a.ds = some (.lst spt)
  lt : tups.length = q.length
  lm : mk.length = q.length
  ls : spt.length = q.length
  tu : ∀ (i : Nat) t m, tups[i]? = some t → mk[i]? = some m → H t = some (.tup (m.map V.int))
  sp : ∀ (i : Nat) v S, spt[i]? = some v → q[i]? = some S → SpanV H v S.span
  md : ∀ (i : Nat) m S, mk[i]? = some m → q[i]? = some S → Made q S m
structure GAt (C : Addr) (H : Hp) (a : GA) (rows : List (Int × Addr)) (q : List Sq) : Prop where
  ob : H a.g = some (.ins C a.dx a.flds)
  da : ∃ tups mk spt, GData H a q tups mk spt
  wf : ∀ S ∈ q, S.wf
  qn : q.Nodup
  pl : H a.dp = some (.dK (rows.map fun sa => ((Sum.inl sa.1 : Key), V.ref sa.2)))
  nd : (a.g :: a.muts rows).Nodup
  rn : (rows.map (·.1)).Nodup
  rs : ∀ s ∈ rows.map (·.1), 0 ≤ s ∧ s ≤ 7
  ro : ∀ s b, (s, b) ∈ rows → ∃ ns : List Nat, H b = some (.lst (ns.map fun (n : Nat) => V.int (n : Int))) ∧ ∀ (i : Nat) n, ns[i]? = some n → q[n]? = some (Sq.even i s)
/-- all but what stands at these addresses is as it was -/
def Fr (S : List Addr) (H H' : Hp) : Prop := ∀ b o, H b = some o → b ∉ S → H' b = some o
theorem Fr.refl (S : List Addr) (H : Hp) : Fr S H H := fun _ _ h _ => h
theorem Fr.trans {S : List Addr} {H H1 H2 : Hp} (x : Fr S H H1) (y : Fr S H1 H2) : Fr S H H2 := fun b o h n => y b o (x b o h n) n
theorem Fr.mono {S S' : List Addr} {H H' : Hp} (x : Fr S H H') (h : ∀ b ∈ S, b ∈ S') : Fr S' H H' := fun b o e n => x b o e fun z => n (h b z)
theorem fr_of {S : List Addr} {H H' : Hp} (x : Same H H') : Fr S H H' := fun b o e _ => x b o e
def HO.still : HO → Prop
  | .tup _ | .ins _ _ _ | .own _ => True
  | _ => False
/-- a grove stands where its own lists, the tuples and the instances are kept -/
theorem GAt.keep {C : Addr} {H H' : Hp} {a : GA} {rows : List (Int × Addr)} {q : List Sq} (G : GAt C H a rows q) (k : ∀ b o, H b = some o → HO.still o ∨ b ∈ a.muts rows → H' b = some o) : GAt C H' a rows q := by
  obtain ⟨tups, mk, spt, D⟩ := G.da
  have mem : ∀ b, b ∈ a.m5 → b ∈ a.muts rows := fun b h => List.mem_append_left _ h
  refine ⟨k _ _ G.ob (.inl trivial), ⟨tups, mk, spt, k _ _ D.hn (.inr (mem _ (by simp [GA.m5]))), k _ _ D.hm (.inr (mem _ (by simp [GA.m5]))), k _ _ D.hl (.inr (mem _ (by simp [GA.m5]))), k _ _ D.hv (.inr (mem _ (by simp [GA.m5]))), k _ _ D.hs (.inr (mem _ (by simp [GA.m5]))), D.lt, D.lm, D.ls,
    fun i t m h1 h2 => k _ _ (D.tu i t m h1 h2) (.inl trivial), fun i v S h1 h2 => (D.sp i v S h1 h2).keep fun b xs e => k _ _ e (.inl trivial), D.md⟩, G.wf, G.qn, k _ _ G.pl (.inr (by simp [GA.muts])), G.nd, G.rn, G.rs, fun s b h => ?_⟩
  obtain ⟨ns, h1, h2⟩ := G.ro s b h
  refine ⟨ns, k _ _ h1 (.inr ?_), h2⟩
  unfold GA.muts
  exact List.mem_append_right _ (List.mem_cons_of_mem _ (List.mem_map_of_mem (f := fun sa : Int × Addr => sa.2) h))
theorem GAt.same {C : Addr} {H H' : Hp} {a : GA} {rows : List (Int × Addr)} {q : List Sq} (G : GAt C H a rows q) (s : Same H H') : GAt C H' a rows q := G.keep fun b o e _ => s b o e
/-- a new object is laid -/
theorem same_upd {H : Hp} {p : Addr} {o : HO} (h : H p = none) : Same H (upd H p o) := fun b u e => by rw [upd_ne (ne_of_none e h)]; exact e
/-- a list, a dict of the asker's own is changed -/
theorem GAt.upd {C : Addr} {H : Hp} {a : GA} {rows : List (Int × Addr)} {q : List Sq} {p : Addr} {o : HO} (G : GAt C H a rows q) (hp : ∀ u, H p = some u → ¬ HO.still u) (hn : p ∉ a.muts rows) : GAt C (upd H p o) a rows q :=
  G.keep fun b u e h => by
    rw [upd_ne]
    · exact e
    · rintro rfl
      rcases h with h | h
      · exact hp u e h
      · exact hn h
/-- a grove goes on: what was is as it was, squares were added -/
structure GStep (C : Addr) (H : Hp) (a : GA) (rows : List (Int × Addr)) (q : List Sq) (H' : Hp) (rows' : List (Int × Addr)) (q' : List Sq) : Prop where
  gat : GAt C H' a rows' q'
  pre : q <+: q'
  fr : Fr (a.muts rows) H H'
  new : ∀ b ∈ a.muts rows', b ∈ a.muts rows ∨ H b = none
theorem GStep.refl {C : Addr} {H : Hp} {a : GA} {rows : List (Int × Addr)} {q : List Sq} (G : GAt C H a rows q) : GStep C H a rows q H rows q := ⟨G, List.prefix_refl _, Fr.refl _ _, fun _ h => .inl h⟩
theorem GStep.trans {C : Addr} {H H1 H2 : Hp} {a : GA} {rows r1 r2 : List (Int × Addr)} {q q1 q2 : List Sq} (x : GStep C H a rows q H1 r1 q1) (y : GStep C H1 a r1 q1 H2 r2 q2) : GStep C H a rows q H2 r2 q2 := by
  refine ⟨y.gat, x.pre.trans y.pre, fun b o e n => ?_, fun b h => ?_⟩
  · refine y.fr b o (x.fr b o e n) fun z => ?_
    rcases x.new b z with z | z
    · exact n z
    · rw [e] at z; cases z
  · rcases y.new b h with z | z
    · exact x.new b z
    · by_cases hb : b ∈ a.muts rows
      · exact .inl hb
      · right
        cases q : H b with
        | none => rfl
        | some o =>
          rw [x.fr b o q hb] at z
          cases z
/-- the asker's own things are kept, and stay the asker's own -/
theorem GStep.own {C : Addr} {H H1 : Hp} {a : GA} {rows r1 : List (Int × Addr)} {q q1 : List Sq} (x : GStep C H a rows q H1 r1 q1) {b : Addr} {o : HO} (h : H b = some o) (n : b ∉ a.muts rows) : H1 b = some o ∧ b ∉ a.muts r1 :=
  ⟨x.fr b o h n, fun z => (x.new b z).elim n fun z => by rw [h] at z; cases z⟩
theorem pre_get {q q' : List Sq} (h : q <+: q') {n : Nat} {S : Sq} (e : q[n]? = some S) : q'[n]? = some S := by
  obtain ⟨t, rfl⟩ := h
  exact getElem?_app e t
theorem ne_app {H : Hp} {b : Addr} {o : HO} {S : List Addr} (h : H b = some o) (hs : ∀ c ∈ S, ∀ u, H c = some u → o ≠ u) (hn : ∀ c ∈ S, ∃ u, H c = some u) : b ∉ S := fun z => by
  obtain ⟨u, e⟩ := hn b z
  refine hs b z u e ?_
  rw [h] at e
  exact Option.some.inj e
/-- a tuple is none of a grove's own lists -/
theorem GAt.tup_out {C : Addr} {H : Hp} {a : GA} {rows : List (Int × Addr)} {q : List Sq} (G : GAt C H a rows q) {b : Addr} {xs : List V} (h : H b = some (.tup xs)) : b ∉ a.muts rows := by
  obtain ⟨tups, mk, spt, D⟩ := G.da
  intro z
  unfold GA.muts GA.m5 at z
  simp only [List.cons_append, List.nil_append, List.mem_cons, List.mem_map] at z
  rcases z with rfl | rfl | rfl | rfl | rfl | rfl | ⟨sa, hm, rfl⟩
  · rw [D.hn] at h; cases h
  · rw [D.hm] at h; cases h
  · rw [D.hl] at h; cases h
  · rw [D.hv] at h; cases h
  · rw [D.hs] at h; cases h
  · rw [G.pl] at h; cases h
  · obtain ⟨ns, e, _⟩ := G.ro sa.1 sa.2 hm
    rw [e] at h; cases h
/-- what is new is none of them -/
theorem GAt.new_out {C : Addr} {H : Hp} {a : GA} {rows : List (Int × Addr)} {q : List Sq} (G : GAt C H a rows q) {b : Addr} (h : H b = none) : b ∉ a.muts rows := by
  obtain ⟨tups, mk, spt, D⟩ := G.da
  intro z
  unfold GA.muts GA.m5 at z
  simp only [List.cons_append, List.nil_append, List.mem_cons, List.mem_map] at z
  rcases z with rfl | rfl | rfl | rfl | rfl | rfl | ⟨sa, hm, rfl⟩
  · rw [D.hn] at h; cases h
  · rw [D.hm] at h; cases h
  · rw [D.hl] at h; cases h
  · rw [D.hv] at h; cases h
  · rw [D.hs] at h; cases h
  · rw [G.pl] at h; cases h
  · obtain ⟨ns, e, _⟩ := G.ro sa.1 sa.2 hm
    rw [e] at h; cases h
end JF

/-! ### the grove's small defs -/
namespace JF
open PySem PySem.Spec PyProof.Rows L2
section
variable {P : Program} {w : World} {K : PySem.W.Frag} {mg : Str → Option Value} {base : Heap}
/-- is_whole of a whole number, a truth, a text, None -/
def wholeV : V → Bool
  | .int _ => true
  | _ => false
def sp_is_whole : Sp := fun vs H Q _ => ∃ x : V, vs = [x] ∧ ((∃ i, x = .int i) ∨ (∃ b, x = .bl b) ∨ (∃ z, x = .str z) ∨ x = .non) ∧ Q (.bl (wholeV x)) H
theorem isi_ty {H : Hp} {Q : VK} {x : V} {a b : String} {r : Bool} (h : TyX K H x (.type a)) (k : kitB a b = some r) (q : Q (.bl r) H) : rIsi K [x, .ty b] H Q :=
  ⟨x, .ty b, _, _, r, rfl, .ty b, h, kit_ty k, q⟩
/-! ### a state -/
def stateV : V → Bool
  | .int i => decide (0 ≤ i) && decide (i ≤ 7)
  | _ => false
theorem stateV_ok {s : Int} (h0 : 0 ≤ s) (h7 : s ≤ 7) : stateV (.int s) = true := by show (decide (0 ≤ s) && decide (s ≤ 7)) = true; rw [decide_eq_true h0, decide_eq_true h7]; rfl
def sp_is_state : Sp := fun vs H Q _ => ∃ x : V, vs = [x] ∧ ((∃ i, x = .int i) ∨ (∃ b, x = .bl b) ∨ (∃ z, x = .str z) ∨ x = .non) ∧ Q (.bl (stateV x)) H
/-! ### boxes -/
def sp_round_both : Sp := fun vs H Q _ => ∃ (v : V) (o : Option Box) (p : Addr) (b : Box), vs = [v, .ref p] ∧ SpanV H v o ∧ SpanV H (.ref p) (some b) ∧ ∀ H' u, Same H H' → SpanV H' u (some (rb o b)) → Q u H'
theorem min_if (a b : Int) : (if b < a then b else a) = min a b := by rw [Int.min_def]; split <;> split <;> omega
theorem max_if (a b : Int) : (if b > a then b else a) = max a b := by rw [Int.max_def]; split <;> split <;> omega
/-! ### the span of four -/
def acc4 (half : Int) (os : List (Option Box)) : Nat → Option Box
  | 0 => none
  | k + 1 => r4step half (k : Int) (acc4 half os k) (os.getD k none)
def sp_round_four : Sp := fun vs H Q _ => ∃ (p : Addr) (us : List V) (os : List (Option Box)) (half : Int), vs = [.ref p, .int half] ∧ H p = some (.lst us) ∧ us.length = 4 ∧ os.length = 4 ∧ (∀ (i : Nat) v o, us[i]? = some v → os[i]? = some o → SpanV H v o) ∧
  0 ≤ half ∧ half < 2 ^ 64 ∧ ∀ H' u, Same H H' → SpanV H' u (acc4 half os 4) → Q u H'
theorem half_ok {h x : Int} (h0 : 0 ≤ h) (h1 : h < 2 ^ 64) (x0 : 0 ≤ x) (x1 : x < 4) : CMulW h x := by
  have e1 : (2 : Int) ^ 64 ≤ 2 ^ 2000 := by decide +kernel
  have e2 : (4 : Int) ≤ 2 ^ 2000 := by decide +kernel
  exact mulW_of (by omega) (by omega) (by omega) (by omega)
end
end JF

/-! ### the grove's methods: kept, cell, knit -/
namespace JF
open PySem PySem.Spec PyProof.Rows L2
/-- the class stands at -/
abbrev CG (K : PySem.W.Frag) : Addr := He.ga K "Grove"
theorem nd_of {a : GA} {rows : List (Int × Addr)} (h : (a.g :: a.muts rows).Nodup) :
    (a.g ≠ a.dn ∧ a.g ≠ a.dm ∧ a.g ≠ a.dl ∧ a.g ≠ a.dv ∧ a.g ≠ a.ds ∧ a.g ≠ a.dp) ∧ (a.dn ≠ a.dm ∧ a.dn ≠ a.dl ∧ a.dn ≠ a.dv ∧ a.dn ≠ a.ds ∧ a.dn ≠ a.dp) ∧ (a.dm ≠ a.dl ∧ a.dm ≠ a.dv ∧ a.dm ≠ a.ds ∧ a.dm ≠ a.dp) ∧ (a.dl ≠ a.dv ∧ a.dl ≠ a.ds ∧ a.dl ≠ a.dp) ∧ (a.dv ≠ a.ds ∧ a.dv ≠ a.dp) ∧ a.ds ≠ a.dp ∧
      ∀ s b, (s, b) ∈ rows → b ≠ a.g ∧ b ≠ a.dn ∧ b ≠ a.dm ∧ b ≠ a.dl ∧ b ≠ a.dv ∧ b ≠ a.ds ∧ b ≠ a.dp := by
  simp only [GA.muts, GA.m5, List.cons_append, List.nil_append, List.nodup_cons, List.mem_cons, not_or] at h
  obtain ⟨⟨g1, g2, g3, g4, g5, g6, g7⟩, ⟨n1, n2, n3, n4, n5, n6⟩, ⟨m1, m2, m3, m4, m5⟩, ⟨l1, l2, l3, l4⟩, ⟨v1, v2, v3⟩, ⟨s1, s2⟩, p1, _⟩ := h
  refine ⟨⟨g1, g2, g3, g4, g5, g6⟩, ⟨n1, n2, n3, n4, n5⟩, ⟨m1, m2, m3, m4⟩, ⟨l1, l2, l3⟩, ⟨v1, v2⟩, s1, fun s b hb => ?_⟩
  have hm : b ∈ rows.map (·.2) := List.mem_map_of_mem (f := fun sa : Int × Addr => sa.2) hb
  exact ⟨fun z => g7 (z ▸ hm), fun z => n6 (z ▸ hm), fun z => m5 (z ▸ hm), fun z => l4 (z ▸ hm), fun z => v3 (z ▸ hm), fun z => s2 (z ▸ hm), fun z => p1 (z ▸ hm)⟩
theorem inl_kV (m : List Int) : (m.map (Sum.inl : Int → Key)).map kV = m.map V.int := by
  rw [List.map_map]; rfl
theorem snoc_get {α β : Type} {l : List α} {x : α} {l' : List β} {y : β} (hl : l.length = l'.length) {i : Nat} {u : α} {v : β} (h1 : (l ++ [x])[i]? = some u) (h2 : (l' ++ [y])[i]? = some v) : (l[i]? = some u ∧ l'[i]? = some v) ∨ (i = l.length ∧ u = x ∧ v = y) := by
  by_cases h : i < l.length
  · rw [List.getElem?_append_left h] at h1
    rw [List.getElem?_append_left (by omega)] at h2
    exact .inl ⟨h1, h2⟩
  · have hi : i < (l ++ [x]).length := (List.getElem?_eq_some_iff.mp h1).1
    have e : i = l.length := by simp at hi; omega
    subst e
    simp at h1
    rw [hl] at h2
    simp at h2
    exact .inr ⟨rfl, h1.symm, h2.symm⟩
/-- a square that is there stands in the dict by its own number; one that is not there does not -/
theorem look_of {q : List Sq} {mk : List (List Int)} (qn : q.Nodup) (lm : mk.length = q.length) (md : ∀ (i : Nat) m S, mk[i]? = some m → q[i]? = some S → Made q S m) {S : Sq} {m : List Int} (hm : Made q S m) :
    (∀ n, lookI mk m 0 = some n → q[n]? = some S) ∧ (lookI mk m 0 = none → S ∉ q) := by
  constructor
  · intro n h
    obtain ⟨_, h2⟩ := lookI_some h
    simp only [Nat.sub_zero] at h2
    have hn : n < q.length := by rw [← lm]; exact (List.getElem?_eq_some_iff.mp h2).1
    have e : q[n]? = some q[n] := by simp [hn]
    rw [e]
    exact congrArg some (made_same (md n m _ h2 e) hm)
  · intro h hS
    obtain ⟨n, hn, e⟩ := List.mem_iff_getElem.mp hS
    have hn' : n < mk.length := by omega
    have e1 : mk[n]? = some mk[n] := by simp [hn']
    have e2 : q[n]? = some S := by simp [hn, e]
    refine lookI_none h ?_
    rw [made_inj qn hm (md n _ S e1 e2)]
    exact List.getElem_mem hn'
/-- the heap behind kept -/
theorem gat_kept {C : Addr} {H H' : Hp} {a : GA} {rows : List (Int × Addr)} {q : List Sq} {tups : List Addr} {mk : List (List Int)} {spt : List V} {S : Sq} {t : Addr} {m : List Int} {v : V} (G : GAt C H a rows q) (D : GData H a q tups mk spt)
    (ht : H t = some (.tup (m.map V.int))) (hm : Made q S m) (hw : S.wf) (hS : S ∉ q) (hv : SpanV H v S.span)
    (h1 : H' a.dn = some (.dT (kvsOf (mk ++ [m]) 0))) (h2 : H' a.dm = some (.lst ((tups ++ [t]).map V.ref))) (h3 : H' a.dl = some (.lst ((q ++ [S]).map fun S => V.int (S.level : Int)))) (h4 : H' a.dv = some (.lst ((q ++ [S]).map fun S => V.int S.lives))) (h5 : H' a.ds = some (.lst (spt ++ [v])))
    (fr : Fr a.m5 H H') : GAt C H' a rows (q ++ [S]) := by
  obtain ⟨⟨g1, g2, g3, g4, g5, g6⟩, ⟨n1, n2, n3, n4, n5⟩, ⟨m1, m2, m3, m4⟩, ⟨l1, l2, l3⟩, ⟨v1, v2⟩, s1, hr⟩ := nd_of G.nd
  have out : ∀ b xs, H b = some (.tup xs) → H' b = some (.tup xs) := fun b xs e => fr b _ e fun z => G.tup_out e (List.mem_append_left _ z)
  refine ⟨fr _ _ G.ob (by simp [GA.m5, g1, g2, g3, g4, g5]), ⟨tups ++ [t], mk ++ [m], spt ++ [v], h1, h2, h3, h4, h5, by simp [D.lt], by simp [D.lm], by simp [D.ls], fun i t' m' e1 e2 => ?_, fun i v' S' e1 e2 => ?_, fun i m' S' e1 e2 => ?_⟩, fun S' h => ?_, ?_, fr _ _ G.pl (by simp [GA.m5, Ne.symm n5, Ne.symm m4, Ne.symm l3, Ne.symm v2, Ne.symm s1]), G.nd, G.rn, G.rs, fun s b hb => ?_⟩
  · rcases snoc_get (by rw [D.lt, D.lm]) e1 e2 with ⟨e1, e2⟩ | ⟨_, rfl, rfl⟩
    · exact out _ _ (D.tu i t' m' e1 e2)
    · exact out _ _ ht
  · rcases snoc_get D.ls e1 e2 with ⟨e1, e2⟩ | ⟨_, rfl, rfl⟩
    · exact (D.sp i v' S' e1 e2).keep out
    · exact hv.keep out
  · rcases snoc_get D.lm e1 e2 with ⟨e1, e2⟩ | ⟨_, rfl, rfl⟩
    · exact (D.md i m' S' e1 e2).app _
    · exact hm.app _
  · rcases List.mem_append.mp h with h | h
    · exact G.wf S' h
    · simp only [List.mem_singleton] at h; subst h; exact hw
  · rw [List.nodup_append]
    refine ⟨G.qn, by simp, fun x hx y hy e => ?_⟩
    simp only [List.mem_singleton] at hy
    subst hy
    exact hS (e ▸ hx)
  · obtain ⟨ns, e, k⟩ := G.ro s b hb
    obtain ⟨_, b1, b2, b3, b4, b5, _⟩ := hr s b hb
    refine ⟨ns, fr _ _ e (by simp [GA.m5, b1, b2, b3, b4, b5]), fun i n hn => getElem?_app (k i n hn) _⟩
section
variable {P : Program} {w : World} {K : PySem.W.Frag} {mg : Str → Option Value} {base : Heap}
def sp_kept (C : Addr) : Sp := fun vs H Q _ => ∃ (a : GA) (rows : List (Int × Addr)) (q : List Sq) (S : Sq) (t : Addr) (m : List Int) (v : V), vs = [.ref a.g, .ref t, .int (S.level : Int), .int S.lives, v] ∧ GAt C H a rows q ∧ H t = some (.tup (m.map V.int)) ∧ Made q S m ∧ S.wf ∧ S ∉ q ∧ SpanV H v S.span ∧ q.length < 16000000 ∧
  ∀ H', GAt C H' a rows (q ++ [S]) → Fr a.m5 H H' → Q (.int (q.length : Int)) H'
theorem sizeBig : 16000000 < sizeLine := by decide
/-! ### cell and knit -/
theorem take_snoc {α : Type} {l : List α} {i : Nat} {v : α} (h : l[i]? = some v) : l.take (i + 1) = l.take i ++ [v] := by
  rw [List.take_add_one, h]; rfl
def sp_cell (C : Addr) : Sp := fun vs H Q _ => ∃ (a : GA) (rows : List (Int × Addr)) (q : List Sq) (s : Int), vs = [.ref a.g, .int s] ∧ GAt C H a rows q ∧ 0 ≤ s ∧ s ≤ 7 ∧ q.length < 16000000 ∧
  ∀ H' q' (n : Nat), GAt C H' a rows q' → q <+: q' → q'.length ≤ q.length + 1 → q'[n]? = some (.leaf s) → Fr a.m5 H H' → Q (.int (n : Int)) H'
def sp_knit (C : Addr) : Sp := fun vs H Q _ => ∃ (a : GA) (rows : List (Int × Addr)) (q : List Sq) (A B C' D : Sq) (na nb nc nd : Nat), vs = [.ref a.g, .int (na : Int), .int (nb : Int), .int (nc : Int), .int (nd : Int)] ∧ GAt C H a rows q ∧
  q[na]? = some A ∧ q[nb]? = some B ∧ q[nc]? = some C' ∧ q[nd]? = some D ∧ (Sq.node A B C' D).wf ∧ A.level ≤ 60 ∧ q.length < 16000000 ∧
  ∀ H' q' (n : Nat), GAt C H' a rows q' → q <+: q' → q'.length ≤ q.length + 1 → q'[n]? = some (.node A B C' D) → Fr a.m5 H H' → Q (.int (n : Int)) H'
theorem map_get {α β : Type} {l : List α} {n : Nat} {x : α} (f : α → β) (h : l[n]? = some x) : (l.map f)[n]? = some (f x) := by
  rw [List.getElem?_map, h]; rfl
theorem acc4_r4 (half : Int) (a b c d : Option Box) : acc4 half [a, b, c, d] 4 = r4 half a b c d := rfl
theorem mp_kept {C : Addr} : MonP (sp_kept C) := fun vs H Q Q' E h ⟨a, rows, q, S, t, m, v, x1, x2, x3, x4, x5, x6, x7, x8, k⟩ => ⟨a, rows, q, S, t, m, v, x1, x2, x3, x4, x5, x6, x7, x8, fun H' g f => h _ _ (k H' g f)⟩
theorem mp_cell {C : Addr} : MonP (sp_cell C) := fun vs H Q Q' E h ⟨a, rows, q, s, x1, x2, x3, x4, x5, k⟩ => ⟨a, rows, q, s, x1, x2, x3, x4, x5, fun H' q' n g p l e f => h _ _ (k H' q' n g p l e f)⟩
theorem mp_knit {C : Addr} : MonP (sp_knit C) := fun vs H Q Q' E h ⟨a, rows, q, A, B, C', D, na, nb, nc, nd, x1, x2, x3, x4, x5, x6, x7, x8, x9, k⟩ => ⟨a, rows, q, A, B, C', D, na, nb, nc, nd, x1, x2, x3, x4, x5, x6, x7, x8, x9, fun H' q' n g p l e f => h _ _ (k H' q' n g p l e f)⟩
end
end JF

/-! ### the grove's methods: __init__, even -/
namespace JF
open PySem PySem.Spec PyProof.Rows L2
section
variable {P : Program} {w : World} {K : PySem.W.Frag} {mg : Str → Option Value} {base : Heap}
def sp_ginit (C : Addr) : Sp := fun vs H Q _ => ∃ (p dx : Addr), vs = [.ref p] ∧ H p = some (.ins C dx []) ∧ ∀ (a : GA) (H' : Hp), a.g = p → GAt C H' a [] [] → (∀ b ∈ a.muts [], H b = none) → (∀ b o, H b = some o → b ≠ p → H' b = some o) → Q .non H'
end
end JF

/-! ### even, and the asking methods -/
namespace JF
open PySem PySem.Spec PyProof.Rows L2
/-- a row of plain squares grows -/
theorem GAt.row {C : Addr} {H : Hp} {a : GA} {rows : List (Int × Addr)} {q : List Sq} {s : Int} {b : Addr} {ns : List Nat} (G : GAt C H a rows q) (h : (s, b) ∈ rows) (hv : ∀ (i : Nat) n, ns[i]? = some n → q[n]? = some (Sq.even i s)) :
    GAt C (L2.upd H b (.lst (ns.map fun (n : Nat) => V.int (n : Int)))) a rows q := by
  obtain ⟨tups, mk, spt, D⟩ := G.da
  obtain ⟨⟨g1, g2, g3, g4, g5, g6⟩, _, _, _, _, _, hr⟩ := nd_of G.nd
  obtain ⟨r1, r2, r3, r4', r5, r6, r7⟩ := hr s b h
  obtain ⟨ns0, hb0, _⟩ := G.ro s b h
  have out : ∀ c xs, H c = some (.tup xs) → L2.upd H b (.lst (ns.map fun (n : Nat) => V.int (n : Int))) c = some (.tup xs) := fun c xs e => by
    rw [upd_ne (by rintro rfl; rw [hb0] at e; cases e)]; exact e
  refine ⟨by rw [upd_ne r1.symm]; exact G.ob, ⟨tups, mk, spt, by rw [upd_ne r2.symm]; exact D.hn, by rw [upd_ne r3.symm]; exact D.hm, by rw [upd_ne r4'.symm]; exact D.hl, by rw [upd_ne r5.symm]; exact D.hv, by rw [upd_ne r6.symm]; exact D.hs, D.lt, D.lm, D.ls,
    fun i t m h1 h2 => out _ _ (D.tu i t m h1 h2), fun i v S h1 h2 => (D.sp i v S h1 h2).keep out, D.md⟩, G.wf, G.qn, by rw [upd_ne r7.symm]; exact G.pl, G.nd, G.rn, G.rs, fun s' b' h' => ?_⟩
  by_cases e : b' = b
  · subst e
    have hs : s' = s := by
      have nd2 : (rows.map (·.2)).Nodup := by
        have z := (List.nodup_cons.mp G.nd).2
        unfold GA.muts at z
        exact (List.nodup_cons.mp (List.nodup_append.mp z).2.1).2
      obtain ⟨i, hi, e1⟩ := List.mem_iff_getElem.mp h
      obtain ⟨j, hj, e2⟩ := List.mem_iff_getElem.mp h'
      have e3 : i = j := (List.getElem_inj (xs := rows.map (·.2)) (h₀ := by simpa using hi) (h₁ := by simpa using hj) nd2).mp (by simp [e1, e2])
      subst e3
      rw [e1] at e2
      exact (congrArg Prod.fst e2).symm
    subst hs
    exact ⟨ns, upd_same, hv⟩
  · obtain ⟨ns', e1, e2⟩ := G.ro s' b' h'
    exact ⟨ns', by rw [upd_ne e]; exact e1, e2⟩
theorem rows_look {rows : List (Int × Addr)} {s : Int} : (∀ v, valV (rows.map fun sa => ((Sum.inl sa.1 : Key), V.ref sa.2)) (Sum.inl s) = some v → ∃ b, (s, b) ∈ rows ∧ v = .ref b) ∧ (valV (rows.map fun sa => ((Sum.inl sa.1 : Key), V.ref sa.2)) (Sum.inl s) = none → s ∉ rows.map (·.1)) := by
  induction rows with
  | nil => exact ⟨fun v h => (by cases h), fun _ => by simp⟩
  | cons x r ih =>
    by_cases e : x.1 = s
    · constructor
      · intro v h
        have h' : some (V.ref x.2) = some v := by rw [← h]; simp [valV, e]
        exact ⟨x.2, by rw [← e]; exact List.mem_cons_self, (Option.some.inj h').symm⟩
      · intro h
        have h' : valV (((x :: r).map fun sa => ((Sum.inl sa.1 : Key), V.ref sa.2))) (Sum.inl s) = some (V.ref x.2) := by simp [valV, e]
        rw [h'] at h; cases h
    · have e' : ¬ ((Sum.inl x.1 : Key) = Sum.inl s) := fun z => e (Sum.inl.inj z)
      have eq : valV (((x :: r).map fun sa => ((Sum.inl sa.1 : Key), V.ref sa.2))) (Sum.inl s) = valV ((r.map fun sa => ((Sum.inl sa.1 : Key), V.ref sa.2))) (Sum.inl s) := by
        simp [valV, e]
      rw [eq]
      refine ⟨fun v h => ?_, fun h => ?_⟩
      · obtain ⟨b, h1, h2⟩ := ih.1 v h
        exact ⟨b, List.mem_cons_of_mem _ h1, h2⟩
      · simp only [List.map_cons, List.mem_cons, not_or]
        exact ⟨fun z => e z.symm, ih.2 h⟩
/-- a new row -/
theorem GAt.addrow {C : Addr} {H : Hp} {a : GA} {rows : List (Int × Addr)} {q : List Sq} {s : Int} {p : Addr} (G : GAt C H a rows q) (hp : H p = none) (hs : s ∉ rows.map (·.1)) (h0 : 0 ≤ s) (h7 : s ≤ 7) :
    GAt C (L2.upd (L2.upd H p (.lst [])) a.dp (.dK ((rows.map fun sa => ((Sum.inl sa.1 : Key), V.ref sa.2)) ++ [((Sum.inl s : Key), V.ref p)]))) a (rows ++ [(s, p)]) q := by
  have G1 := G.same (same_upd (o := .lst []) hp)
  obtain ⟨tups, mk, spt, D⟩ := G1.da
  obtain ⟨⟨g1, g2, g3, g4, g5, g6⟩, ⟨n1, n2, n3, n4, n5⟩, ⟨m1, m2, m3, m4⟩, ⟨l1, l2, l3⟩, ⟨v1, v2⟩, s1, hr⟩ := nd_of G.nd
  have hdp : ∀ xs, L2.upd H p (.lst []) a.dp ≠ some (.tup xs) := fun xs e => by rw [G1.pl] at e; cases e
  have out : ∀ c xs o, L2.upd H p (.lst []) c = some (.tup xs) → L2.upd (L2.upd H p (.lst [])) a.dp o c = some (.tup xs) := fun c xs o e => by
    rw [upd_ne (by rintro rfl; exact hdp _ e)]; exact e
  refine ⟨by rw [upd_ne g6]; exact G1.ob, ⟨tups, mk, spt, by rw [upd_ne n5]; exact D.hn, by rw [upd_ne m4]; exact D.hm, by rw [upd_ne l3]; exact D.hl, by rw [upd_ne v2]; exact D.hv, by rw [upd_ne s1]; exact D.hs, D.lt, D.lm, D.ls,
    fun i t m h1 h2 => out _ _ _ (D.tu i t m h1 h2), fun i v S h1 h2 => (D.sp i v S h1 h2).keep fun b xs e => out _ _ _ e, D.md⟩, G1.wf, G1.qn, by rw [upd_same, List.map_append]; rfl, ?_, ?_, fun s' h' => ?_, fun s' b' h' => ?_⟩
  · have hout := G.new_out hp
    have hg : a.g ≠ p := ne_of_none G.ob hp
    have z := G.nd
    rw [List.nodup_cons] at z ⊢
    have em : a.muts (rows ++ [(s, p)]) = a.muts rows ++ [p] := by simp [GA.muts]
    rw [em]
    refine ⟨fun h => ?_, ?_⟩
    · rcases List.mem_append.mp h with h | h
      · exact z.1 h
      · simp only [List.mem_singleton] at h; exact hg h
    · rw [List.nodup_append]
      refine ⟨z.2, by simp, fun x hx y hy e => ?_⟩
      simp only [List.mem_singleton] at hy
      subst hy
      exact hout (e ▸ hx)
  · rw [List.map_append, List.nodup_append]
    refine ⟨G.rn, by simp, fun x hx y hy e => ?_⟩
    simp only [List.map_cons, List.map_nil, List.mem_singleton] at hy
    subst hy
    exact hs (e ▸ hx)
  · rw [List.map_append] at h'
    rcases List.mem_append.mp h' with h' | h'
    · exact G.rs s' h'
    · simp only [List.map_cons, List.map_nil, List.mem_singleton] at h'
      subst h'; exact ⟨h0, h7⟩
  · rcases List.mem_append.mp h' with h' | h'
    · obtain ⟨ns, e1, e2⟩ := G1.ro s' b' h'
      obtain ⟨_, _, _, _, _, _, r7⟩ := hr s' b' h'
      exact ⟨ns, by rw [upd_ne r7]; exact e1, e2⟩
    · simp only [List.mem_singleton, Prod.mk.injEq] at h'
      obtain ⟨rfl, rfl⟩ := h'
      have : b' ≠ a.dp := (ne_of_none G.pl hp).symm
      exact ⟨[], by rw [upd_ne this, upd_same]; rfl, fun i n h => by simp at h⟩
theorem fr_muts {a : GA} {rows : List (Int × Addr)} {H H' : Hp} (h : Fr a.m5 H H') : Fr (a.muts rows) H H' := h.mono fun b hb => List.mem_append_left _ hb
theorem row_mem {a : GA} {rows : List (Int × Addr)} {s : Int} {b : Addr} (h : (s, b) ∈ rows) : b ∈ a.muts rows :=
  List.mem_append_right _ (List.mem_cons_of_mem _ (List.mem_map_of_mem (f := fun sa : Int × Addr => sa.2) h))
/-- knit's and cell's way: the rows stay -/
theorem GStep.m5 {C : Addr} {H H1 H2 : Hp} {a : GA} {rows r1 : List (Int × Addr)} {q q1 q2 : List Sq} (x : GStep C H a rows q H1 r1 q1) (G : GAt C H2 a r1 q2) (p : q1 <+: q2) (f : Fr a.m5 H1 H2) : GStep C H a rows q H2 r1 q2 :=
  x.trans ⟨G, p, fr_muts f, fun _ h => .inl h⟩
theorem GStep.row {C : Addr} {H H1 : Hp} {a : GA} {rows r1 : List (Int × Addr)} {q q1 : List Sq} {s : Int} {b : Addr} {ns : List Nat} (x : GStep C H a rows q H1 r1 q1) (h : (s, b) ∈ r1) (hv : ∀ (i : Nat) n, ns[i]? = some n → q1[n]? = some (Sq.even i s)) :
    GStep C H a rows q (L2.upd H1 b (.lst (ns.map fun (n : Nat) => V.int (n : Int)))) r1 q1 :=
  x.trans ⟨x.gat.row h hv, List.prefix_refl _, fun c o e n => by rw [upd_ne (by rintro rfl; exact n (row_mem h))]; exact e, fun _ h => .inl h⟩
theorem GStep.same {C : Addr} {H H1 H2 : Hp} {a : GA} {rows r1 : List (Int × Addr)} {q q1 : List Sq} (x : GStep C H a rows q H1 r1 q1) (s : Same H1 H2) : GStep C H a rows q H2 r1 q1 :=
  x.trans ⟨x.gat.same s, List.prefix_refl _, fr_of s, fun _ h => .inl h⟩
theorem row_not5 {C : Addr} {H : Hp} {a : GA} {rows : List (Int × Addr)} {q : List Sq} {s : Int} {b : Addr} (G : GAt C H a rows q) (h : (s, b) ∈ rows) : b ∉ a.m5 := by
  obtain ⟨_, _, _, _, _, _, hr⟩ := nd_of G.nd
  obtain ⟨r1, r2, r3, r4', r5, r6, r7⟩ := hr s b h
  simp [GA.m5, r2, r3, r4', r5, r6]
theorem map_int_len (ns : List Nat) : (ns.map fun (n : Nat) => V.int (n : Int)).length = ns.length := List.length_map _
section
variable {P : Program} {w : World} {K : PySem.W.Frag} {mg : Str → Option Value} {base : Heap}
def sp_even (C : Addr) : Sp := fun vs H Q _ => ∃ (a : GA) (rows : List (Int × Addr)) (q : List Sq) (l : Nat) (s : Int), vs = [.ref a.g, .int (l : Int), .int s] ∧ GAt C H a rows q ∧ l ≤ 60 ∧ 0 ≤ s ∧ s ≤ 7 ∧ q.length + 100 < 16000000 ∧
  ∀ H' rows' q' (n : Nat), GStep C H a rows q H' rows' q' → q'.length ≤ q.length + l + 1 → q'[n]? = some (Sq.even l s) → Q (.int (n : Int)) H'
end
end JF

/-! ### the asking methods (no refusal) -/
namespace JF
open PySem PySem.Spec PyProof.Rows L2
section
variable {P : Program} {w : World} {K : PySem.W.Frag} {mg : Str → Option Value} {base : Heap}
theorem at_lt {q : List Sq} {n : Nat} {S : Sq} (h : q[n]? = some S) : n < q.length := (List.getElem?_eq_some_iff.mp h).1
def sp_asked (C : Addr) : Sp := fun vs H Q _ => ∃ (a : GA) (rows : List (Int × Addr)) (q : List Sq) (n : Nat) (S : Sq), vs = [.ref a.g, .int (n : Int)] ∧ GAt C H a rows q ∧ q[n]? = some S ∧ q.length ≤ 16000000 ∧ Q (.int (S.level : Int)) H
theorem mp_asked {C : Addr} : MonP (sp_asked C) := fun vs H Q Q' E h ⟨a, rows, q, n, S, x1, x2, x3, x4, k⟩ => ⟨a, rows, q, n, S, x1, x2, x3, x4, h _ _ k⟩
/-- what asks one square, and tells a value: the level and so on -/
def sp_level_of (C : Addr) : Sp := sp_asked C
def sp_living (C : Addr) : Sp := fun vs H Q _ => ∃ (a : GA) (rows : List (Int × Addr)) (q : List Sq) (n : Nat) (S : Sq), vs = [.ref a.g, .int (n : Int)] ∧ GAt C H a rows q ∧ q[n]? = some S ∧ q.length ≤ 16000000 ∧ Q (.int S.lives) H
theorem mp_living {C : Addr} : MonP (sp_living C) := fun vs H Q Q' E h ⟨a, rows, q, n, S, x1, x2, x3, x4, k⟩ => ⟨a, rows, q, n, S, x1, x2, x3, x4, h _ _ k⟩
def sp_span (C : Addr) : Sp := fun vs H Q _ => ∃ (a : GA) (rows : List (Int × Addr)) (q : List Sq) (n : Nat) (S : Sq), vs = [.ref a.g, .int (n : Int)] ∧ GAt C H a rows q ∧ q[n]? = some S ∧ q.length ≤ 16000000 ∧ ∀ v, SpanV H v S.span → Q v H
theorem mp_span {C : Addr} : MonP (sp_span C) := fun vs H Q Q' E h ⟨a, rows, q, n, S, x1, x2, x3, x4, k⟩ => ⟨a, rows, q, n, S, x1, x2, x3, x4, fun v hv => h _ _ (k v hv)⟩
/-- the quarters, as the tuple that stands there -/
def sp_quarters (C : Addr) : Sp := fun vs H Q _ => ∃ (a : GA) (rows : List (Int × Addr)) (q : List Sq) (n : Nat) (A B C' D : Sq), vs = [.ref a.g, .int (n : Int)] ∧ GAt C H a rows q ∧ q[n]? = some (.node A B C' D) ∧ q.length ≤ 16000000 ∧
  ∀ (t : Addr) (x y z u : Nat), H t = some (.tup [.int (x : Int), .int (y : Int), .int (z : Int), .int (u : Int)]) → q[x]? = some A → q[y]? = some B → q[z]? = some C' → q[u]? = some D → Q (.ref t) H
theorem mp_quarters {C : Addr} : MonP (sp_quarters C) := fun vs H Q Q' E h ⟨a, rows, q, n, A, B, C', D, x1, x2, x3, x4, k⟩ => ⟨a, rows, q, n, A, B, C', D, x1, x2, x3, x4, fun t x y z u e1 e2 e3 e4 e5 => h _ _ (k t x y z u e1 e2 e3 e4 e5)⟩
def sp_state_of (C : Addr) : Sp := fun vs H Q _ => ∃ (a : GA) (rows : List (Int × Addr)) (q : List Sq) (n : Nat) (s : Int), vs = [.ref a.g, .int (n : Int)] ∧ GAt C H a rows q ∧ q[n]? = some (.leaf s) ∧ q.length ≤ 16000000 ∧ Q (.int s) H
theorem mp_state_of {C : Addr} : MonP (sp_state_of C) := fun vs H Q Q' E h ⟨a, rows, q, n, S, x1, x2, x3, x4, k⟩ => ⟨a, rows, q, n, S, x1, x2, x3, x4, h _ _ k⟩
def sp_leaf (C : Addr) : Sp := sp_cell C
def sp_solid (C : Addr) : Sp := fun vs H Q _ => ∃ (a : GA) (rows : List (Int × Addr)) (q : List Sq) (l : Nat) (s : Int), vs = [.ref a.g, .int (l : Int), .int s] ∧ GAt C H a rows q ∧ l ≤ 48 ∧ 0 ≤ s ∧ s ≤ 7 ∧ q.length + 100 < 16000000 ∧
  ∀ H' rows' q' (n : Nat), GStep C H a rows q H' rows' q' → q'.length ≤ q.length + l + 1 → q'[n]? = some (Sq.even l s) → Q (.int (n : Int)) H'
theorem mp_even {C : Addr} : MonP (sp_even C) := fun vs H Q Q' E h ⟨a, rows, q, l, s, x1, x2, x3, x4, x5, x6, k⟩ => ⟨a, rows, q, l, s, x1, x2, x3, x4, x5, x6, fun H' r' q' n g p l => h _ _ (k H' r' q' n g p l)⟩
theorem mp_solid {C : Addr} : MonP (sp_solid C) := fun vs H Q Q' E h ⟨a, rows, q, l, s, x1, x2, x3, x4, x5, x6, k⟩ => ⟨a, rows, q, l, s, x1, x2, x3, x4, x5, x6, fun H' r' q' n g p l => h _ _ (k H' r' q' n g p l)⟩
/-- four are joined -/
def sp_joined (C : Addr) : Sp := fun vs H Q _ => ∃ (a : GA) (rows : List (Int × Addr)) (q : List Sq) (A B C' D : Sq) (na nb nc nd : Nat), vs = [.ref a.g, .int (na : Int), .int (nb : Int), .int (nc : Int), .int (nd : Int)] ∧ GAt C H a rows q ∧
  q[na]? = some A ∧ q[nb]? = some B ∧ q[nc]? = some C' ∧ q[nd]? = some D ∧ B.level = A.level ∧ C'.level = A.level ∧ D.level = A.level ∧ A.level ≤ 47 ∧ q.length < 16000000 ∧
  ∀ H' q' (n : Nat), GStep C H a rows q H' rows q' → q'.length ≤ q.length + 1 → q'[n]? = some (.node A B C' D) → Fr a.m5 H H' → Q (.int (n : Int)) H'
theorem mp_joined {C : Addr} : MonP (sp_joined C) := fun vs H Q Q' E h ⟨a, rows, q, A, B, C', D, na, nb, nc, nd, x1, x2, x3, x4, x5, x6, x7, x8, x9, y1, y2, k⟩ => ⟨a, rows, q, A, B, C', D, na, nb, nc, nd, x1, x2, x3, x4, x5, x6, x7, x8, x9, y1, y2, fun H' q' n g p l f => h _ _ (k H' q' n g p l f)⟩
end
end JF

/-! ### helpers of the laws: the script's numbers, lists of tuples of numbers -/
namespace JF
open PySem PySem.Spec PyProof.Rows L2
/-- tuples of whole numbers, one by one -/
def TR (H : Hp) : List Addr → List (List Int) → Prop
  | [], [] => True
  | r :: rs, x :: xs => H r = some (.tup (x.map V.int)) ∧ TR H rs xs
  | _, _ => False
theorem TR.len {H : Hp} : ∀ {rs : List Addr} {xs : List (List Int)}, TR H rs xs → rs.length = xs.length
  | [], [], _ => rfl
  | r :: rs, x :: xs, h => congrArg (· + 1) (TR.len h.2)
  | [], _ :: _, h => h.elim
  | _ :: _, [], h => h.elim
theorem TR.keep {H H' : Hp} (k : ∀ b ys, H b = some (.tup ys) → H' b = some (.tup ys)) : ∀ {rs : List Addr} {xs : List (List Int)}, TR H rs xs → TR H' rs xs
  | [], [], _ => trivial
  | r :: rs, x :: xs, h => ⟨k _ _ h.1, TR.keep k h.2⟩
  | [], _ :: _, h => h.elim
  | _ :: _, [], h => h.elim
theorem TR.app {H : Hp} {r : Addr} {x : List Int} (hr : H r = some (.tup (x.map V.int))) : ∀ {rs : List Addr} {xs : List (List Int)}, TR H rs xs → TR H (rs ++ [r]) (xs ++ [x])
  | [], [], _ => ⟨hr, trivial⟩
  | _ :: _, _ :: _, h => ⟨h.1, TR.app hr h.2⟩
  | [], _ :: _, h => h.elim
  | _ :: _, [], h => h.elim
theorem TR.get {H : Hp} : ∀ {rs : List Addr} {xs : List (List Int)} {i : Nat} {r : Addr}, TR H rs xs → rs[i]? = some r → ∃ x, xs[i]? = some x ∧ H r = some (.tup (x.map V.int))
  | [], [], _, _, _, e => by simp at e
  | r :: rs, x :: xs, 0, _, h, e => by
    simp only [List.getElem?_cons_zero, Option.some.injEq] at e
    subst e
    exact ⟨x, rfl, h.1⟩
  | r :: rs, x :: xs, i + 1, _, h, e => by
    simp only [List.getElem?_cons_succ] at e ⊢
    exact TR.get h.2 e
  | [], _ :: _, _, _, h, _ => h.elim
  | _ :: _, [], _, _, h, _ => h.elim
/-- a list of tuples of whole numbers -/
def TL (H : Hp) (p : Addr) (xs : List (List Int)) : Prop := ∃ rs : List Addr, H p = some (.lst (rs.map V.ref)) ∧ TR H rs xs
theorem at_get {α : Type} {l : List α} {i : Nat} (h : i < l.length) : l[i]? = some l[i] := by simp [h]
section
variable {K : PySem.W.Frag} {σ : L2.St} {H : Hp} {Q : VK}
/-- [x[c] for x in list] of tuples of numbers -/
theorem rd_colT {L i n : Nat} {c : Int} {p : Addr} {xs : List (List Int)} (hi : i < σ.length) (hv : σ[L]? = some (some (.ref p))) (h : TL H p xs) (hx : ∀ x ∈ xs, x.length = n) (hc0 : 0 ≤ c) (hcn : c.toNat < n) (hz : xs.length ≤ sizeLine)
    (hd : ∀ D, H D = none → Q (.ref D) (upd H D (.lst ((xs.map fun x => x.getD c.toNat 0).map V.int)))) : tLc (iList K (tVar L)) (gName i) tYes (tOp (rIxT K) (tVar i) (tC (.int c))) [i] σ H Q := by
  obtain ⟨rs, hp, ht⟩ := h
  refine ⟨_, hv, p, rfl, ⟨_, SqL.of hp⟩, fun D hD => ?_⟩
  have sm : ∀ o, Same H (upd H D o) := fun o => same_upd hD
  refine lc_list (K := K) (xs := rs.map V.ref) (fun i H' => H' = upd H D (.lst (((xs.take i).map fun x => x.getD c.toNat 0).map V.int))) (by simp) (fun i H' _ e => SqL.of (by rw [e]; exact sm _ _ _ hp)) ?_ ?_
  · rintro j x H' hj rfl
    obtain ⟨r, hr, rfl⟩ : ∃ r, rs[j]? = some r ∧ x = .ref r := by
      rw [List.getElem?_map] at hj
      cases e : rs[j]? with
      | none => rw [e] at hj; cases hj
      | some r => rw [e] at hj; exact ⟨r, rfl, (Option.some.inj hj).symm⟩
    obtain ⟨x, hx1, hx2⟩ := ht.get hr
    have hl := hx x (List.mem_of_getElem? hx1)
    have hlt : c.toNat < x.length := by omega
    have hset : (((wipe σ [i]).set i (some (.ref r)))[i]? : Option (Option V)) = some (some (.ref r)) := by
      rw [List.getElem?_set_self (by rw [wipe_length]; exact hi)]
    refine ⟨by simp only [wipe, List.set_set], ?_⟩
    refine rd_yes (iteT' (rd_op (rd_var hset (rd_c ?_))))
    have e1 : atI (x.map V.int) c = some (V.int (x.getD c.toNat 0)) := by
      obtain ⟨m, rfl⟩ : ∃ m : Nat, c = m := ⟨c.toNat, by omega⟩
      refine atI_nat ?_
      rw [Int.toNat_natCast] at hlt ⊢
      rw [List.getElem?_map, at_get hlt]
      simp [List.getD, hlt]
    refine rd_ixT (SqT.of (sm _ _ _ hx2)) e1 ?_
    refine ⟨_, upd_same, ?_, ?_⟩
    · have hj2 : j < xs.length := (List.getElem?_eq_some_iff.mp hx1).1
      simp only [List.length_map, List.length_take]
      omega
    · rw [upd_upd]
      have : xs.take (j + 1) = xs.take j ++ [x] := by rw [List.take_succ, hx1]; rfl
      rw [this, List.map_append, List.map_append]; rfl
  · rintro H' rfl
    have e : xs.take (rs.map V.ref).length = xs := by rw [List.length_map, ht.len, List.take_length]
    rw [e]
    exact hd D hD
/-- min, max, of a list of numbers -/
theorem rd_min {p : Addr} {ns : List Int} (m0 : Int) (h : H p = some (.lst (ns.map V.int))) (hm : m0 ∈ ns) (hle : ∀ y ∈ ns, m0 ≤ y) (q : Q (.int m0) H) : rMin K [.ref p] H Q :=
  ⟨p, ns, rfl, SqL.of h, List.length_pos_of_mem hm, fun m h1 h2 => by
    have e : m = m0 := Int.le_antisymm (h2 m0 hm) (hle m h1)
    rw [e]; exact q⟩
theorem rd_max {p : Addr} {ns : List Int} (m0 : Int) (h : H p = some (.lst (ns.map V.int))) (hm : m0 ∈ ns) (hle : ∀ y ∈ ns, y ≤ m0) (q : Q (.int m0) H) : rMax K [.ref p] H Q :=
  ⟨p, ns, rfl, SqL.of h, List.length_pos_of_mem hm, fun m h1 h2 => by
    have e : m = m0 := Int.le_antisymm (hle m h1) (h2 m0 hm)
    rw [e]; exact q⟩
/-! lists of tuples, compared -/
theorem dp_tr : ∀ {rs : List Addr} {xs : List (List Int)}, TR H rs xs → DpAll K H (rs.map V.ref) (xs.map fun x => PyData.tuple (x.map PyData.int))
  | [], [], _ => .nil
  | r :: rs, x :: xs, h => .cons (.tup (SqT.of h.1) dp_ints) (dp_tr h.2)
  | [], _ :: _, h => h.elim
  | _ :: _, [], h => h.elim
theorem lay_ints : ∀ x : List Int, PyData.canLayAll0 (x.map PyData.int) = true
  | [] => by simp [PyData.canLayAll0]
  | i :: x => by simp [PyData.canLayAll0, PyData.canLay0, lay_ints x]
theorem depth_ints : ∀ x : List Int, PyData.depthAll (x.map PyData.int) ≤ 1
  | [] => by simp [PyData.depthAll]
  | i :: x => by simp [PyData.depthAll, PyData.depth, depth_ints x]
theorem lay_tr : ∀ xs : List (List Int), PyData.canLayAll0 (xs.map fun x => PyData.tuple (x.map PyData.int)) = true
  | [] => by simp [PyData.canLayAll0]
  | x :: xs => by simp [PyData.canLayAll0, PyData.canLay0, lay_tr xs, lay_ints x]
theorem depth_tr : ∀ xs : List (List Int), PyData.depthAll (xs.map fun x => PyData.tuple (x.map PyData.int)) ≤ 2
  | [] => by simp [PyData.depthAll]
  | x :: xs => by
    have h1 := depth_tr xs
    have h2 := depth_ints x
    simp only [List.map_cons, PyData.depthAll, PyData.depth]
    omega
theorem shaped_tr (xs : List (List Int)) : SeqAt.shaped (.list (xs.map fun x => PyData.tuple (x.map PyData.int))) = true := by
  have h1 := depth_tr xs
  have h2 := lay_tr xs
  have h3 : PyData.depth (.list (xs.map fun x => PyData.tuple (x.map PyData.int))) ≤ 64 := by
    simp only [PyData.depth]
    omega
  unfold SeqAt.shaped
  rw [decide_eq_true h3, Bool.and_true]
  simp only [PyData.canLay0, h2]
theorem TL.same {H H' : Hp} {p : Addr} {xs : List (List Int)} (h : TL H p xs) (s : Same H H') : TL H' p xs := by
  obtain ⟨rs, h1, h2⟩ := h
  exact ⟨rs, s _ _ h1, h2.keep fun _ _ e => s _ _ e⟩
/-- rows == [] -/
theorem rd_eqTL0 {p pe : Addr} {xs : List (List Int)} (h : TL H p xs) (he : H pe = some (.lst [])) (q : Q (.bl (decide (xs = []))) H) : rEqD K (.ref p) (.ref pe) H Q := by
  obtain ⟨rs, h1, h2⟩ := h
  refine ⟨_, _, .lst (SqL.of h1) (dp_tr h2), .lst (SqL.of he) .nil, shaped_tr xs, rfl, ?_⟩
  cases xs with
  | nil => exact q
  | cons x xs => exact q
/-- isinstance(tuple of the law's, tuple) -/
theorem rd_isiT {p : Addr} {xs : List V} (h : H p = some (.tup xs)) (q : Q (.bl true) H) : rIsi K [.ref p, .ty "tuple"] H Q :=
  isi_ty (.base (.tup h)) (by decide +kernel : kitB "tuple" "tuple" = some true) q
theorem rd_isiI {i : Int} (q : Q (.bl true) H) : rIsi K [.int i, .ty "int"] H Q := isi_ty (.base (.int i)) (by decide +kernel : kitB "int" "int" = some true) q
theorem rd_isiB {i : Int} (q : Q (.bl false) H) : rIsi K [.int i, .ty "bool"] H Q := isi_ty (.base (.int i)) (by decide +kernel : kitB "int" "bool" = some false) q
end
theorem sqL_on {K : PySem.W.Frag} {H H' : Hp} {a : Addr} {xs : List V} (h : SqL K H a xs) (e : ∀ o, H a = some o → H' a = some o) : SqL K H' a xs :=
  h.elim (fun h => .inl (h.elim (fun h => .inl (e _ h)) fun ⟨o, h⟩ => .inr ⟨o, e _ h⟩)) fun h => .inr h
theorem walk_r0 {n : Nat} : Walk (Itr 0 n) n (fun _ => True) (YFn fun i => .int (i : Int)) :=
  walk_range.mono (fun _ h => h) fun i H x H' _ _ y => ⟨y.1, y.2.trans (by show V.int (0 + (i : Int)) = V.int (i : Int); rw [Int.zero_add])⟩
def cutI (ns : List Int) (lo hi : Option Int) : List Int := (ns.drop (HT.sIx ns.length 0 lo)).take (HT.sIx ns.length ns.length hi - HT.sIx ns.length 0 lo)
theorem cutV_ints (ns : List Int) (lo hi : Option Int) : cutV (ns.map V.int) lo hi = (cutI ns lo hi).map V.int := by
  unfold cutV cutI
  rw [List.length_map, List.map_take, List.map_drop]
/-- Grove() -/
theorem rd_grove {K : PySem.W.Frag} {σ : L2.St} {H : Hp} {Q : VK} (h : ∀ (a : GA) H', GAt (CG K) H' a [] [] → (∀ b ∈ a.muts [], H b = none) → Same H H' → Q (.ref a.g) H') : tMake (CG K) (sp_ginit (CG K)) [] E0 tNil σ H Q := by
  intro x dx hx hdx hne
  refine ⟨x, dx, rfl, upd_same, fun a H' e G hn hk => ⟨rfl, ?_⟩⟩
  subst e
  have out : ∀ (b u : Addr) (Hx : Hp) (o : HO), upd Hx u o b = none → Hx b = none := fun b u Hx o e => by
    by_cases z : b = u
    · subst z; rw [upd_same] at e; cases e
    · rw [upd_ne z] at e; exact e
  refine h a H' G (fun b hb => out _ _ _ _ (out _ _ _ _ (hn b hb))) fun b o e => ?_
  have b1 : b ≠ a.g := ne_of_none e hx
  have b2 : b ≠ dx := ne_of_none e hdx
  exact hk b o (by rw [upd_ne b1, upd_ne b2]; exact e) b1
/-! #### the asker's own lists beside a grove -/
/-- tuples stay -/
def Tup (H H' : Hp) : Prop := ∀ b ys, H b = some (.tup ys) → H' b = some (.tup ys)
theorem Tup.refl (H : Hp) : Tup H H := fun _ _ h => h
theorem Tup.trans {H H1 H2 : Hp} (x : Tup H H1) (y : Tup H1 H2) : Tup H H2 := fun b ys h => y b ys (x b ys h)
theorem Tup.of {H H' : Hp} (x : Same H H') : Tup H H' := fun b ys h => x b _ h
theorem Tup.put {H : Hp} {p : Addr} {xs : List V} (h : H p = some (.lst xs)) (o : HO) : Tup H (upd H p o) := fun b ys e => by
  rw [upd_ne (by rintro rfl; rw [h] at e; cases e)]; exact e
theorem GStep.tup {C : Addr} {H H1 : Hp} {a : GA} {rows r1 : List (Int × Addr)} {q q1 : List Sq} (x : GStep C H a rows q H1 r1 q1) (G : GAt C H a rows q) : Tup H H1 := fun b ys e => x.fr b _ e (G.tup_out e)
/-- own lists, by their addresses -/
structure OwnL (a : GA) (rows : List (Int × Addr)) (H : Hp) (l : List (Addr × List V)) : Prop where
  nd : (l.map (·.1)).Nodup
  at_ : ∀ p xs, (p, xs) ∈ l → H p = some (.lst xs)
  out : ∀ p xs, (p, xs) ∈ l → p ∉ a.muts rows
theorem OwnL.same {a : GA} {rows : List (Int × Addr)} {H H' : Hp} {l : List (Addr × List V)} (h : OwnL a rows H l) (s : Same H H') : OwnL a rows H' l := ⟨h.nd, fun p xs m => s _ _ (h.at_ p xs m), h.out⟩
theorem OwnL.step {C : Addr} {H H1 : Hp} {a : GA} {rows r1 : List (Int × Addr)} {q q1 : List Sq} {l : List (Addr × List V)} (h : OwnL a rows H l) (x : GStep C H a rows q H1 r1 q1) : OwnL a r1 H1 l :=
  ⟨h.nd, fun p xs m => (x.own (h.at_ p xs m) (h.out p xs m)).1, fun p xs m => (x.own (h.at_ p xs m) (h.out p xs m)).2⟩
theorem OwnL.nil {a : GA} {rows : List (Int × Addr)} {H : Hp} : OwnL a rows H [] := ⟨by simp, fun _ _ m => by simp at m, fun _ _ m => by simp at m⟩
theorem OwnL.new {C : Addr} {a : GA} {rows : List (Int × Addr)} {q : List Sq} {H : Hp} {l : List (Addr × List V)} {p : Addr} {xs : List V} (h : OwnL a rows H l) (G : GAt C H a rows q) (hp : H p = none) : OwnL a rows (upd H p (.lst xs)) ((p, xs) :: l) := by
  refine ⟨?_, fun p' ys m => ?_, fun p' ys m => ?_⟩
  · rw [List.map_cons, List.nodup_cons]
    refine ⟨fun z => ?_, h.nd⟩
    obtain ⟨⟨p', ys⟩, m, e⟩ := List.mem_map.mp z
    have e' : p' = p := e
    subst e'
    rw [h.at_ _ _ m] at hp
    cases hp
  · rcases List.mem_cons.mp m with m | m
    · cases m; exact upd_same
    · exact same_upd hp _ _ (h.at_ _ _ m)
  · rcases List.mem_cons.mp m with m | m
    · cases m; exact G.new_out hp
    · exact h.out _ _ m
theorem OwnL.put {a : GA} {rows : List (Int × Addr)} {H : Hp} {p : Addr} {xs : List V} (l1 l2 : List (Addr × List V)) (ys : List V) (h : OwnL a rows H (l1 ++ (p, xs) :: l2)) : OwnL a rows (upd H p (.lst ys)) (l1 ++ (p, ys) :: l2) := by
  have nd := h.nd
  rw [List.map_append, List.map_cons] at nd
  have ne : ∀ p' zs, (p', zs) ∈ l1 ∨ (p', zs) ∈ l2 → p' ≠ p := fun p' zs m e => by
    subst e
    rw [List.nodup_append, List.nodup_cons] at nd
    rcases m with m | m
    · exact nd.2.2 p' (List.mem_map_of_mem (f := fun x : Addr × List V => x.1) (a := (p', zs)) m) p' List.mem_cons_self rfl
    · exact nd.2.1.1 (List.mem_map_of_mem (f := fun x : Addr × List V => x.1) (a := (p', zs)) m)
  refine ⟨by rw [List.map_append, List.map_cons]; exact nd, fun p' zs m => ?_, fun p' zs m => ?_⟩
  · rcases List.mem_append.mp m with m | m
    · rw [upd_ne (ne p' zs (.inl m))]; exact h.at_ _ _ (List.mem_append_left _ m)
    · rcases List.mem_cons.mp m with m | m
      · cases m; exact upd_same
      · rw [upd_ne (ne p' zs (.inr m))]; exact h.at_ _ _ (List.mem_append_right _ (List.mem_cons_of_mem _ m))
  · rcases List.mem_append.mp m with m | m
    · exact h.out _ _ (List.mem_append_left _ m)
    · rcases List.mem_cons.mp m with m | m
      · cases m; exact h.out _ xs (List.mem_append_right _ List.mem_cons_self)
      · exact h.out _ _ (List.mem_append_right _ (List.mem_cons_of_mem _ m))
theorem GAt.own {C : Addr} {H : Hp} {a : GA} {rows : List (Int × Addr)} {q : List Sq} {l : List (Addr × List V)} {p : Addr} {xs : List V} {o : HO} (G : GAt C H a rows q) (h : OwnL a rows H l) (m : (p, xs) ∈ l) : GAt C (L2.upd H p o) a rows q :=
  G.upd (fun u e => by rw [h.at_ _ _ m] at e; cases e; exact fun z => z) (h.out _ _ m)
theorem OwnL.ix {a : GA} {rows : List (Int × Addr)} {H : Hp} {l : List (Addr × List V)} {p : Addr} {xs : List V} (h : OwnL a rows H l) (i : Nat) (e : l[i]? = some (p, xs)) : H p = some (.lst xs) := h.at_ p xs (List.mem_of_getElem? e)
theorem GAt.ownI {C : Addr} {H : Hp} {a : GA} {rows : List (Int × Addr)} {q : List Sq} {l : List (Addr × List V)} {p : Addr} {xs : List V} (G : GAt C H a rows q) (h : OwnL a rows H l) (i : Nat) (e : l[i]? = some (p, xs)) (o : HO) : GAt C (L2.upd H p o) a rows q := G.own h (List.mem_of_getElem? e)
theorem OwnL.putI {a : GA} {rows : List (Int × Addr)} {H : Hp} {l : List (Addr × List V)} {p : Addr} {xs : List V} (h : OwnL a rows H l) (i : Nat) (e : l[i]? = some (p, xs)) (ys : List V) : OwnL a rows (upd H p (.lst ys)) (l.set i (p, ys)) := by
  obtain ⟨hi, e'⟩ := List.getElem?_eq_some_iff.mp e
  have e1 : l = l.take i ++ (p, xs) :: l.drop (i + 1) := by rw [← e']; simp
  rw [List.set_eq_take_append_cons_drop, if_pos hi]
  rw [e1] at h
  exact h.put (l.take i) (l.drop (i + 1)) ys
theorem OwnL.tup {a : GA} {rows : List (Int × Addr)} {H : Hp} {l : List (Addr × List V)} {p : Addr} {xs : List V} (h : OwnL a rows H l) (i : Nat) (e : l[i]? = some (p, xs)) (o : HO) : Tup H (L2.upd H p o) := Tup.put (h.ix i e) o
section
variable {P : Program} {w : World} {K : PySem.W.Frag} {mg : Str → Option Value} {base : Heap}
def atN (ns : List Int) (k : Nat) : Int := (ns[k]?).getD 0
def sp_at (K : PySem.W.Frag) : Sp := fun vs H Q _ => ∃ (a : Addr) (ns : List Int) (k : Int), vs = [.ref a, .int k] ∧ SqL K H a (ns.map V.int) ∧ 0 ≤ k ∧ Q (.int (atN ns k.toNat)) H
theorem mp_at : MonP (sp_at K) := fun vs H Q Q' E h ⟨a, ns, k, x1, x2, x3, q⟩ => ⟨a, ns, k, x1, x2, x3, h _ _ q⟩
theorem ok_at (T : Env fa fn K mg) : Good P w K mg base CX0 1 ("_law_at", none) ["_law_script", "_law_k"] (sp_at K) := by
  refine good_mk T 27 (d := d_w_at) (N := ["_law_script", "_law_k"]) (ps := ["_law_script", "_law_k"]) rfl rfl sc_w_at (fun _ _ _ _ _ _ us hl => match us, hl with | [_, _], _ => rfl) (fun vs H Q E h => ?_) (fun f cdv A outer s H vs Q E hr h => ?_)
  · obtain ⟨a, ns, k, rfl, _⟩ := h; rfl
  · obtain ⟨a, ns, k, rfl, hs, h0, q⟩ := h
    refine ⟨_, (pss_cons (ps_if (pt_cmpR op_lt (pv 1) (pe_callB (call_lenK K rfl) (by rfl) (T.free 20) (by decide +kernel) (pa_cons (pv 0) pa_nil)) (nomark _)) (pss_one (ps_ret (pe_ix (ix_listK K rfl) (pv 0) (pv 1) (fun _ _ => rfl)))) pss_nil)
      (pss_one (ps_ret pe_int))), ?_⟩
    obtain ⟨m, rfl⟩ : ∃ m : Nat, k = m := ⟨k.toNat, by omega⟩
    rw [Int.toNat_natCast] at q
    walk_at "rd"
    refine rd_len hs ?_
    walk_at "rd"
    rw [List.length_map]
    refine ite_d (fun hk => ?_) (fun hk => ?_)
    · walk_at "rd"
      have hlt : m < ns.length := by omega
      refine rd_ixL hs (v := .int (atN ns m)) (atI_nat ?_) q
      rw [List.getElem?_map, at_get hlt]
      simp [atN, hlt]
    · walk_at "rd"
      have e : atN ns m = 0 := by unfold atN; rw [List.getElem?_eq_none (by omega)]; rfl
      rw [e] at q
      exact q
end
end JF

/-! ### helpers of the laws: dicts by tuples, zips of tuples -/
namespace JF
open PySem PySem.Spec PyProof.Rows L2
section
variable {X : Cx}
/-- d.setdefault(tuple, x), the dict by tuples -/
def rSetdT : V → List V → Hp → VK → Prop := fun u us H Q => ∃ (d t : Addr) (k : List Key) (z : V) (tab : List (List Key × V)), u = .ref d ∧ us = [.ref t, z] ∧ H d = some (.dT tab) ∧ H t = some (.tup (k.map kV)) ∧ tab.length < sizeLine ∧
  (∀ v, valV tab k = some v → Q v H) ∧ (valV tab k = none → Q z (upd H d (.dT (putK tab k z))))
theorem mt_setdT (room : X.A.units + 64 < cLine) : MtR X "dict.setdefault" rSetdT := by
  intro pins s σ H u us uv uvs Q I ru rus h
  obtain ⟨d, t, k, z, tab, rfl, rfl, hd, ht, hlt, there, away⟩ := h
  cases ru
  obtain ⟨kv, zv, rfl, rk, rz⟩ := vals2 rus
  cases rk
  obtain ⟨hle, hsys, ys, tie, dict⟩ := dt_of I.hok hd
  have hys : ys.length ≤ sizeLine := Paired.length tie ▸ hle
  have look := tie.val k
  refine call_setdefault_heap (knd := tupleKind (mixKind X.prog X.w)) (k := k) (tupleKind_room_in1 (by omega)) (key_of I.hok ht) hsys dict ?got ?new hys
  case got =>
    intro p hp
    rw [hp] at look
    cases ev : valV tab k with
    | none => rw [ev] at look; exact False.elim look
    | some v =>
      rw [ev] at look
      exact ⟨v, H, I.tok _, look, there v ev⟩
  case new =>
    intro hn h2 dict2 but
    have ev : valV tab k = none := by
      cases ev : valV tab k with
      | none => rfl
      | some v => rw [hn, ev] at look; exact False.elim look
    obtain ⟨o, es, ep, ho, m1, m2, m3, _, m4⟩ := dict2
    have tie2 : KT (upd H d (.dT (putK tab k z))) (putK tab k z) (storedH ys k t zv) := (tie.put k ht rz).keeps fun b items e => by
      rw [upd_ne (ne_of e hd (fun x => nomatch x))]
      exact e
    have hle2 : (putK tab k z).length ≤ sizeLine := by
      rw [putK_new _ ev, List.length_append]
      exact hlt
    have I2 := d_write (t' := s.toks + (tupleKind (mixKind X.prog X.w)).draws k) I (by rw [hd]; exact True.intro) but ⟨o, ho⟩ (ob := .dT (putK tab k z)) ⟨hle2, hsys, _, tie2, o, es, ep, ho, m1, m2, m3, m4⟩
    exact ⟨z, _, I2, rz, away ev⟩
end
section
variable {X : Cx} {p pos tpos : Pos} {e e2 : Expr} {ta : TA} {elts : List Expr} {kk : Nat}
theorem pi_zipAK (K : PySem.W.Frag) (hK : X.K = K) (hg : Gl X "zip") (hm : X.mg "zip" = none) (ha : PA X [e, e2] ta) (hs : starEach [e, e2] X.env = (false, eval e X.env) :: starEach [e2] X.env := by rfl) (hpl : (backTo pos (starEach [e2] X.env)).any (·.1) = false := by rfl) :
    PI X (.Tuple elts kk tpos) (.Call (.Name "zip" p) [e, e2] [] pos) (RZ.iZipA K ta) := by subst hK; exact RZ.pi_zipA hg hm ha hs hpl
end
section
variable {K : PySem.W.Frag} {σ : L2.St} {H : Hp} {Q : VK}
theorem rd_iZA {tr : TA} {R : It → Hp → Prop} (h : tr σ H fun vs H1 => ∃ a b xs ys, vs = [.ref a, .ref b] ∧ ((SqL K H1 a xs ∧ SqL K H1 b ys ∧ R (Itz K a b) H1) ∨ (SqT K H1 a xs ∧ SqT K H1 b ys ∧ R (RZ.ItzT K a b) H1))) : RZ.iZipA K tr σ H R := h
theorem rd_tyD {l : Addr} {xs : List (Key × V)} {R : Prop} (h1 : H l = some (.dK xs)) (q : R) : tyV K "dict" (.ref l) H ∧ R := ⟨Or.inr (Or.inr (Or.inl ⟨rfl, Or.inl ⟨_, h1⟩⟩)), q⟩
theorem rd_tyDT {l : Addr} {xs : List (List Key × V)} {R : Prop} (h1 : H l = some (.dT xs)) (q : R) : tyV K "dict" (.ref l) H ∧ R := ⟨Or.inr (Or.inr (Or.inl ⟨rfl, Or.inr ⟨_, h1⟩⟩)), q⟩
theorem rd_iK {td : TE} {R : It → Hp → Prop} (h : td σ H fun x H1 => ∃ d o, x = .ref d ∧ ((∃ kvs, H1 d = some (.frz o (.dK kvs)) ∧ R (Itk d o kvs) H1) ∨ ∃ kvs, H1 d = some (.frz o (.dT kvs)) ∧ R (Itkt d o kvs) H1)) : iKeys td σ H R := h
theorem shaped_tup {ns : List Int} : SeqAt.shaped (.tuple (ns.map PyData.int)) = true := by
  have h1 := depth_ints ns
  have h2 := lay_ints ns
  have h3 : PyData.depth (.tuple (ns.map PyData.int)) ≤ 64 := by
    simp only [PyData.depth]
    omega
  unfold SeqAt.shaped
  rw [decide_eq_true h3, Bool.and_true]
  simp only [PyData.canLay0, h2]
theorem rd_neDT {p p' : Addr} {ns ms : List Int} (h1 : H p = some (.tup (ns.map V.int))) (h2 : H p' = some (.tup (ms.map V.int)))
    (q : Q (.bl (!PyData.eqv (.tuple (ns.map PyData.int)) (.tuple (ms.map PyData.int)))) H) : rNeD K (.ref p) (.ref p') H Q := ⟨_, _, .tup (SqT.of h1) dp_ints, .tup (SqT.of h2) dp_ints, shaped_tup, shaped_tup, q⟩
theorem eqvT_refl (ns : List Int) : PyData.eqv (.tuple (ns.map PyData.int)) (.tuple (ns.map PyData.int)) = true := SeqAt.eqv_refl _ (by simp only [PyData.canLay0]; exact lay_ints ns)
end
theorem eqvAll_ints : ∀ ns ms : List Int, PyData.eqvAll (ns.map PyData.int) (ms.map PyData.int) = decide (ns = ms)
  | [], [] => by simp [PyData.eqvAll]
  | [], _ :: _ => by simp [PyData.eqvAll]
  | _ :: _, [] => by simp [PyData.eqvAll]
  | n :: ns, m :: ms => by
    simp only [List.map_cons, PyData.eqvAll, PyData.eqv, eqvAll_ints ns ms, List.cons.injEq]
    by_cases a : n = m <;> by_cases b : ns = ms <;> simp [a, b]
theorem shaped_list {ns : List Int} : SeqAt.shaped (.list (ns.map PyData.int)) = true := by
  have h1 := depth_ints ns
  have h2 := lay_ints ns
  have h3 : PyData.depth (.list (ns.map PyData.int)) ≤ 64 := by
    simp only [PyData.depth]
    omega
  unfold SeqAt.shaped
  rw [decide_eq_true h3, Bool.and_true]
  simp only [PyData.canLay0, h2]
/-- lists, tuples of whole numbers, compared -/
theorem rd_eqLI {K : PySem.W.Frag} {H : Hp} {Q : VK} {p p' : Addr} {ns ms : List Int} (h1 : SqL K H p (ns.map V.int)) (h2 : SqL K H p' (ms.map V.int)) (q : Q (.bl (decide (ns = ms))) H) : rEqD K (.ref p) (.ref p') H Q :=
  rd_eqDI h1 h2 shaped_list shaped_list (by
    have e : PyData.eqv (.list (ns.map PyData.int)) (.list (ms.map PyData.int)) = decide (ns = ms) := by rw [← eqvAll_ints]; simp only [PyData.eqv]
    rw [e]; exact q)
theorem rd_neLI {K : PySem.W.Frag} {H : Hp} {Q : VK} {p p' : Addr} {ns ms : List Int} (h1 : SqL K H p (ns.map V.int)) (h2 : SqL K H p' (ms.map V.int)) (q : Q (.bl (!decide (ns = ms))) H) : rNeD K (.ref p) (.ref p') H Q :=
  rd_neDI h1 h2 shaped_list shaped_list (by
    have e : PyData.eqv (.list (ns.map PyData.int)) (.list (ms.map PyData.int)) = decide (ns = ms) := by rw [← eqvAll_ints]; simp only [PyData.eqv]
    rw [e]; exact q)
theorem rd_neTI {K : PySem.W.Frag} {H : Hp} {Q : VK} {p p' : Addr} {ns ms : List Int} (h1 : H p = some (.tup (ns.map V.int))) (h2 : H p' = some (.tup (ms.map V.int))) (q : Q (.bl (!decide (ns = ms))) H) : rNeD K (.ref p) (.ref p') H Q :=
  rd_neDT h1 h2 (by
    have e : PyData.eqv (.tuple (ns.map PyData.int)) (.tuple (ms.map PyData.int)) = decide (ns = ms) := by rw [← eqvAll_ints]; simp only [PyData.eqv]
    rw [e]; exact q)
theorem mm_setdT : MonM rSetdT := fun x y H Q Q' h ⟨d, t, k, z, tab, e1, e2, e3, e4, e5, q1, q2⟩ => ⟨d, t, k, z, tab, e1, e2, e3, e4, e5, fun v hv => h _ _ (q1 v hv), fun hv => h _ _ (q2 hv)⟩
theorem mr_neD {K : PySem.W.Frag} : MonR (rNeD K) := fun x y H Q Q' h ⟨a, b, e1, e2, e3, e4, q⟩ => ⟨a, b, e1, e2, e3, e4, h _ _ q⟩
theorem mr_eqD {K : PySem.W.Frag} : MonR (rEqD K) := fun x y H Q Q' h ⟨a, b, e1, e2, e3, e4, q⟩ => ⟨a, b, e1, e2, e3, e4, h _ _ q⟩
/-! own objects beside a grove: lists, dicts -/
structure OwnO (a : GA) (rows : List (Int × Addr)) (H : Hp) (l : List (Addr × HO)) : Prop where
  nd : (l.map (·.1)).Nodup
  at_ : ∀ p o, (p, o) ∈ l → H p = some o
  mv : ∀ p o, (p, o) ∈ l → ¬ HO.still o
  out : ∀ p o, (p, o) ∈ l → p ∉ a.muts rows
theorem OwnO.same {a : GA} {rows : List (Int × Addr)} {H H' : Hp} {l : List (Addr × HO)} (h : OwnO a rows H l) (s : Same H H') : OwnO a rows H' l := ⟨h.nd, fun p xs m => s _ _ (h.at_ p xs m), h.mv, h.out⟩
theorem OwnO.step {C : Addr} {H H1 : Hp} {a : GA} {rows r1 : List (Int × Addr)} {q q1 : List Sq} {l : List (Addr × HO)} (h : OwnO a rows H l) (x : GStep C H a rows q H1 r1 q1) : OwnO a r1 H1 l :=
  ⟨h.nd, fun p xs m => (x.own (h.at_ p xs m) (h.out p xs m)).1, h.mv, fun p xs m => (x.own (h.at_ p xs m) (h.out p xs m)).2⟩
theorem OwnO.nil {a : GA} {rows : List (Int × Addr)} {H : Hp} : OwnO a rows H [] := ⟨by simp, fun _ _ m => by simp at m, fun _ _ m => by simp at m, fun _ _ m => by simp at m⟩
theorem OwnO.new {C : Addr} {a : GA} {rows : List (Int × Addr)} {q : List Sq} {H : Hp} {l : List (Addr × HO)} {p : Addr} {o : HO} (h : OwnO a rows H l) (G : GAt C H a rows q) (hp : H p = none) (ho : ¬ HO.still o) : OwnO a rows (upd H p o) ((p, o) :: l) := by
  refine ⟨?_, fun p' ys m => ?_, fun p' ys m => ?_, fun p' ys m => ?_⟩
  · rw [List.map_cons, List.nodup_cons]
    refine ⟨fun z => ?_, h.nd⟩
    obtain ⟨⟨p', ys⟩, m, e⟩ := List.mem_map.mp z
    have e' : p' = p := e
    subst e'
    rw [h.at_ _ _ m] at hp
    cases hp
  · rcases List.mem_cons.mp m with m | m
    · cases m; exact upd_same
    · exact same_upd hp _ _ (h.at_ _ _ m)
  · rcases List.mem_cons.mp m with m | m
    · cases m; exact ho
    · exact h.mv _ _ m
  · rcases List.mem_cons.mp m with m | m
    · cases m; exact G.new_out hp
    · exact h.out _ _ m
theorem OwnO.ix {a : GA} {rows : List (Int × Addr)} {H : Hp} {l : List (Addr × HO)} {p : Addr} {o : HO} (h : OwnO a rows H l) (i : Nat) (e : l[i]? = some (p, o)) : H p = some o := h.at_ p o (List.mem_of_getElem? e)
theorem mem_set {α : Type} {l : List α} {i : Nat} {y x : α} (h : x ∈ l.set i y) : x = y ∨ ∃ j, j ≠ i ∧ l[j]? = some x := by
  obtain ⟨j, hj, e⟩ := List.mem_iff_getElem.mp h
  by_cases z : i = j
  · subst z; left; rw [← e, List.getElem_set_self]
  · right
    refine ⟨j, Ne.symm z, ?_⟩
    rw [List.getElem_set_ne z] at e
    rw [List.length_set] at hj
    rw [at_get hj, e]
theorem OwnO.ne {a : GA} {rows : List (Int × Addr)} {H : Hp} {l : List (Addr × HO)} (h : OwnO a rows H l) {i j : Nat} {p p' : Addr} {o o' : HO} (e : l[i]? = some (p, o)) (e' : l[j]? = some (p', o')) (n : j ≠ i) : p' ≠ p := fun z => by
  obtain ⟨hi, ei⟩ := List.getElem?_eq_some_iff.mp e
  obtain ⟨hj, ej⟩ := List.getElem?_eq_some_iff.mp e'
  exact n ((List.getElem_inj (xs := l.map (·.1)) (h₀ := by simpa using hj) (h₁ := by simpa using hi) h.nd).mp (by simp [ei, ej, z]))
theorem OwnO.put {a : GA} {rows : List (Int × Addr)} {H : Hp} {l : List (Addr × HO)} {p : Addr} {o : HO} (h : OwnO a rows H l) (i : Nat) (e : l[i]? = some (p, o)) (o' : HO) (ho : ¬ HO.still o') : OwnO a rows (upd H p o') (l.set i (p, o')) := by
  have nd' : ((l.set i (p, o')).map (·.1)) = l.map (·.1) := by
    rw [List.map_set]
    obtain ⟨hi, ei⟩ := List.getElem?_eq_some_iff.mp e
    refine List.ext_getElem (by simp) fun j h1 h2 => ?_
    by_cases z : i = j
    · subst z; simp [ei]
    · rw [List.getElem_set_ne z]
  have cases_ : ∀ p' u, (p', u) ∈ l.set i (p, o') → (p' = p ∧ u = o') ∨ (p' ≠ p ∧ (p', u) ∈ l) := fun p' u m => by
    rcases mem_set m with m | ⟨j, hj, m⟩
    · cases m; exact .inl ⟨rfl, rfl⟩
    · exact .inr ⟨h.ne e m hj, List.mem_of_getElem? m⟩
  refine ⟨by rw [nd']; exact h.nd, fun p' u m => ?_, fun p' u m => ?_, fun p' u m => ?_⟩
  · rcases cases_ p' u m with ⟨rfl, rfl⟩ | ⟨n, m⟩
    · exact upd_same
    · rw [upd_ne n]; exact h.at_ _ _ m
  · rcases cases_ p' u m with ⟨rfl, rfl⟩ | ⟨n, m⟩
    · exact ho
    · exact h.mv _ _ m
  · rcases cases_ p' u m with ⟨rfl, rfl⟩ | ⟨n, m⟩
    · exact h.out _ o (List.mem_of_getElem? e)
    · exact h.out _ _ m
theorem GAt.ownO {C : Addr} {H : Hp} {a : GA} {rows : List (Int × Addr)} {q : List Sq} {l : List (Addr × HO)} {p : Addr} {o : HO} (G : GAt C H a rows q) (h : OwnO a rows H l) (i : Nat) (e : l[i]? = some (p, o)) (o' : HO) : GAt C (L2.upd H p o') a rows q :=
  G.upd (fun u e' => by rw [h.ix i e] at e'; cases e'; exact h.mv _ _ (List.mem_of_getElem? e)) (h.out _ _ (List.mem_of_getElem? e))
theorem OwnO.tup {a : GA} {rows : List (Int × Addr)} {H : Hp} {l : List (Addr × HO)} {p : Addr} {o : HO} (h : OwnO a rows H l) (i : Nat) (e : l[i]? = some (p, o)) (o' : HO) : Tup H (L2.upd H p o') := fun b ys e' => by
  rw [upd_ne (by rintro rfl; rw [h.ix i e] at e'; cases e'; exact h.mv _ _ (List.mem_of_getElem? e) trivial)]; exact e'
/-! the law's promise -/
def sp_law (K : PySem.W.Frag) : Sp := fun vs H Q _ => ∃ (a : Addr) (ns : List Int), vs = [.ref a] ∧ SqL K H a (ns.map V.int) ∧ ns.length ≤ 63 ∧ Only H ∧ ∀ H', Q (.bl true) H'
theorem sp_law_in {K : PySem.W.Frag} (H : Hp) (a : Addr) (ns : List Int) (hl : ns.length ≤ 63) (hO : Only H) (hS : SqL K H a (ns.map V.int)) : sp_law K [.ref a] H (fun v _ => v = .bl true) (fun _ _ _ => False) := ⟨a, ns, rfl, hS, hl, hO, fun _ => rfl⟩
theorem shl_ok {i : Nat} : (1 : Int) * 2 ^ ((i : Int)).toNat = 2 ^ i := by rw [Int.one_mul, Int.toNat_natCast]
/-! solid squares: what lives, the span -/
theorem even_none : ∀ l : Nat, (Sq.even l 0).lives = 0 ∧ (Sq.even l 0).span = none
  | 0 => ⟨rfl, rfl⟩
  | l + 1 => by
    obtain ⟨h1, h2⟩ := even_none l
    refine ⟨?_, ?_⟩
    · show (Sq.even l 0).lives + (Sq.even l 0).lives + (Sq.even l 0).lives + (Sq.even l 0).lives = 0
      rw [h1]; rfl
    · show r4 _ (Sq.even l 0).span (Sq.even l 0).span (Sq.even l 0).span (Sq.even l 0).span = none
      rw [h2]; rfl
theorem even_some {s : Int} (hs : s ≠ 0) : ∀ l : Nat, (Sq.even l s).lives = 2 ^ l * 2 ^ l ∧ (Sq.even l s).span = some (0, 0, 2 ^ l, 2 ^ l)
  | 0 => by simp [Sq.even, Sq.lives, Sq.span, hs]
  | l + 1 => by
    obtain ⟨h1, h2⟩ := even_some hs l
    have e : (2 : Int) ^ (l + 1) = 2 * 2 ^ l := by rw [Int.pow_succ]; omega
    have h0 : (0 : Int) < 2 ^ l := Int.pow_pos (by decide)
    refine ⟨?_, ?_⟩
    · show (Sq.even l s).lives + (Sq.even l s).lives + (Sq.even l s).lives + (Sq.even l s).lives = _
      rw [h1, e]
      generalize (2 : Int) ^ l = h
      have e2 : 2 * h * (2 * h) = 4 * (h * h) := by rw [Int.mul_assoc, Int.mul_left_comm h 2 h, ← Int.mul_assoc]; rfl
      rw [e2]; omega
    · show r4 (2 ^ (Sq.even l s).level) (Sq.even l s).span (Sq.even l s).span (Sq.even l s).span (Sq.even l s).span = _
      rw [h2, Sq.level_even, e]
      generalize (2 : Int) ^ l = h at h0
      simp only [r4, r4step, rb, Option.some.injEq, Prod.mk.injEq]
      refine ⟨?_, ?_, ?_, ?_⟩ <;> omega
theorem even_inj {s s' : Int} : ∀ {l l' : Nat}, Sq.even l s = Sq.even l' s' → l = l' ∧ s = s'
  | 0, 0, h => by cases h; exact ⟨rfl, rfl⟩
  | 0, _ + 1, h => by cases h
  | _ + 1, 0, h => by cases h
  | l + 1, l' + 1, h => by
    injection h with h1
    obtain ⟨a, b⟩ := even_inj h1
    exact ⟨by rw [a], b⟩
theorem pow64 {i : Nat} (h : i ≤ 60) : (0 : Int) < 2 ^ i ∧ (2 : Int) ^ i < 2 ^ 64 := by
  refine ⟨Int.pow_pos (by decide), ?_⟩
  have e2 : 2 ^ i < 2 ^ 64 := Nat.pow_lt_pow_right (by decide) (by omega)
  exact_mod_cast e2
theorem sq_ok {i : Nat} (h : i ≤ 60) : CMulW ((2 : Int) ^ i) (2 ^ i) := by
  obtain ⟨h1, h2⟩ := pow64 h
  have e1 : (2 : Int) ^ 64 ≤ 2 ^ 2000 := by decide +kernel
  exact mulW_of (by omega) (by omega) (by omega) (by omega)
section
variable {P : Program} {w : World} {K : PySem.W.Frag} {mg : Str → Option Value} {base : Heap}
def sp_same : Sp := fun vs H Q _ => ∃ i d : Int, vs = [.int i, .int d] ∧ Q (.bl (decide (i = d))) H
theorem mp_same : MonP sp_same := fun vs H Q Q' E h ⟨i, d, x1, q⟩ => ⟨i, d, x1, h _ _ q⟩
theorem sp_sameT {i : Int} {H : Hp} {Q : VK} {E : XK} (q : Q (.bl true) H) : sp_same [.int i, .int i] H Q E := ⟨i, i, rfl, by rw [decide_eq_true rfl]; exact q⟩
end
end JF

/-! ### helpers of the laws: the script beside a grove -/
namespace JF
open PySem PySem.Spec PyProof.Rows L2
/-- the script stays as it was, and is none of the grove's own -/
def Scr (H0 : Hp) (a0 : Addr) (a : GA) (rows : List (Int × Addr)) (H : Hp) : Prop := ∀ o, H0 a0 = some o → H a0 = some o ∧ a0 ∉ a.muts rows
theorem Scr.new {H0 H1 : Hp} {a0 : Addr} {a : GA} (hnew : ∀ b ∈ a.muts [], H0 b = none) (sm : Same H0 H1) : Scr H0 a0 a [] H1 := fun o e => ⟨sm _ _ e, fun z => by
  have y := hnew _ z
  rw [e] at y
  cases y⟩
theorem Scr.same {H0 H H' : Hp} {a0 : Addr} {a : GA} {rows : List (Int × Addr)} (h : Scr H0 a0 a rows H) (s : Same H H') : Scr H0 a0 a rows H' := fun o e => ⟨s _ _ (h o e).1, (h o e).2⟩
theorem Scr.step {C : Addr} {H0 H H1 : Hp} {a0 : Addr} {a : GA} {rows r1 : List (Int × Addr)} {q q1 : List Sq} (h : Scr H0 a0 a rows H) (x : GStep C H a rows q H1 r1 q1) : Scr H0 a0 a r1 H1 := fun o e => x.own (h o e).1 (h o e).2
theorem Scr.put {H0 H : Hp} {a0 p : Addr} {a : GA} {rows : List (Int × Addr)} {xs : List V} {o' : HO} (h : Scr H0 a0 a rows H) (hO : Only H0) (hp : H p = some (.lst xs)) : Scr H0 a0 a rows (upd H p o') := fun o e => by
  refine ⟨?_, (h o e).2⟩
  rw [upd_ne]
  · exact (h o e).1
  · rintro rfl
    rw [(h o e).1] at hp
    cases hp
    rcases hO a0 with z | ⟨u, ys, z⟩
    · rw [z] at e; cases e
    · rw [z] at e; cases e
theorem Scr.sq {K : PySem.W.Frag} {H0 H : Hp} {a0 : Addr} {a : GA} {rows : List (Int × Addr)} {xs : List V} (h : Scr H0 a0 a rows H) (hS : SqL K H0 a0 xs) : SqL K H a0 xs := sqL_on hS fun o e => (h o e).1
/-- the number read at a place -/
theorem rd_at {K : PySem.W.Frag} {H : Hp} {Q : VK} {E : XK} {a0 : Addr} {ns : List Int} {k : Int} (hs : SqL K H a0 (ns.map V.int)) (h0 : 0 ≤ k) (q : Q (.int (atN ns k.toNat)) H) : sp_at K [.ref a0, .int k] H Q E := ⟨a0, ns, k, rfl, hs, h0, q⟩
theorem nat_of {z : Int} (h : 0 ≤ z) : ∃ n : Nat, z = (n : Int) := ⟨z.toNat, by omega⟩
/-- range(i, j, c), small and upwards -/
theorem rgc_up {i j c : Int} (h1 : 0 ≤ i) (h2 : i ≤ 1000) (h3 : 0 ≤ j) (h4 : j ≤ 1000) (h5 : 1 ≤ c) (h6 : c ≤ 1000) : ∃ n : Nat, RgC i j c n ∧ ∀ k : Nat, k < n → i + (k : Int) * c < j := by
  have hq : 0 ≤ (j - i + c - 1) / c ∨ j ≤ i := by
    rcases Int.lt_or_le i j with h | h
    · left; exact Int.ediv_nonneg (by omega) (by omega)
    · exact .inr h
  have hle : (j - i + c - 1) / c ≤ 3000 := by
    rcases Int.lt_or_le (j - i + c - 1) 0 with h | h
    · have := Int.ediv_neg_of_neg_of_pos h (by omega : 0 < c); omega
    · exact Int.le_trans (Int.ediv_le_self _ h) (by omega)
  have es : Builtin.Range.rangeSize i j c = if i < j then (j - i - 1) / c + 1 else 0 := by
    unfold Builtin.Range.rangeSize
    rw [if_pos (by omega : c > 0)]
  have hdn : i < j → 0 ≤ (j - i - 1) / c := fun h => Int.ediv_nonneg (by omega) (by omega)
  have hdl : i < j → (j - i - 1) / c ≤ 1000 := fun h => Int.le_trans (Int.ediv_le_self _ (by omega)) (by omega)
  refine ⟨(Builtin.Range.rangeSize i j c).toNat, ⟨by omega, by omega, ?_, ?_⟩, fun k hk => ?_⟩
  · unfold Builtin.Range.small
    rw [es]
    simp only [Builtin.Range.rangeFitsLong, Bool.and_eq_true, Bool.or_eq_true, decide_eq_true_eq, beq_iff_eq, show c > 0 by omega, if_true]
    split
    · have a := hdn (by assumption); have b := hdl (by assumption); omega
    · omega
  · rw [es]
    split
    · have a := hdn (by assumption); omega
    · rfl
  · rw [es] at hk
    split at hk
    · have a := hdn (by assumption)
      have e := Int.mul_ediv_add_emod (j - i - 1) c
      have r := Int.emod_nonneg (j - i - 1) (by omega : c ≠ 0)
      have hk' : (k : Int) ≤ (j - i - 1) / c := by omega
      have hm : (k : Int) * c ≤ (j - i - 1) / c * c := Int.mul_le_mul_of_nonneg_right hk' (by omega)
      rw [Int.mul_comm ((j - i - 1) / c) c] at hm
      omega
    · omega
theorem rd_rng3 {i j c : Int} {R : It → Prop} (h1 : 0 ≤ i) (h2 : i ≤ 1000) (h3 : 0 ≤ j) (h4 : j ≤ 1000) (h5 : 1 ≤ c) (h6 : c ≤ 1000) (h : ∀ n : Nat, (∀ k : Nat, k < n → i + (k : Int) * c < j) → R (Itc i c n)) : ∃ (i' j' c' : Int) (n : Nat), [V.int i, V.int j, V.int c] = [.int i', .int j', .int c'] ∧ RgC i' j' c' n ∧ R (Itc i' c' n) := by
  obtain ⟨n, a, b⟩ := rgc_up h1 h2 h3 h4 h5 h6
  exact ⟨i, j, c, n, rfl, a, h n b⟩
end JF

/-! ### rules: clauses and conditions -/
namespace JF
open PySem PySem.Spec PyProof.Rows L2
/-! #### the plain meaning -/
inductive Cond where
  | amt (s : Int) (ns : List Int)
  | plc (ws : List (Option Int))
structure Cla where
  taken : Option Int
  conds : List Cond
  made : Int
def wishOk : Option Int → Int → Bool
  | none, _ => true
  | some w, x => decide (w = x)
def plcOk : List (Option Int) → List Int → Bool
  | w :: ws, x :: xs => wishOk w x && plcOk ws xs
  | _, _ => true
def Cond.holds : Cond → List Int → Bool
  | amt s ns, xs => decide ((xs.count s : Int) ∈ ns)
  | plc ws, xs => plcOk ws xs
def Cla.fits (c : Cla) (cell : Int) (xs : List Int) : Bool := wishOk c.taken cell && c.conds.all fun k => k.holds xs
def firstFit (cell : Int) (xs : List Int) : List Cla → Option Nat
  | [] => none
  | c :: cs => if c.fits cell xs = true then some 0 else (firstFit cell xs cs).map (· + 1)
def ruleMakes (cs : List Cla) (cell : Int) (xs : List Int) : Int :=
  match firstFit cell xs cs with
  | none => cell
  | some i => (cs[i]?.map Cla.made).getD cell
def optV : Option Int → V
  | none => .non
  | some i => .int i
def optN : Option Nat → V
  | none => .non
  | some i => .int (i : Int)
/-! #### in the heap -/
def CondAt (K : PySem.W.Frag) (H : Hp) (v : V) : Cond → Prop
  | .amt s ns => ∃ p dx l, v = .ref p ∧ H p = some (.ins (He.ga K "Amount") dx [("state", .int s), ("numbers", .ref l)]) ∧ H l = some (.lst (ns.map V.int))
  | .plc ws => ∃ p dx l, v = .ref p ∧ H p = some (.ins (He.ga K "Places") dx [("wanted", .ref l)]) ∧ H l = some (.lst (ws.map optV))
def AllV {α : Type} (R : V → α → Prop) : List V → List α → Prop
  | [], [] => True
  | v :: vs, x :: xs => R v x ∧ AllV R vs xs
  | _, _ => False
theorem AllV.len {α : Type} {R : V → α → Prop} : ∀ {vs : List V} {xs : List α}, AllV R vs xs → vs.length = xs.length
  | [], [], _ => rfl
  | _ :: _, _ :: _, h => congrArg (· + 1) (AllV.len h.2)
  | [], _ :: _, h => h.elim
  | _ :: _, [], h => h.elim
theorem AllV.get {α : Type} {R : V → α → Prop} : ∀ {vs : List V} {xs : List α} {i : Nat} {v : V}, AllV R vs xs → vs[i]? = some v → ∃ x, xs[i]? = some x ∧ R v x
  | [], [], _, _, _, e => by simp at e
  | v :: vs, x :: xs, 0, _, h, e => by
    simp only [List.getElem?_cons_zero, Option.some.injEq] at e
    subst e
    exact ⟨x, rfl, h.1⟩
  | v :: vs, x :: xs, i + 1, _, h, e => by
    simp only [List.getElem?_cons_succ] at e ⊢
    exact AllV.get h.2 e
  | [], _ :: _, _, _, h, _ => h.elim
  | _ :: _, [], _, _, h, _ => h.elim
theorem AllV.imp {α : Type} {R R' : V → α → Prop} (k : ∀ v x, R v x → R' v x) : ∀ {vs : List V} {xs : List α}, AllV R vs xs → AllV R' vs xs
  | [], [], _ => trivial
  | _ :: _, _ :: _, h => ⟨k _ _ h.1, AllV.imp k h.2⟩
  | [], _ :: _, h => h.elim
  | _ :: _, [], h => h.elim
theorem AllV.app {α : Type} {R : V → α → Prop} {v : V} {x : α} (r : R v x) : ∀ {vs : List V} {xs : List α}, AllV R vs xs → AllV R (vs ++ [v]) (xs ++ [x])
  | [], [], _ => ⟨r, trivial⟩
  | _ :: _, _ :: _, h => ⟨h.1, AllV.app r h.2⟩
  | [], _ :: _, h => h.elim
  | _ :: _, [], h => h.elim
theorem CondAt.same {K : PySem.W.Frag} {H H' : Hp} {v : V} {c : Cond} (h : CondAt K H v c) (s : Same H H') : CondAt K H' v c := by
  cases c with
  | amt st ns =>
    obtain ⟨p, dx, l, e, h1, h2⟩ := h
    exact ⟨p, dx, l, e, s _ _ h1, s _ _ h2⟩
  | plc ws =>
    obtain ⟨p, dx, l, e, h1, h2⟩ := h
    exact ⟨p, dx, l, e, s _ _ h1, s _ _ h2⟩
def ClaAt (K : PySem.W.Frag) (H : Hp) (v : V) (c : Cla) : Prop := ∃ p dx l ps, v = .ref p ∧ H p = some (.ins (He.ga K "Clause") dx [("taken", optV c.taken), ("conditions", .ref l), ("made", .int c.made)]) ∧ H l = some (.lst ps) ∧ AllV (CondAt K H) ps c.conds
theorem ClaAt.same {K : PySem.W.Frag} {H H' : Hp} {v : V} {c : Cla} (h : ClaAt K H v c) (s : Same H H') : ClaAt K H' v c := by
  obtain ⟨p, dx, l, ps, e, h1, h2, h3⟩ := h
  exact ⟨p, dx, l, ps, e, s _ _ h1, s _ _ h2, h3.imp fun _ _ h => h.same s⟩
def RuleAt (K : PySem.W.Frag) (H : Hp) (v : V) (cs : List Cla) : Prop := ∃ p dx l ps, v = .ref p ∧ H p = some (.ins (He.ga K "Rule") dx [("clauses", .ref l)]) ∧ H l = some (.lst ps) ∧ AllV (ClaAt K H) ps cs
theorem RuleAt.same {K : PySem.W.Frag} {H H' : Hp} {v : V} {cs : List Cla} (h : RuleAt K H v cs) (s : Same H H') : RuleAt K H' v cs := by
  obtain ⟨p, dx, l, ps, e, h1, h2, h3⟩ := h
  exact ⟨p, dx, l, ps, e, s _ _ h1, s _ _ h2, h3.imp fun _ _ h => h.same s⟩
theorem inV_ints (i : Int) (ns : List Int) : inV (.int i) (ns.map V.int) = decide (i ∈ ns) := by
  induction ns with
  | nil => rfl
  | cons n ns ih =>
    have e : inV (.int i) ((n :: ns).map V.int) = (eqV (.int n) (.int i) || inV (.int i) (ns.map V.int)) := rfl
    rw [e, ih]
    by_cases h : i = n
    · subst h
      have : eqV (.int i) (.int i) = true := by simp [eqV]
      simp [this]
    · have : eqV (.int n) (.int i) = false := by simp [eqV, Ne.symm h]
      simp [this, h]
theorem flat_ints (ns : List Int) : (ns.map V.int).all flatV = true := by
  induction ns with
  | nil => rfl
  | cons n ns ih => exact ih
section
variable {K : PySem.W.Frag} {σ : L2.St} {H : Hp} {Q : VK}
theorem rd_inI {p : Addr} {i : Int} {ns : List Int} (h : SqL K H p (ns.map V.int)) (q : Q (.bl (decide (i ∈ ns))) H) : rIn K false (.int i) (.ref p) H Q := ⟨p, _, rfl, .inl h, rfl, flat_ints ns, by rw [inV_ints]; exact q⟩
theorem rd_make {C : Addr} {sp : Sp} {tr : TA} (h : tr σ H fun vs H1 => ∀ x dx, H1 x = none → H1 dx = none → dx ≠ x → sp (.ref x :: (vs ++ [])) (upd (upd H1 dx (.own x)) x (.ins C dx [])) (fun v H2 => v = .non ∧ Q (.ref x) H2) E0) : tMake C sp [] E0 tr σ H Q := h
theorem made_same2 {H : Hp} {x dx : Addr} {o o' : HO} (hx : H x = none) (hdx : H dx = none) : Same H (upd (upd H dx o) x o') := fun b u e => by
  rw [upd_ne (ne_of_none e hx), upd_ne (ne_of_none e hdx)]; exact e
theorem Same.put {H0 H : Hp} {p : Addr} {o : HO} (s : Same H0 H) (h : H0 p = none) : Same H0 (upd H p o) := fun b u e => by
  rw [upd_ne (ne_of_none e h)]; exact s b u e
end
section
variable {P : Program} {w : World} {K : PySem.W.Frag} {mg : Str → Option Value} {base : Heap}
/-! #### conditions on amounts -/
def sp_amt_init (C : Addr) : Sp := fun vs H Q _ => ∃ (p dx l : Addr) (s : Int), vs = [.ref p, .int s, .ref l] ∧ H p = some (.ins C dx []) ∧ Q .non (upd (upd H p (.ins C dx [("state", .int s)])) p (.ins C dx [("state", .int s), ("numbers", .ref l)]))
theorem ok_amt_init (T : Env fa fn K mg) : Good P w K mg base CX0 1 ("Amount", some "__init__") ["self", "state", "numbers"] (sp_amt_init (He.ga K "Amount")) := by
  refine good_mk T 3 (d := d_Amount_init) (N := ["self", "state", "numbers"]) (ps := ["self", "state", "numbers"]) rfl rfl sc_Amount_init (fun _ _ _ _ _ _ us hl => match us, hl with | [_, _, _], _ => rfl) (fun vs H Q E h => ?_) (fun f cdv A outer σ0 H vs Q E hr h => ?_)
  · obtain ⟨p, dx, l, s, rfl, _⟩ := h; rfl
  · obtain ⟨p, dx, l, s, rfl, hp, k⟩ := h
    have cl := T.cls 7
    refine ⟨_, (pss_cons (ps_fld (pv 0) (pv 1) rfl)
      (pss_one (ps_fld (pv 0) (pv 2) rfl))), ?_⟩
    walk_at "rd"
    refine ⟨p, _, dx, [], rfl, hp, cl, T.noat 56, by decide, ?_⟩
    walk_at "rd"
    refine ⟨p, _, dx, _, rfl, upd_same, cl, T.noat 55, (by show 1 < 1000; decide), ?_⟩
    exact k
def sp_amt_holds (C : Addr) : Sp := fun vs H Q _ => ∃ (p dx l r : Addr) (s : Int) (ns xs : List Int), vs = [.ref p, .ref r] ∧ H p = some (.ins C dx [("state", .int s), ("numbers", .ref l)]) ∧ H l = some (.lst (ns.map V.int)) ∧ H r = some (.lst (xs.map V.int)) ∧ Q (.bl ((Cond.amt s ns).holds xs)) H
theorem ok_amt_holds (T : Env fa fn K mg) : Good P w K mg base CX0 1 ("Amount", some "holds") ["self", "around"] (sp_amt_holds (He.ga K "Amount")) := by
  refine good_mk T 4 (d := d_Amount_holds) (N := ["self", "around"]) (ps := ["self", "around"]) rfl rfl sc_Amount_holds (fun _ _ _ _ _ _ us hl => match us, hl with | [_, _], _ => rfl) (fun vs H Q E h => ?_) (fun f cdv A outer σ0 H vs Q E hr h => ?_)
  · obtain ⟨p, dx, l, r, s, ns, xs, rfl, _⟩ := h; rfl
  · obtain ⟨p, dx, l, r, s, ns, xs, rfl, hp, hl, hx, k⟩ := h
    have cl := T.cls 7
    have n1 := T.noat 56
    have n2 := T.noat 55
    refine ⟨_, (pss_one (ps_ret (pe_cmpR (op_inK K rfl) (pe_bm PySem.F.plainAttrs_list PySem.F.slot_list_count PySem.F.type_list_count mt_lcount (pv 1) (pa_cons (pe_fldK K rfl (pv 0) rfl) pa_nil)) (pe_fldK K rfl (pv 0) rfl) (by first | exact nomark _ | rfl)))), ?_⟩
    walk_at "rd"
    refine rd_tyL hx ?_
    walk_at "rd"
    refine ⟨r, xs, s, rfl, rfl, SqL.of hx, ?_⟩
    walk_at "rd"
    exact rd_inI (SqL.of hl) k
/-! #### conditions on places -/
def sp_plc_init (C : Addr) : Sp := fun vs H Q _ => ∃ (p dx l : Addr), vs = [.ref p, .ref l] ∧ H p = some (.ins C dx []) ∧ Q .non (upd H p (.ins C dx [("wanted", .ref l)]))
theorem ok_plc_init (T : Env fa fn K mg) : Good P w K mg base CX0 1 ("Places", some "__init__") ["self", "wanted"] (sp_plc_init (He.ga K "Places")) := by
  refine good_mk T 6 (d := d_Places_init) (N := ["self", "wanted"]) (ps := ["self", "wanted"]) rfl rfl sc_Places_init (fun _ _ _ _ _ _ us hl => match us, hl with | [_, _], _ => rfl) (fun vs H Q E h => ?_) (fun f cdv A outer σ0 H vs Q E hr h => ?_)
  · obtain ⟨p, dx, l, rfl, _⟩ := h; rfl
  · obtain ⟨p, dx, l, rfl, hp, k⟩ := h
    have cl := T.cls 5
    refine ⟨_, (pss_one (ps_fld (pv 0) (pv 1) rfl)), ?_⟩
    walk_at "rd"
    refine ⟨p, _, dx, [], rfl, hp, cl, T.noat 60, by decide, ?_⟩
    exact k
def sp_plc_holds (C : Addr) : Sp := fun vs H Q _ => ∃ (p dx l r : Addr) (ws : List (Option Int)) (xs : List Int), vs = [.ref p, .ref r] ∧ H p = some (.ins C dx [("wanted", .ref l)]) ∧ H l = some (.lst (ws.map optV)) ∧ H r = some (.lst (xs.map V.int)) ∧ ws.length = 8 ∧ xs.length = 8 ∧ ∀ H', Same H H' → Q (.bl ((Cond.plc ws).holds xs)) H'
theorem plcOk_split : ∀ (ws : List (Option Int)) (xs : List Int) (i : Nat) (w : Option Int) (x : Int), ws[i]? = some w → xs[i]? = some x → wishOk w x = false → plcOk ws xs = false
  | w0 :: ws, x0 :: xs, 0, w, x, h1, h2, h3 => by
    simp only [List.getElem?_cons_zero, Option.some.injEq] at h1 h2
    subst h1 h2
    show (wishOk w0 x0 && plcOk ws xs) = false
    rw [h3]; rfl
  | w0 :: ws, x0 :: xs, i + 1, w, x, h1, h2, h3 => by
    show (wishOk w0 x0 && plcOk ws xs) = false
    rw [plcOk_split ws xs i w x h1 h2 h3, Bool.and_false]
  | [], _, _, _, _, h1, _, _ => by simp at h1
  | _ :: _, [], _, _, _, _, h2, _ => by simp at h2
theorem plcOk_all : ∀ (ws : List (Option Int)) (xs : List Int), (∀ (i : Nat) w x, ws[i]? = some w → xs[i]? = some x → wishOk w x = true) → plcOk ws xs = true
  | w :: ws, x :: xs, h => by
    show (wishOk w x && plcOk ws xs) = true
    rw [h 0 w x rfl rfl, plcOk_all ws xs fun i w' x' h1 h2 => h (i + 1) w' x' (by simpa using h1) (by simpa using h2)]; rfl
  | [], _, _ => rfl
  | _ :: _, [], _ => rfl
theorem ok_plc_holds (T : Env fa fn K mg) : Good P w K mg base CX0 1 ("Places", some "holds") ["self", "around"] (sp_plc_holds (He.ga K "Places")) := by
  refine good_mk T 7 (d := d_Places_holds) (N := ["self", "around", "wish", "state"]) (ps := ["self", "around"]) rfl rfl sc_Places_holds (fun _ _ _ _ _ _ us hl => match us, hl with | [_, _], _ => rfl) (fun vs H Q E h => ?_) (fun f cdv A outer σ0 H vs Q E hr h => ?_)
  · obtain ⟨p, dx, l, r, ws, xs, rfl, _⟩ := h; rfl
  · obtain ⟨p, dx, l, r, ws, xs, rfl, hp, hl, hx, hw8, hx8, k⟩ := h
    have cl := T.cls 5
    have n1 := T.noat 60
    refine ⟨_, (pss_cons (ps_for PassesOwn.never rfl (pi_zip (by rfl) (T.free 1) (pa_cons (pe_fldK K rfl (pv 0) rfl) (pa_cons (pv 1) pa_nil))) (pg_tup rfl (pgs_cons (pg_name (i := 2) sc_Places_holds.nd rfl (Or.inl rfl)) (pgs_cons (pg_name (i := 3) sc_Places_holds.nd rfl (Or.inl rfl)) pgs_nil))) (pss_one (ps_if (PW.pt (pw_and (pt_cmpR op_notN (pv 2) pe_non (nomark _)) (pw_and1 (pt_cmpR op_ne (pv 2) (pv 3) (nomark _))))) (pss_one (ps_ret pe_bl)) pss_nil)))
      (pss_one (ps_ret pe_bl))), ?_⟩
    walk_at "rd"
    refine ⟨l, r, _, _, rfl, SqL.of hl, SqL.of hx, ?_⟩
    refine RZ.for_zipL (xs := ws.map optV) (ys := xs.map V.int) (by simp [hw8, hx8]) (fun i σ H' => Same H H' ∧ (∀ (j : Nat) w x, j < i → ws[j]? = some w → xs[j]? = some x → wishOk w x = true) ∧ ∃ x2 x3 : Option V, σ = [some (.ref p), some (.ref r), x2, x3])
      ⟨Same.refl _, fun j w x h => by omega, none, none, rfl⟩ (fun i σ H' h => ⟨SqL.of (h.1 _ _ hl), SqL.of (h.1 _ _ hx)⟩) ?_ ?_
    · rintro i x y T' σ H1 hxi hyi ⟨s1, hall, x2, x3, rfl⟩ hT'
      obtain ⟨w_, hw_, rfl⟩ : ∃ w_, ws[i]? = some w_ ∧ x = optV w_ := by
        rw [List.getElem?_map] at hxi
        cases e : ws[i]? with
        | none => rw [e] at hxi; cases hxi
        | some c => rw [e] at hxi; exact ⟨c, rfl, (Option.some.inj hxi).symm⟩
      obtain ⟨z, hz, rfl⟩ : ∃ z, xs[i]? = some z ∧ y = .int z := by
        rw [List.getElem?_map] at hyi
        cases e : xs[i]? with
        | none => rw [e] at hyi; cases hyi
        | some c => rw [e] at hyi; exact ⟨c, rfl, (Option.some.inj hyi).symm⟩
      have s2 := same_upd (o := HO.tup [optV w_, V.int z]) hT'
      have hT2 : (upd H1 T' (HO.tup [optV w_, V.int z])) T' = some (.tup [optV w_, V.int z]) := upd_same
      have next : wishOk w_ z = true → ∀ (j : Nat) w x, j < i + 1 → ws[j]? = some w → xs[j]? = some x → wishOk w x = true := fun hk j w x hj h1 h2 => by
        rcases Nat.lt_or_ge j i with h | h
        · exact hall j w x h h1 h2
        · have e : j = i := by omega
          subst e
          rw [hw_] at h1; rw [hz] at h2
          cases h1; cases h2
          exact hk
      walk_at "rd"
      cases w_ with
      | none =>
        refine iteF ?_
        walk_at "rd"
        exact ⟨s1.trans s2, next rfl, _, _, rfl⟩
      | some w0 =>
        refine iteT ?_
        walk_at "rd"
        refine rd_neI ?_
        refine rd_bl ?_
        refine ite_nd (fun hne => ?_) (fun he => ?_)
        · walk_at "rd"
          have e : (Cond.plc ws).holds xs = false := plcOk_split ws xs i _ _ hw_ hz (by show decide (w0 = z) = false; exact decide_eq_false hne)
          rw [e] at k
          exact k _ (s1.trans s2)
        · walk_at "rd"
          exact ⟨s1.trans s2, next (by show decide (w0 = z) = true; exact decide_eq_true he), _, _, rfl⟩
    · rintro σ H' ⟨s1, hall, x2, x3, rfl⟩
      walk_at "rd"
      have e : (Cond.plc ws).holds xs = true := plcOk_all ws xs fun i w x h1 h2 => hall i w x (by have := (List.getElem?_eq_some_iff.mp h1).1; rw [List.length_map]; exact this) h1 h2
      rw [e] at k
      exact k _ s1
theorem mp_amt_holds {C : Addr} : MonP (sp_amt_holds C) := fun vs H Q Q' E h ⟨p, dx, l, r, s, ns, xs, x1, x2, x3, x4, q⟩ => ⟨p, dx, l, r, s, ns, xs, x1, x2, x3, x4, h _ _ q⟩
theorem mp_plc_holds {C : Addr} : MonP (sp_plc_holds C) := fun vs H Q Q' E h ⟨p, dx, l, r, ws, xs, x1, x2, x3, x4, x5, x6, q⟩ => ⟨p, dx, l, r, ws, xs, x1, x2, x3, x4, x5, x6, fun H' s => h _ _ (q H' s)⟩
/-! #### clauses -/
def sp_cla_init (C : Addr) : Sp := fun vs H Q _ => ∃ (p dx l : Addr) (t : Option Int) (m : Int), vs = [.ref p, optV t, .ref l, .int m] ∧ H p = some (.ins C dx []) ∧ ∀ H', (∀ b, b ≠ p → H' b = H b) → H' p = some (.ins C dx [("taken", optV t), ("conditions", .ref l), ("made", .int m)]) → Q .non H'
theorem ok_cla_init (T : Env fa fn K mg) : Good P w K mg base CX0 1 ("Clause", some "__init__") ["self", "taken", "conditions", "made"] (sp_cla_init (He.ga K "Clause")) := by
  refine good_mk T 10 (d := d_Clause_init) (N := ["self", "taken", "conditions", "made"]) (ps := ["self", "taken", "conditions", "made"]) rfl rfl sc_Clause_init (fun _ _ _ _ _ _ us hl => match us, hl with | [_, _, _, _], _ => rfl) (fun vs H Q E h => ?_) (fun f cdv A outer σ0 H vs Q E hr h => ?_)
  · obtain ⟨p, dx, l, t, m, rfl, _⟩ := h; rfl
  · obtain ⟨p, dx, l, t, m, rfl, hp, k⟩ := h
    have cl := T.cls 16
    refine ⟨_, (pss_cons (ps_fld (pv 0) (pv 1) rfl)
      (pss_cons (ps_fld (pv 0) (pv 2) rfl)
      (pss_one (ps_fld (pv 0) (pv 3) rfl)))), ?_⟩
    walk_at "rd"
    refine ⟨p, _, dx, [], rfl, hp, cl, T.noat 59, by decide, ?_⟩
    walk_at "rd"
    refine ⟨p, _, dx, _, rfl, upd_same, cl, T.noat 57, (by show 1 < 1000; decide), ?_⟩
    walk_at "rd"
    refine ⟨p, _, dx, _, rfl, upd_same, cl, T.noat 58, (by show 2 < 1000; decide), ?_⟩
    exact k _ (fun b hb => by rw [upd_ne hb, upd_ne hb, upd_ne hb]) upd_same
def CondOk : Cond → Prop
  | .amt _ _ => True
  | .plc ws => ws.length = 8
def sp_fits (K : PySem.W.Frag) : Sp := fun vs H Q _ => ∃ (v : V) (r : Addr) (c : Cla) (cell : Int) (xs : List Int), vs = [v, .int cell, .ref r] ∧ ClaAt K H v c ∧ H r = some (.lst (xs.map V.int)) ∧ xs.length = 8 ∧ (∀ k ∈ c.conds, CondOk k) ∧ ∀ H', Same H H' → Q (.bl (c.fits cell xs)) H'
theorem mp_fits : MonP (sp_fits K) := fun vs H Q Q' E h ⟨v, r, c, cell, xs, x1, x2, x3, x4, x5, k⟩ => ⟨v, r, c, cell, xs, x1, x2, x3, x4, x5, fun H' s => h _ _ (k H' s)⟩
theorem ok_fits (T : Env fa fn K mg) : Good P w K mg base CX0 2 ("Clause", some "fits") ["self", "cell", "around"] (sp_fits K) := by
  have G_Amount_holds := ok_amt_holds (P := P) (w := w) (base := base) T
  have G_Places_holds := ok_plc_holds (P := P) (w := w) (base := base) T
  refine good_mk T 11 (d := d_Clause_fits) (N := ["self", "cell", "around", "condition"]) (ps := ["self", "cell", "around"]) rfl rfl sc_Clause_fits (fun _ _ _ _ _ _ us hl => match us, hl with | [_, _, _], _ => rfl) (fun vs H Q E h => ?_) (fun f cdv A outer σ0 H vs Q E hr h => ?_)
  · obtain ⟨v, r, c, cell, xs, rfl, _⟩ := h; rfl
  · obtain ⟨v, r, c, cell, xs, rfl, ⟨p, dx, l, ps, rfl, hp, hl, hc⟩, hx, hx8, hok, k⟩ := h
    have cl := T.cls 16
    have n1 := T.noat 59
    have n2 := T.noat 57
    refine ⟨_, (pss_cons (ps_if (PW.pt (pw_and (pt_cmpR op_notN (pe_fldK K rfl (pv 0) rfl) pe_non (nomark _)) (pw_and1 (pt_cmpR op_ne (pe_fldK K rfl (pv 0) rfl) (pv 1) (nomark _))))) (pss_one (ps_ret pe_bl)) pss_nil)
      (pss_cons (ps_for PassesOwn.never rfl (pi_listK K rfl (pe_fldK K rfl (pv 0) rfl)) (pg_name (i := 3) sc_Clause_fits.nd rfl (Or.inl rfl)) (pss_one (ps_if (pt_not (pt_val (pe_or (pe_mgK K rfl (pv 3) (T.cls 7) (T.meth 8) G_Amount_holds (hr.mono (by decide)) (pa_cons (pv 2) pa_nil)) (pe_mgK K rfl (pv 3) (T.cls 5) (T.meth 6) G_Places_holds (hr.mono (by decide)) (pa_cons (pv 2) pa_nil))))) (pss_one (ps_ret pe_bl)) pss_nil)))
      (pss_one (ps_ret pe_bl)))), ?_⟩
    have main : wishOk c.taken cell = true → ∀ D : Ends, (D.nx = fun x H' => Q .non H') → D.rt = Q → True := fun _ _ _ _ => trivial
    refine rd_cut (fun σ H' => H' = H ∧ wishOk c.taken cell = true ∧ σ = [some (.ref p), some (.int cell), some (.ref r), none]) (by walk_at "mono") ?_ ?_
    · walk_at "rd"
      obtain ⟨ct, cc, cm⟩ := c
      cases ct with
      | none =>
        refine iteF ?_
        walk_at "rd"
        exact ⟨rfl, rfl, rfl⟩
      | some t =>
        refine iteT ?_
        walk_at "rd"
        refine rd_neI ?_
        refine rd_bl ?_
        refine ite_nd (fun hne => ?_) (fun he => ?_)
        · walk_at "rd"
          have e : (Cla.fits ⟨some t, cc, cm⟩ cell xs) = false := by
            show (decide (t = cell) && _) = false
            rw [decide_eq_false hne]; rfl
          rw [e] at k
          exact k _ (Same.refl _)
        · walk_at "rd"
          exact ⟨rfl, decide_eq_true he, rfl⟩
    rintro σ H1 ⟨rfl, hw, rfl⟩
    walk_at "rd"
    refine ⟨l, rfl, ⟨_, SqL.of hl⟩, ?_⟩
    refine for_it (walk_list (xs := ps)) (fun i σ H' => Same H1 H' ∧ (∀ (j : Nat) kc, j < i → c.conds[j]? = some kc → kc.holds xs = true) ∧ ∃ x3 : Option V, σ = [some (.ref p), some (.int cell), some (.ref r), x3]) ⟨Same.refl _, fun j kc h => by omega, none, rfl⟩ ?_ ?_ ?_
    · rintro i σ H' _ ⟨s1, _⟩
      exact SqL.of (s1 _ _ hl)
    · rintro i x σ Ha Hb hi ⟨s1, hall, x3, rfl⟩ ⟨rfl, hxi⟩
      obtain ⟨kc, hkc, hat⟩ := hc.get hxi
      have hok1 := hok kc (List.mem_of_getElem? hkc)
      have hat' := hat.same s1
      have hx' := s1 _ _ hx
      have stop : kc.holds xs = false → ∀ H', Same H1 H' → Q (.bl false) H' := fun he H' s => by
        have e : c.fits cell xs = false := by
          show (wishOk c.taken cell && c.conds.all fun k => k.holds xs) = false
          have e2 : (c.conds.all fun k => k.holds xs) = false := by
            rw [List.all_eq_false]
            exact ⟨kc, List.mem_of_getElem? hkc, by simp [he]⟩
          rw [e2, Bool.and_false]
        rw [e] at k
        exact k _ s
      have next : kc.holds xs = true → ∀ (j : Nat) kc', j < i + 1 → c.conds[j]? = some kc' → kc'.holds xs = true := fun hk j kc' hj h1 => by
        rcases Nat.lt_or_ge j i with h | h
        · exact hall j kc' h h1
        · have e : j = i := by omega
          subst e
          rw [hkc] at h1
          cases h1
          exact hk
      walk_at "rd"
      cases kc with
      | amt st ns =>
        obtain ⟨q, dq, lq, rfl, hq, hlq⟩ := hat'
        left
        walk_at "rd"
        refine rd_methR hq (by rfl) ?_
        walk_at "rd"
        refine ⟨q, dq, lq, r, st, ns, xs, rfl, hq, hlq, hx', ?_⟩
        refine ⟨_, rfl, ?_⟩
        refine ite_nb (fun hb => ?_) (fun hb => ?_)
        · walk_at "rd"
          exact stop hb _ s1
        · walk_at "rd"
          exact ⟨s1, next hb, _, rfl⟩
      | plc ws =>
        obtain ⟨q, dq, lq, rfl, hq, hlq⟩ := hat'
        right
        walk_at "rd"
        refine rd_methR hq (by rfl) ?_
        walk_at "rd"
        refine ⟨q, dq, lq, r, ws, xs, rfl, hq, hlq, hx', hok1, hx8, fun H2 s2 => ?_⟩
        refine ⟨_, rfl, ?_⟩
        refine ite_nb (fun hb => ?_) (fun hb => ?_)
        · walk_at "rd"
          exact stop hb _ (s1.trans s2)
        · walk_at "rd"
          exact ⟨s1.trans s2, next hb, _, rfl⟩
    · rintro σ H' ⟨s1, hall, x3, rfl⟩
      walk_at "rd"
      have e : c.fits cell xs = true := by
        show (wishOk c.taken cell && c.conds.all fun k => k.holds xs) = true
        have e2 : (c.conds.all fun k => k.holds xs) = true := by
          rw [List.all_eq_true]
          intro kc hm
          obtain ⟨j, hj, rfl⟩ := List.mem_iff_getElem.mp hm
          exact hall j _ (by rw [hc.len]; exact hj) (at_get hj)
        rw [hw, e2]; rfl
      rw [e] at k
      exact k _ s1
end
end JF

/-! ### rules: deciding, reading -/
namespace JF
open PySem PySem.Spec PyProof.Rows L2
theorem fit_at {cell : Int} {xs : List Int} : ∀ {cs : List Cla} {i : Nat} {c : Cla}, (∀ (j : Nat) d, j < i → cs[j]? = some d → d.fits cell xs = false) → cs[i]? = some c → c.fits cell xs = true → firstFit cell xs cs = some i
  | d :: cs, 0, c, _, h2, h3 => by
    simp only [List.getElem?_cons_zero, Option.some.injEq] at h2
    subst h2
    unfold firstFit
    rw [if_pos h3]
  | d :: cs, i + 1, c, h1, h2, h3 => by
    unfold firstFit
    rw [if_neg (by rw [h1 0 d (by omega) rfl]; decide), fit_at (i := i) (c := c) (fun j d' hj e => h1 (j + 1) d' (by omega) (by simpa using e)) (by simpa using h2) h3]
    rfl
  | [], _, _, _, h2, _ => by simp at h2
theorem fit_none {cell : Int} {xs : List Int} : ∀ {cs : List Cla}, (∀ (j : Nat) d, cs[j]? = some d → d.fits cell xs = false) → firstFit cell xs cs = none
  | [], _ => rfl
  | d :: cs, h => by
    unfold firstFit
    rw [if_neg (by rw [h 0 d rfl]; decide), fit_none fun j d' e => h (j + 1) d' (by simpa using e)]
    rfl
theorem fit_lt {cell : Int} {xs : List Int} : ∀ {cs : List Cla} {i : Nat}, firstFit cell xs cs = some i → ∃ c, cs[i]? = some c ∧ c.fits cell xs = true
  | d :: cs, i, h => by
    unfold firstFit at h
    by_cases z : d.fits cell xs = true
    · rw [if_pos z] at h
      cases h
      exact ⟨d, rfl, z⟩
    · rw [if_neg z] at h
      cases e : firstFit cell xs cs with
      | none => rw [e] at h; cases h
      | some j =>
        rw [e] at h
        cases h
        obtain ⟨c, h1, h2⟩ := fit_lt e
        exact ⟨c, by simpa using h1, h2⟩
  | [], _, h => by cases h
def RuleOk (cs : List Cla) : Prop := ∀ c ∈ cs, ∀ k ∈ c.conds, CondOk k
section
variable {P : Program} {w : World} {K : PySem.W.Frag} {mg : Str → Option Value} {base : Heap}
def sp_deciding (K : PySem.W.Frag) : Sp := fun vs H Q _ => ∃ (v : V) (r : Addr) (cs : List Cla) (cell : Int) (xs : List Int), vs = [v, .int cell, .ref r] ∧ RuleAt K H v cs ∧ H r = some (.lst (xs.map V.int)) ∧ xs.length = 8 ∧ RuleOk cs ∧ ∀ H', Same H H' → Q (optN (firstFit cell xs cs)) H'
theorem mp_deciding : MonP (sp_deciding K) := fun vs H Q Q' E h ⟨v, r, cs, cell, xs, x1, x2, x3, x4, x5, k⟩ => ⟨v, r, cs, cell, xs, x1, x2, x3, x4, x5, fun H' s => h _ _ (k H' s)⟩
theorem ok_deciding (T : Env fa fn K mg) : Good P w K mg base CX0 3 ("deciding", none) ["rule", "cell", "around"] (sp_deciding K) := by
  have G_Clause_fits := ok_fits (P := P) (w := w) (base := base) T
  refine good_mk T 16 (d := d_deciding) (N := ["rule", "cell", "around", "at", "clause"]) (ps := ["rule", "cell", "around"]) rfl rfl sc_deciding (fun _ _ _ _ _ _ us hl => match us, hl with | [_, _, _], _ => rfl) (fun vs H Q E h => ?_) (fun f cdv A outer σ0 H vs Q E hr h => ?_)
  · obtain ⟨v, r, cs, cell, xs, rfl, _⟩ := h; rfl
  · obtain ⟨v, r, cs, cell, xs, rfl, ⟨p, dx, l, ps, rfl, hp, hl, hc⟩, hx, hx8, hok, k⟩ := h
    have cl := T.cls 62
    have clc := T.cls 16
    have n1 := T.noat 61
    refine ⟨_, (pss_cons (ps_for PassesOwn.never rfl (pi_enum (by rfl) (T.free 15) (pa_cons (pe_fldK K rfl (pv 0) rfl) pa_nil)) (pg_tup rfl (pgs_cons (pg_name (i := 3) sc_deciding.nd rfl (Or.inl rfl)) (pgs_cons (pg_name (i := 4) sc_deciding.nd rfl (Or.inl rfl)) pgs_nil))) (pss_one (ps_if (pt_val (pe_mgK K rfl (pv 4) (T.cls 16) (T.meth 17) G_Clause_fits (hr.mono (by decide)) (pa_cons (pv 1) (pa_cons (pv 2) pa_nil)))) (pss_one (ps_ret (pv 3))) pss_nil)))
      (pss_one (ps_ret pe_non))), ?_⟩
    walk_at "rd"
    refine ⟨l, ps, rfl, SqL.of hl, ?_⟩
    refine for_it (walk_enum (xs := ps)) (fun i σ H' => Same H H' ∧ (∀ (j : Nat) d, j < i → cs[j]? = some d → d.fits cell xs = false) ∧ ∃ x3 x4 : Option V, σ = [some (.ref p), some (.int cell), some (.ref r), x3, x4]) ⟨Same.refl _, fun j d h => by omega, none, none, rfl⟩ ?_ ?_ ?_
    · rintro i σ H' _ ⟨s1, _⟩
      exact SqL.of (s1 _ _ hl)
    · rintro i x σ Ha Hb hi ⟨s1, hall, x3, x4, rfl⟩ ⟨t, u, v, rfl, ht, rfl, eu, ev⟩
      cases eu
      obtain ⟨c, hcc, hat⟩ := hc.get ev
      have s2 := same_upd (o := HO.tup [V.int (i : Nat), v]) ht
      have hT : (upd Ha t (HO.tup [V.int (i : Nat), v])) t = some (.tup [V.int (i : Nat), v]) := upd_same
      have s12 := s1.trans s2
      have hat' := hat.same s12
      obtain ⟨q, dq, lq, pq, rfl, hq, _⟩ := id hat'
      walk_at "rd"
      refine rd_methR hq (by rfl) ?_
      walk_at "rd"
      refine ⟨_, r, c, cell, xs, rfl, hat', s12 _ _ hx, hx8, hok c (List.mem_of_getElem? hcc), fun H3 s3 => ?_⟩
      refine ⟨_, rfl, ?_⟩
      refine ite_b (fun hb => ?_) (fun hb => ?_)
      · walk_at "rd"
        have e : firstFit cell xs cs = some i := fit_at hall hcc hb
        rw [e] at k
        exact k _ (s12.trans s3)
      · walk_at "rd"
        refine ⟨s12.trans s3, fun j d hj h1 => ?_, _, _, rfl⟩
        rcases Nat.lt_or_ge j i with h | h
        · exact hall j d h h1
        · have e : j = i := by omega
          subst e
          rw [hcc] at h1
          cases h1
          exact hb
    · rintro σ H' ⟨s1, hall, x3, x4, rfl⟩
      walk_at "rd"
      have e : firstFit cell xs cs = none := fit_none fun j d h1 => hall j d (by rw [hc.len]; exact (List.getElem?_eq_some_iff.mp h1).1) h1
      rw [e] at k
      exact k _ s1
def sp_becomes (K : PySem.W.Frag) : Sp := fun vs H Q _ => ∃ (v : V) (r : Addr) (cs : List Cla) (cell : Int) (xs : List Int), vs = [v, .int cell, .ref r] ∧ RuleAt K H v cs ∧ H r = some (.lst (xs.map V.int)) ∧ xs.length = 8 ∧ RuleOk cs ∧ ∀ H', Same H H' → Q (.int (ruleMakes cs cell xs)) H'
theorem mp_becomes : MonP (sp_becomes K) := fun vs H Q Q' E h ⟨v, r, cs, cell, xs, x1, x2, x3, x4, x5, k⟩ => ⟨v, r, cs, cell, xs, x1, x2, x3, x4, x5, fun H' s => h _ _ (k H' s)⟩
theorem AllV.at {α : Type} {R : V → α → Prop} : ∀ {vs : List V} {xs : List α} {i : Nat} {x : α}, AllV R vs xs → xs[i]? = some x → ∃ v, vs[i]? = some v ∧ R v x
  | [], [], _, _, _, e => by simp at e
  | v :: vs, x :: xs, 0, _, h, e => by
    simp only [List.getElem?_cons_zero, Option.some.injEq] at e
    subst e
    exact ⟨v, rfl, h.1⟩
  | v :: vs, x :: xs, i + 1, _, h, e => by
    simp only [List.getElem?_cons_succ] at e ⊢
    exact AllV.at h.2 e
  | [], _ :: _, _, _, h, _ => h.elim
  | _ :: _, [], _, _, h, _ => h.elim
theorem ok_becomes (T : Env fa fn K mg) : Good P w K mg base CX0 4 ("becomes", none) ["rule", "cell", "around"] (sp_becomes K) := by
  have G_deciding := ok_deciding (P := P) (w := w) (base := base) T
  refine good_mk T 17 (d := d_becomes) (N := ["rule", "cell", "around", "at"]) (ps := ["rule", "cell", "around"]) rfl rfl sc_becomes (fun _ _ _ _ _ _ us hl => match us, hl with | [_, _, _], _ => rfl) (fun vs H Q E h => ?_) (fun f cdv A outer σ0 H vs Q E hr h => ?_)
  · obtain ⟨v, r, cs, cell, xs, rfl, _⟩ := h; rfl
  · obtain ⟨v, r, cs, cell, xs, rfl, hR, hx, hx8, hok, k⟩ := h
    have cl := T.cls 62
    have clc := T.cls 16
    have n1 := T.noat 61
    have n2 := T.noat 58
    refine ⟨_, (pss_cons (ps_set (i := 3) sc_becomes.nd rfl (Or.inl rfl) (pe_cgK K rfl G_deciding (hr.mono (by decide)) (T.glo 18) (pa_cons (pv 0) (pa_cons (pv 1) (pa_cons (pv 2) pa_nil)))))
      (pss_cons (ps_if (pt_cmpR op_isN (pv 3) pe_non (nomark _)) (pss_one (ps_ret (pv 1))) pss_nil)
      (pss_one (ps_ret (pe_fldK K rfl (pe_ix (ix_listK K rfl) (pe_fldK K rfl (pv 0) rfl) (pv 3) (fun _ _ => rfl)) rfl))))), ?_⟩
    walk_at "rd"
    refine ⟨_, r, cs, cell, xs, rfl, hR, hx, hx8, hok, fun H2 s2 => ?_⟩
    obtain ⟨p, dx, l, ps, rfl, hp, hl, hc⟩ := hR.same s2
    cases e : firstFit cell xs cs with
    | none =>
      have em : ruleMakes cs cell xs = cell := by unfold ruleMakes; rw [e]
      rw [em] at k
      walk_at "rd"
      refine iteT ?_
      walk_at "rd"
      exact k _ s2
    | some i =>
      obtain ⟨c, hcc, _⟩ := fit_lt e
      have em : ruleMakes cs cell xs = c.made := by
        unfold ruleMakes
        rw [e]
        show (cs[i]?.map Cla.made).getD cell = c.made
        rw [hcc]; rfl
      rw [em] at k
      obtain ⟨v, hv, q, dq, lq, pq, rfl, hq, _⟩ := hc.at hcc
      walk_at "rd"
      refine iteF ?_
      walk_at "rd"
      refine rd_ixL (SqL.of hl) (atI_nat hv) ?_
      walk_at "rd"
      exact k _ s2
/-! #### reading -/
abbrev tx (l : List Nat) : Str := ⟨l.toArray⟩
def wishT : Option Int → Nat
  | none => 42
  | some i => 48 + i.toNat
def condT : Cond → List Nat
  | .amt s ns => (48 + s.toNat) :: 61 :: ns.map fun n => 48 + n.toNat
  | .plc ws => ws.map wishT
def claW (c : Cla) : List (List Nat) := [wishT c.taken] :: (c.conds.map condT ++ [[48 + c.made.toNat]])
def claT (c : Cla) : List Nat := TL.joinL [32] (claW c)
def ruleT (cs : List Cla) : List Nat := TL.joinL [59, 32] (cs.map claT)
def St (s : Int) : Prop := 0 ≤ s ∧ s ≤ 7
def WishW : Option Int → Prop
  | none => True
  | some s => St s
def CondW : Cond → Prop
  | .amt s ns => St s ∧ ns ≠ [] ∧ (∀ n ∈ ns, 0 ≤ n ∧ n ≤ 8) ∧ ns.Pairwise (· < ·)
  | .plc ws => ws.length = 8 ∧ ∀ w ∈ ws, WishW w
def ClaW (c : Cla) : Prop := WishW c.taken ∧ (∀ k ∈ c.conds, CondW k) ∧ St c.made
theorem CondW.ok {c : Cond} (h : CondW c) : CondOk c := by
  cases c with
  | amt s ns => trivial
  | plc ws => exact h.1
theorem sign_digit : ∀ d : Nat, d < 9 → PySem.intText? ⟨#[48 + d]⟩ = some (d : Int) := by decide +kernel
theorem states_has {c : Nat} (h0 : 48 ≤ c) (h1 : c ≤ 55) : c ∈ (Str.ofString "01234567").cps.toList := by
  have e : (Str.ofString "01234567").cps.toList = [48, 49, 50, 51, 52, 53, 54, 55] := by decide +kernel
  rw [e]
  simp only [List.mem_cons, List.not_mem_nil, or_false]
  omega
theorem numbers_has {c : Nat} (h0 : 48 ≤ c) (h1 : c ≤ 56) : c ∈ (Str.ofString "012345678").cps.toList := by
  have e : (Str.ofString "012345678").cps.toList = [48, 49, 50, 51, 52, 53, 54, 55, 56] := by decide +kernel
  rw [e]
  simp only [List.mem_cons, List.not_mem_nil, or_false]
  omega
theorem small_len {n : Nat} (h : n ≤ 1000000) : n ≤ sizeLine := by have := sizeBig; omega
def sp_read_state : Sp := fun vs H Q _ => ∃ s : Int, vs = [.str ⟨#[48 + s.toNat]⟩] ∧ St s ∧ Q (.int s) H
theorem mp_read_state : MonP sp_read_state := fun vs H Q Q' E h ⟨s, x1, x2, k⟩ => ⟨s, x1, x2, h _ _ k⟩
theorem ok_read_state (T : Env fa fn K mg) : Good P w K mg base CX0 1 ("read_state", none) ["word"] sp_read_state := by
  refine good_mk T 18 (d := d_read_state) (N := ["word"]) (ps := ["word"]) rfl rfl sc_read_state (fun _ _ _ _ _ _ us hl => match us, hl with | [_], _ => rfl) (fun vs H Q E h => ?_) (fun f cdv A outer σ0 H vs Q E hr h => ?_)
  · obtain ⟨s, rfl, _⟩ := h; rfl
  · obtain ⟨s, rfl, ⟨h0, h7⟩, k⟩ := h
    obtain ⟨d, rfl⟩ : ∃ d : Nat, s = (d : Int) := ⟨s.toNat, by omega⟩
    rw [Int.toNat_natCast]
    refine ⟨_, (pss_cons (ps_if (PW.pt (pw_or (pt_cmpR op_ne (pe_callB call_len_str (by rfl) (T.free 20) (by decide +kernel) (pa_cons (pv 0) pa_nil)) pe_int (nomark _)) (pw_or1 (pt_cmpR op_notIn_sign (pv 0) (pe_gstr (T.str 19) rfl) rfl)))) pss_never pss_nil)
      (pss_one (ps_ret (pe_callTy call_int_str (by rfl) (T.free 21) (by decide +kernel) (pa_cons (pv 0) pa_nil))))), ?_⟩
    walk_at "rd"
    refine ⟨_, rfl, small_len (by show 1 ≤ 1000000; decide), ?_⟩
    walk_at "rd"
    refine iteF ?_
    walk_at "rd"
    refine ⟨48 + d, _, rfl, rfl, ?_⟩
    rw [decide_eq_true (states_has (by omega) (by omega))]
    walk_at "rd"
    exact ⟨_, (d : Int), rfl, sign_digit d (by omega), by show 1 ≤ 640; decide, k⟩
def sp_read_wish : Sp := fun vs H Q _ => ∃ s : Option Int, vs = [.str ⟨#[wishT s]⟩] ∧ WishW s ∧ Q (optV s) H
theorem mp_read_wish : MonP sp_read_wish := fun vs H Q Q' E h ⟨s, x1, x2, k⟩ => ⟨s, x1, x2, h _ _ k⟩
theorem star_ne {s : Int} (h : St s) : ¬ ((⟨#[wishT (some s)]⟩ : Str) = Str.ofString "*") := by
  intro e
  have e2 : (Str.ofString "*").cps.toList = [42] := by decide +kernel
  have e1 : ([48 + s.toNat] : List Nat) = [42] := by rw [← e2, ← e]; rfl
  simp only [List.cons.injEq, and_true] at e1
  omega
theorem ok_read_wish (T : Env fa fn K mg) : Good P w K mg base CX0 2 ("read_wish", none) ["word"] sp_read_wish := by
  have G_read_state := ok_read_state (P := P) (w := w) (base := base) T
  refine good_mk T 19 (d := d_read_wish) (N := ["word"]) (ps := ["word"]) rfl rfl sc_read_wish (fun _ _ _ _ _ _ us hl => match us, hl with | [_], _ => rfl) (fun vs H Q E h => ?_) (fun f cdv A outer σ0 H vs Q E hr h => ?_)
  · obtain ⟨s, rfl, _⟩ := h; rfl
  · obtain ⟨s, rfl, hw, k⟩ := h
    refine ⟨_, (pss_cons (ps_if (pt_cmpR op_eq (pv 0) pe_str (nomark _)) (pss_one (ps_ret pe_non)) pss_nil)
      (pss_one (ps_ret (pe_cgK K rfl G_read_state (hr.mono (by decide)) (T.glo 22) (pa_cons (pv 0) pa_nil))))), ?_⟩
    cases s with
    | none =>
      walk_at "rd"
      refine iteT ?_
      walk_at "rd"
      exact k
    | some s =>
      obtain ⟨h0, h7⟩ := id hw
      walk_at "rd"
      rw [decide_eq_false (star_ne hw)]
      walk_at "rd"
      exact ⟨s, rfl, hw, k⟩
end
end JF

/-! ### rules: reading texts -/
namespace JF
open PySem PySem.Spec PyProof.Rows L2
theorem len_tx (l : List Nat) : (tx l).length = l.length := TL.len_tl _
theorem cut2 {l : List Nat} : cutS (tx l) (some 2) none = tx (l.drop 2) := by
  refine TL.ext_tl ?_
  have e1 : HT.sIx (tx l).length 0 (some 2) = min 2 (tx l).length := HT.sIx_nat _ _ 2
  have e2 : HT.sIx (tx l).length (tx l).length none = (tx l).length := rfl
  unfold cutS
  rw [e1, e2, len_tx]
  show (l.drop (min 2 l.length)).take (l.length - min 2 l.length) = l.drop 2
  rcases Nat.lt_or_ge l.length 2 with h | h
  · rw [List.drop_eq_nil_of_le (by omega), List.drop_eq_nil_of_le (by omega)]; simp
  · rw [Nat.min_eq_left h, List.take_of_length_le (by rw [List.length_drop]; exact Nat.le_refl _)]
theorem cut_mid (a b : V) (m : List V) : cutV (a :: (m ++ [b])) (some 1) (some (-1)) = m := by
  have n : (a :: (m ++ [b])).length = m.length + 2 := by simp
  have e1 : HT.sIx (a :: (m ++ [b])).length 0 (some 1) = min 1 (a :: (m ++ [b])).length := HT.sIx_nat _ _ 1
  have e2 : HT.sIx (a :: (m ++ [b])).length (a :: (m ++ [b])).length (some (-1)) = m.length + 1 := by
    show (if (-1 : Int) < 0 then ((-1 : Int) + ((a :: (m ++ [b])).length : Int)).toNat else min (-1 : Int).toNat (a :: (m ++ [b])).length) = _
    rw [if_pos (by decide), n]; omega
  unfold cutV
  rw [e1, e2, n]
  have e3 : min 1 (m.length + 2) = 1 := by omega
  rw [e3]
  show (m ++ [b]).take (m.length + 1 - 1) = m
  rw [Nat.add_sub_cancel, List.take_left]
theorem split_tx {y : Str} {s : Nat} {S : List Nat} (ey : TL.tl y = s :: S) (hk : y.cps.all (· < 256) = true) {ws : List (List Nat)} (hne : ws ≠ []) (hp : ∀ w ∈ ws, s ∉ w) : Txt.split (tx (TL.joinL (s :: S) ws)) y = ws.map tx := by
  have e : tx (TL.joinL (s :: S) ws) = Txt.join y (ws.map tx) := by
    refine TL.ext_tl ?_
    rw [TL.join_eq, TL.tl_join, ey, List.map_map]
    show TL.joinL (s :: S) ws = TL.joinL (s :: S) (ws.map fun w => w)
    rw [List.map_id']
  rw [e]
  refine TL.split_join ey hk (by simpa using hne) fun p hm => ?_
  obtain ⟨w, hw, rfl⟩ := List.mem_map.mp hm
  exact hp w hw
/-! what is new -/
def CondAtN (N : Addr → Prop) (K : PySem.W.Frag) (H : Hp) (v : V) : Cond → Prop
  | .amt s ns => ∃ p dx l, v = .ref p ∧ H p = some (.ins (He.ga K "Amount") dx [("state", .int s), ("numbers", .ref l)]) ∧ H l = some (.lst (ns.map V.int)) ∧ N p ∧ N l
  | .plc ws => ∃ p dx l, v = .ref p ∧ H p = some (.ins (He.ga K "Places") dx [("wanted", .ref l)]) ∧ H l = some (.lst (ws.map optV)) ∧ N p ∧ N l
theorem CondAtN.at {N : Addr → Prop} {K : PySem.W.Frag} {H : Hp} {v : V} {c : Cond} (h : CondAtN N K H v c) : CondAt K H v c := by
  cases c with
  | amt s ns => obtain ⟨p, dx, l, e, h1, h2, _⟩ := h; exact ⟨p, dx, l, e, h1, h2⟩
  | plc ws => obtain ⟨p, dx, l, e, h1, h2, _⟩ := h; exact ⟨p, dx, l, e, h1, h2⟩
theorem CondAtN.imp {N N' : Addr → Prop} {K : PySem.W.Frag} {H : Hp} {v : V} {c : Cond} (h : CondAtN N K H v c) (k : ∀ b, N b → N' b) : CondAtN N' K H v c := by
  cases c with
  | amt s ns => obtain ⟨p, dx, l, e, h1, h2, h3, h4⟩ := h; exact ⟨p, dx, l, e, h1, h2, k _ h3, k _ h4⟩
  | plc ws => obtain ⟨p, dx, l, e, h1, h2, h3, h4⟩ := h; exact ⟨p, dx, l, e, h1, h2, k _ h3, k _ h4⟩
theorem CondAtN.same {N : Addr → Prop} {K : PySem.W.Frag} {H H' : Hp} {v : V} {c : Cond} (h : CondAtN N K H v c) (s : Same H H') : CondAtN N K H' v c := by
  cases c with
  | amt st ns => obtain ⟨p, dx, l, e, h1, h2, h3, h4⟩ := h; exact ⟨p, dx, l, e, s _ _ h1, s _ _ h2, h3, h4⟩
  | plc ws => obtain ⟨p, dx, l, e, h1, h2, h3, h4⟩ := h; exact ⟨p, dx, l, e, s _ _ h1, s _ _ h2, h3, h4⟩
theorem CondAtN.upd {N : Addr → Prop} {K : PySem.W.Frag} {H : Hp} {v : V} {c : Cond} {D : Addr} {o : HO} (h : CondAtN N K H v c) (k : ∀ b, N b → b ≠ D) : CondAtN N K (L2.upd H D o) v c := by
  cases c with
  | amt st ns => obtain ⟨p, dx, l, e, h1, h2, h3, h4⟩ := h; exact ⟨p, dx, l, e, by rw [upd_ne (k _ h3)]; exact h1, by rw [upd_ne (k _ h4)]; exact h2, h3, h4⟩
  | plc ws => obtain ⟨p, dx, l, e, h1, h2, h3, h4⟩ := h; exact ⟨p, dx, l, e, by rw [upd_ne (k _ h3)]; exact h1, by rw [upd_ne (k _ h4)]; exact h2, h3, h4⟩
def ClaAtN (N : Addr → Prop) (K : PySem.W.Frag) (H : Hp) (v : V) (c : Cla) : Prop := ∃ p dx l ps, v = .ref p ∧ H p = some (.ins (He.ga K "Clause") dx [("taken", optV c.taken), ("conditions", .ref l), ("made", .int c.made)]) ∧ H l = some (.lst ps) ∧ N p ∧ N l ∧ AllV (CondAtN N K H) ps c.conds
theorem ClaAtN.at {N : Addr → Prop} {K : PySem.W.Frag} {H : Hp} {v : V} {c : Cla} (h : ClaAtN N K H v c) : ClaAt K H v c := by
  obtain ⟨p, dx, l, ps, e, h1, h2, _, _, h3⟩ := h
  exact ⟨p, dx, l, ps, e, h1, h2, h3.imp fun _ _ h => h.at⟩
theorem ClaAtN.imp {N N' : Addr → Prop} {K : PySem.W.Frag} {H : Hp} {v : V} {c : Cla} (h : ClaAtN N K H v c) (k : ∀ b, N b → N' b) : ClaAtN N' K H v c := by
  obtain ⟨p, dx, l, ps, e, h1, h2, h3, h4, h5⟩ := h
  exact ⟨p, dx, l, ps, e, h1, h2, k _ h3, k _ h4, h5.imp fun _ _ h => h.imp k⟩
theorem ClaAtN.same {N : Addr → Prop} {K : PySem.W.Frag} {H H' : Hp} {v : V} {c : Cla} (h : ClaAtN N K H v c) (s : Same H H') : ClaAtN N K H' v c := by
  obtain ⟨p, dx, l, ps, e, h1, h2, h3, h4, h5⟩ := h
  exact ⟨p, dx, l, ps, e, s _ _ h1, s _ _ h2, h3, h4, h5.imp fun _ _ h => h.same s⟩
theorem ClaAtN.upd {N : Addr → Prop} {K : PySem.W.Frag} {H : Hp} {v : V} {c : Cla} {D : Addr} {o : HO} (h : ClaAtN N K H v c) (k : ∀ b, N b → b ≠ D) : ClaAtN N K (L2.upd H D o) v c := by
  obtain ⟨p, dx, l, ps, e, h1, h2, h3, h4, h5⟩ := h
  exact ⟨p, dx, l, ps, e, by rw [upd_ne (k _ h3)]; exact h1, by rw [upd_ne (k _ h4)]; exact h2, h3, h4, h5.imp fun _ _ h => h.upd k⟩
theorem none_of {H H' : Hp} (s : Same H H') {b : Addr} (h : H' b = none) : H b = none := by
  cases e : H b with
  | none => rfl
  | some o => rw [s _ _ e] at h; cases h
theorem small_len16 {n : Nat} (h : n + 2 ≤ 16000000) : n + 2 ≤ sizeLine := by have := sizeBig; omega
section
variable {K : PySem.W.Frag} {σ : L2.St} {H : Hp} {Q : VK}
theorem rd_m1 {r : V → List V → Hp → VK → Prop} {ta tb : TE} (h : ta σ H fun x H1 => (∃ a, x = .str a) ∧ tb σ H1 fun y H2 => r x [y] H2 Q) : tM1 r ta tb σ H Q := h
theorem rd_st {z : Str} {R : Prop} (h : R) : (∃ a, V.str z = .str a) ∧ R := ⟨⟨z, rfl⟩, h⟩
theorem Same.put2 {H0 H : Hp} {p : Addr} {o : HO} (s : Same H0 H) (h : H0 p = none) : Same H0 (upd H p o) := fun b u e => by
  rw [upd_ne (ne_of_none e h)]; exact s b u e
end
section
variable {P : Program} {w : World} {K : PySem.W.Frag} {mg : Str → Option Value} {base : Heap}
def numT (ns : List Int) : List Nat := ns.map fun n => 48 + n.toNat
def sp_read_numbers : Sp := fun vs H Q _ => ∃ ns : List Int, vs = [.str (tx (numT ns))] ∧ (∀ n ∈ ns, 0 ≤ n ∧ n ≤ 8) ∧ ns.Pairwise (· < ·) ∧ ns.length ≤ 1000 ∧ ∀ H' l, Same H H' → H l = none → H' l = some (.lst (ns.map V.int)) → Q (.ref l) H'
theorem mp_read_numbers : MonP sp_read_numbers := fun vs H Q Q' E h ⟨ns, x1, x2, x3, x4, k⟩ => ⟨ns, x1, x2, x3, x4, fun H' l a b c => h _ _ (k H' l a b c)⟩
theorem ok_read_numbers (T : Env fa fn K mg) : Good P w K mg base CX0 1 ("read_numbers", none) ["word"] sp_read_numbers := by
  refine good_mk T 20 (d := d_read_numbers) (N := ["word", "numbers", "sign", "number"]) (ps := ["word"]) rfl rfl sc_read_numbers (fun _ _ _ _ _ _ us hl => match us, hl with | [_], _ => rfl) (fun vs H Q E h => ?_) (fun f cdv A outer σ0 H vs Q E hr h => ?_)
  · obtain ⟨ns, rfl, _⟩ := h; rfl
  · obtain ⟨ns, rfl, hn, hp, hl, k⟩ := h
    refine ⟨_, (pss_cons (ps_set (i := 1) sc_read_numbers.nd rfl (Or.inl rfl) (pe_lst pa_nil))
      (pss_cons (ps_for PassesOwn.never rfl (pi_str (pv 0)) (pg_name (i := 2) sc_read_numbers.nd rfl (Or.inl rfl)) (pss_cons (ps_if (pt_cmpR op_notIn_sign (pv 2) (pe_gstr (T.str 23) rfl) rfl) pss_never pss_nil)
      (pss_cons (ps_set (i := 3) sc_read_numbers.nd rfl (Or.inl rfl) (pe_callTy call_int_str (by rfl) (T.free 21) (by decide +kernel) (pa_cons (pv 2) pa_nil)))
      (pss_cons (ps_if (PW.pt (pw_and (pt_cmpR (op_neDK K rfl hr.units) (pv 1) (pe_lst pa_nil) (nomark _)) (pw_and1 (pt_cmpR op_le (pv 3) (pe_ix (ix_listK K rfl) (pv 1) (pe_un un_neg pe_int) (fun _ _ => rfl)) (nomark _))))) pss_never pss_nil)
      (pss_one (ps_expr (pe_bm PySem.F.plainAttrs_list PySem.F.slot_list_append PySem.F.type_list_append mt_append (pv 1) (pa_cons (pv 3) pa_nil))))))))
      (pss_one (ps_ret (pv 1))))), ?_⟩
    walk_at "rd"
    refine rd_new (hn := by show 0 ≤ sizeLine; decide) fun p hp0 => ?_
    have s0 := same_upd (o := .lst []) hp0
    walk_at "rd"
    refine ⟨_, rfl, ?_⟩
    refine for_it (walk_str (z := tx (numT ns))) (fun i σ H' => Same H H' ∧ H' p = some (.lst ((ns.take i).map V.int)) ∧ ∃ x2 x3 : Option V, σ = [some (.str (tx (numT ns))), some (.ref p), x2, x3]) ⟨s0, upd_same, none, none, rfl⟩ (fun _ _ _ _ _ => trivial) ?_ ?_
    · rintro i x σ Ha Hb hi ⟨s1, h1, x2, x3, rfl⟩ ⟨rfl, c, hc, rfl⟩
      have hi' : i < ns.length := by
        have e : (tx (numT ns)).cps.size = ns.length := by show (numT ns).toArray.size = _; simp [numT]
        omega
      have hc' : (numT ns)[i]? = some c := by rw [← hc]; show _ = (numT ns).toArray[i]?; simp
      have hni := hn ns[i] (List.getElem_mem hi')
      have ec : c = 48 + ns[i].toNat := by
        unfold numT at hc'
        rw [List.getElem?_map, at_get hi'] at hc'
        exact (Option.some.inj hc').symm
      subst ec
      walk_at "rd"
      refine ⟨_, _, rfl, rfl, ?_⟩
      rw [decide_eq_true (numbers_has (by omega) (by omega))]
      walk_at "rd"
      refine ⟨_, _, rfl, sign_digit ns[i].toNat (by omega), by show 1 ≤ 640; decide, ?_⟩
      have en : ((ns[i].toNat : Nat) : Int) = ns[i] := by omega
      rw [en]
      walk_at "rd"
      refine rd_new (hn := by show 0 ≤ sizeLine; decide) fun pe hpe => ?_
      have se := same_upd (o := .lst []) hpe
      refine rd_neLI (ns := ns.take i) (ms := []) (SqL.of (se _ _ h1)) (SqL.of upd_same) ?_
      have h1e := se _ _ h1
      have fin : ∀ (x2 x3 : Option V), Same H (upd (upd Hb pe (.lst [])) p (.lst ((ns.take i).map V.int ++ [V.int ns[i]]))) ∧ (upd (upd Hb pe (.lst [])) p (.lst ((ns.take i).map V.int ++ [V.int ns[i]]))) p = some (.lst ((ns.take (i + 1)).map V.int)) ∧ ∃ y2 y3 : Option V, [some (V.str (tx (numT ns))), some (.ref p), x2, x3] = [some (V.str (tx (numT ns))), some (.ref p), y2, y3] := fun x2 x3 => by
        refine ⟨Same.put2 (s1.trans se) hp0, ?_, _, _, rfl⟩
        rw [upd_same, take_snoc (at_get hi'), List.map_append]; rfl
      have hlen : ((ns.take i).map V.int).length < sizeLine := by rw [List.length_map, List.length_take]; have := sizeBig; omega
      by_cases z : ns.take i = []
      · rw [decide_eq_true z]
        walk_at "rd"
        refine rd_tyL h1e ?_
        walk_at "rd"
        refine rd_append h1e hlen ?_
        walk_at "rd"
        exact fin _ _
      · rw [decide_eq_false z]
        walk_at "rd"
        obtain ⟨j, hj⟩ : ∃ j, i = j + 1 := by
          cases i with
          | zero => exact absurd rfl z
          | succ j => exact ⟨j, rfl⟩
        subst hj
        have hjn : j < ns.length := by omega
        have et : ns.take (j + 1) = ns.take j ++ [ns[j]] := take_snoc (at_get hjn)
        refine rd_ixL (SqL.of h1e) (v := .int ns[j]) (by rw [et, List.map_append]; exact atI_last _ _) ?_
        walk_at "rd"
        have hlt : ns[j] < ns[j + 1] := (List.pairwise_iff_getElem.mp hp) j (j + 1) hjn hi' (by omega)
        rw [decide_eq_false (by omega)]
        walk_at "rd"
        refine rd_tyL h1e ?_
        walk_at "rd"
        refine rd_append h1e hlen ?_
        walk_at "rd"
        exact fin _ _
    · rintro σ H' ⟨s1, h1, x2, x3, rfl⟩
      walk_at "rd"
      have e : (tx (numT ns)).cps.size = ns.length := by show (numT ns).toArray.size = _; simp [numT]
      rw [e, List.take_length] at h1
      exact k _ _ s1 hp0 h1
def sp_read_condition (K : PySem.W.Frag) : Sp := fun vs H Q _ => ∃ c : Cond, vs = [.str (tx (condT c))] ∧ CondW c ∧ ∀ H' v, Same H H' → CondAtN (fun b => H b = none) K H' v c → Q v H'
theorem mp_read_condition : MonP (sp_read_condition K) := fun vs H Q Q' E h ⟨c, x1, x2, k⟩ => ⟨c, x1, x2, fun H' v a b => h _ _ (k H' v a b)⟩
theorem nums_le : ∀ {ns : List Int} {a : Int}, (∀ n ∈ ns, a ≤ n ∧ n ≤ 8) → ns.Pairwise (· < ·) → (ns.length : Int) ≤ 9 - a ∨ ns = []
  | [], a, _, _ => .inr rfl
  | [n], a, h, _ => by
    have := h n List.mem_cons_self
    left; simp; omega
  | n :: m :: ns, a, h, hp => by
    left
    have hn := h n List.mem_cons_self
    rw [List.pairwise_cons] at hp
    rcases nums_le (ns := m :: ns) (a := n + 1) (fun x hx => ⟨by have := hp.1 x hx; omega, (h x (List.mem_cons_of_mem _ hx)).2⟩) hp.2 with e | e
    · simp only [List.length_cons] at e ⊢; omega
    · cases e
theorem eq_sign {d : Nat} (h : d ≠ 61) : ¬ ((⟨#[d]⟩ : Str) = Str.ofString "=") := by
  intro e
  have e2 : (Str.ofString "=").cps.toList = [61] := by decide +kernel
  have e1 : ([d] : List Nat) = [61] := by rw [← e2, ← e]
  simp only [List.cons.injEq, and_true] at e1
  exact h e1
theorem wish_ne {s : Option Int} (h : WishW s) : wishT s ≠ 61 := by
  cases s with
  | none => decide
  | some s =>
    have z : St s := h
    show 48 + s.toNat ≠ 61
    unfold St at z
    omega
set_option maxHeartbeats 8000000 in
theorem ok_read_condition (T : Env fa fn K mg) : Good P w K mg base CX0 3 ("read_condition", none) ["word"] (sp_read_condition K) := by
  have G_read_state := ok_read_state (P := P) (w := w) (base := base) T
  have G_read_wish := ok_read_wish (P := P) (w := w) (base := base) T
  have G_read_numbers := ok_read_numbers (P := P) (w := w) (base := base) T
  have G_Amount_init := ok_amt_init (P := P) (w := w) (base := base) T
  have G_Places_init := ok_plc_init (P := P) (w := w) (base := base) T
  refine good_mk T 21 (d := d_read_condition) (N := ["word", "sign"]) (ps := ["word"]) rfl rfl sc_read_condition (fun _ _ _ _ _ _ us hl => match us, hl with | [_], _ => rfl) (fun vs H Q E h => ?_) (fun f cdv A outer σ0 H vs Q E hr h => ?_)
  · obtain ⟨c, rfl, _⟩ := h; rfl
  · obtain ⟨c, rfl, hc, k⟩ := h
    refine ⟨_, (pss_cons (ps_if (PW.pt (pw_and (pt_cmpR op_gt (pe_callB call_len_str (by rfl) (T.free 20) (by decide +kernel) (pa_cons (pv 0) pa_nil)) pe_int (nomark _)) (pw_and1 (pt_cmpR op_eq (pe_ix ix_str (pv 0) pe_int (fun _ _ => rfl)) pe_str (nomark _))))) (pss_one (ps_ret (pe_mkgK K rfl (T.mkr 24) G_Amount_init (hr.mono (by decide)) (T.glo 25) (pa_cons (pe_cgK K rfl G_read_state (hr.mono (by decide)) (T.glo 22) (pa_cons (pe_ix ix_str (pv 0) pe_int (fun _ _ => rfl)) pa_nil)) (pa_cons (pe_cgK K rfl G_read_numbers (hr.mono (by decide)) (T.glo 26) (pa_cons (pe_slice sl_str (pv 0) (po_some pe_int) po_none) pa_nil)) pa_nil))))) pss_nil)
      (pss_cons (ps_if (pt_cmpR op_ne (pe_callB call_len_str (by rfl) (T.free 20) (by decide +kernel) (pa_cons (pv 0) pa_nil)) pe_int (nomark _)) pss_never pss_nil)
      (pss_one (ps_ret (pe_mkgK K rfl (T.mkr 2) G_Places_init (hr.mono (by decide)) (T.glo 3) (pa_cons (pe_lc (own := [("sign", 1)]) (tt := tYes) rfl sc_read_condition.nd (pi_str (pv 0)) (blkOk_by (own := [("sign", 1)]) (N := ["word", "sign"]) (sc := defScope st_read_condition) (by decide +kernel)) (fun _ _ _ _ _ => by exact (pg_name (i := 1) sc_read_condition.nd rfl (Or.inl rfl))) (fun _ _ _ _ _ => by exact pts_nil) (fun _ _ _ _ _ => by exact (pe_cgK K rfl G_read_wish (hr.mono (by decide)) (T.glo 27) (pa_cons (pv 1) pa_nil)))) pa_nil)))))), ?_⟩
    cases c with
    | amt s ns =>
      obtain ⟨hs, hne, hn, hp⟩ := hc
      have hnl : ns.length ≤ 9 := by
        rcases nums_le hn hp with e | e
        · omega
        · rw [e]; simp
      have hl0 : 0 < ns.length := List.length_pos_iff.mpr hne
      have el : (tx (condT (.amt s ns))).length = ns.length + 2 := by rw [len_tx]; simp [condT]
      walk_at "rd"
      refine ⟨_, rfl, small_len (by rw [el]; omega), ?_⟩
      rw [el]
      walk_at "rd"
      rw [decide_eq_true (by omega)]
      walk_at "rd"
      refine ⟨_, _, 61, rfl, rfl, small_len (by rw [el]; omega), atI_nat (j := 1) rfl, ?_⟩
      walk_at "rd"
      refine iteT ?_
      walk_at "rd"
      refine rd_make ?_
      walk_at "rd"
      refine ⟨_, _, 48 + s.toNat, rfl, rfl, small_len (by rw [el]; omega), atI_nat (j := 0) rfl, ?_⟩
      walk_at "rd"
      refine ⟨s, rfl, hs, ?_⟩
      walk_at "rd"
      refine ⟨_, rfl, small_len (by rw [el]; omega), ?_⟩
      rw [cut2]
      walk_at "rd"
      refine ⟨ns, rfl, hn, hp, by omega, fun H2 l s2 hln hl => ?_⟩
      walk_at "rd"
      intro x dx hx hdx hne2
      refine ⟨x, dx, l, s, rfl, upd_same, rfl, ?_⟩
      have hlx : l ≠ x := ne_of_none hl hx
      have hldx : l ≠ dx := ne_of_none hl hdx
      refine k _ _ (s2.trans (Same.put2 (Same.put2 (made_same2 hx hdx) hx) hx)) ⟨x, dx, l, rfl, upd_same, ?_, none_of s2 hx, hln⟩
      rw [upd_ne hlx, upd_ne hlx, upd_ne hlx, upd_ne hldx]
      exact hl
    | plc ws =>
      obtain ⟨h8, hw⟩ := hc
      have el : (tx (condT (.plc ws))).length = 8 := by rw [len_tx]; show (ws.map wishT).length = 8; rw [List.length_map]; exact h8
      walk_at "rd"
      refine ⟨_, rfl, small_len (by rw [el]; decide), ?_⟩
      rw [el]
      walk_at "rd"
      refine iteT ?_
      walk_at "rd"
      have h1 : 1 < ws.length := by omega
      refine ⟨_, _, wishT ws[1], rfl, rfl, small_len (by rw [el]; decide), ?_, ?_⟩
      · refine atI_nat (j := 1) ?_
        show (ws.map wishT)[1]? = _
        rw [List.getElem?_map, at_get h1]; rfl
      walk_at "rd"
      rw [decide_eq_false (eq_sign (wish_ne (hw _ (List.getElem_mem h1))))]
      walk_at "rd"
      refine ⟨_, rfl, small_len (by rw [el]; decide), ?_⟩
      rw [el]
      walk_at "rd"
      refine iteF ?_
      walk_at "rd"
      refine rd_make ?_
      walk_at "rd"
      refine ⟨_, rfl, fun D hD => ?_⟩
      refine lc_it (walk_str (z := tx (ws.map wishT))) (fun i H' => H' = upd H D (.lst ((ws.take i).map optV))) rfl (fun _ _ _ _ => trivial) ?_ ?_
      · rintro i x Ha Hb hi rfl ⟨rfl, c, hcc, rfl⟩
        have hi' : i < ws.length := by
          have e : (tx (ws.map wishT)).cps.size = ws.length := by show (ws.map wishT).toArray.size = _; simp
          omega
        have hc' : (ws.map wishT)[i]? = some c := by rw [← hcc]; show _ = (ws.map wishT).toArray[i]?; simp
        rw [List.getElem?_map, at_get hi'] at hc'
        have ec : c = wishT ws[i] := (Option.some.inj hc').symm
        subst ec
        walk_at "rd"
        refine ⟨rfl, ?_⟩
        walk_at "rd"
        refine ⟨ws[i], rfl, hw _ (List.getElem_mem hi'), ?_⟩
        refine ⟨_, upd_same, ?_, ?_⟩
        · rw [List.length_map, List.length_take]; exact small1000 (by omega)
        · rw [upd_upd, take_snoc (at_get hi'), List.map_append]; rfl
      · rintro H2 rfl
        have e : (tx (ws.map wishT)).cps.size = ws.length := by show (ws.map wishT).toArray.size = _; simp
        rw [e, List.take_length]
        have sD := same_upd (o := .lst (ws.map optV)) hD
        walk_at "rd"
        intro x dx hx hdx hne2
        refine ⟨x, dx, D, rfl, upd_same, rfl, ?_⟩
        have hL : (upd H D (.lst (ws.map optV))) D = some (.lst (ws.map optV)) := upd_same
        have hlx : D ≠ x := ne_of_none hL hx
        have hldx : D ≠ dx := ne_of_none hL hdx
        refine k _ _ (sD.trans (Same.put2 (made_same2 hx hdx) hx)) ⟨x, dx, D, rfl, upd_same, ?_, none_of sD hx, hD⟩
        rw [upd_ne hlx, upd_ne hlx, upd_ne hldx]
        exact hL
/-! #### clauses -/
theorem claW_no {c : Cla} (h : ClaW c) : ∀ w ∈ claW c, (32 : Nat) ∉ w ∧ (59 : Nat) ∉ w := by
  have wish : ∀ s : Option Int, WishW s → wishT s ≠ 32 ∧ wishT s ≠ 59 := fun s hs => by
    cases s with
    | none => decide
    | some s =>
      have z : St s := hs
      unfold St at z
      show 48 + s.toNat ≠ 32 ∧ 48 + s.toNat ≠ 59
      omega
  obtain ⟨h1, h2, h3⟩ := h
  intro w hw
  unfold claW at hw
  rcases List.mem_cons.mp hw with rfl | hw
  · have := wish _ h1
    simp only [List.mem_singleton]
    exact ⟨Ne.symm this.1, Ne.symm this.2⟩
  · rcases List.mem_append.mp hw with hw | hw
    · obtain ⟨k, hk, rfl⟩ := List.mem_map.mp hw
      have hc := h2 k hk
      cases k with
      | amt s ns =>
        obtain ⟨hs, _, hn, _⟩ := hc
        unfold St at hs
        unfold condT
        simp only [List.mem_cons, List.mem_map, not_or, not_exists, not_and]
        refine ⟨⟨by omega, by decide, fun n hm => ?_⟩, ⟨by omega, by decide, fun n hm => ?_⟩⟩
        · have := hn n hm; omega
        · have := hn n hm; omega
      | plc ws =>
        obtain ⟨_, hs⟩ := hc
        unfold condT
        simp only [List.mem_map, not_exists, not_and]
        exact ⟨fun x hm => (wish x (hs x hm)).1, fun x hm => (wish x (hs x hm)).2⟩
    · rw [List.mem_singleton] at hw
      subst hw
      unfold St at h3
      simp only [List.mem_singleton]
      omega
theorem tl_space : TL.tl (Str.ofString " ") = [32] := by decide +kernel
theorem tl_semi : TL.tl (Str.ofString "; ") = [59, 32] := by decide +kernel
def sp_read_clause (K : PySem.W.Frag) : Sp := fun vs H Q _ => ∃ c : Cla, vs = [.str (tx (claT c))] ∧ ClaW c ∧ (claT c).length ≤ 100000 ∧ c.conds.length ≤ 1000 ∧ ∀ H' v, Same H H' → ClaAtN (fun b => H b = none) K H' v c → Q v H'
theorem mp_read_clause : MonP (sp_read_clause K) := fun vs H Q Q' E h ⟨c, x1, x2, x3, x4, k⟩ => ⟨c, x1, x2, x3, x4, fun H' v a b => h _ _ (k H' v a b)⟩
set_option maxHeartbeats 8000000 in
theorem ok_read_clause (T : Env fa fn K mg) : Good P w K mg base CX0 4 ("read_clause", none) ["part"] (sp_read_clause K) := by
  have G_read_state := ok_read_state (P := P) (w := w) (base := base) T
  have G_read_wish := ok_read_wish (P := P) (w := w) (base := base) T
  have G_read_condition := ok_read_condition (P := P) (w := w) (base := base) T
  have G_Clause_init := ok_cla_init (P := P) (w := w) (base := base) T
  refine good_mk T 22 (d := d_read_clause) (N := ["part", "words", "conditions", "word"]) (ps := ["part"]) rfl rfl sc_read_clause (fun _ _ _ _ _ _ us hl => match us, hl with | [_], _ => rfl) (fun vs H Q E h => ?_) (fun f cdv A outer σ0 H vs Q E hr h => ?_)
  · obtain ⟨c, rfl, _⟩ := h; rfl
  · obtain ⟨c, rfl, hc, hlen, hcl, k⟩ := h
    have hno := claW_no hc
    refine ⟨_, (pss_cons (ps_set (i := 1) sc_read_clause.nd rfl (Or.inl rfl) (pe_split (pv 0) pe_str))
      (pss_cons (ps_if (pt_cmpR op_lt (pe_callB (call_lenK K rfl) (by rfl) (T.free 20) (by decide +kernel) (pa_cons (pv 1) pa_nil)) pe_int (nomark _)) pss_never pss_nil)
      (pss_cons (ps_setLc (i := 2) (own := [("word", 3)]) (tt := tYes) rfl sc_read_clause.nd rfl rfl (sw_true rfl rfl rfl (by decide +kernel)) (pi_listK K rfl (pe_slice (sl_listK K rfl) (pv 1) (po_some pe_int) (po_some (pe_un un_neg pe_int)))) (blkOk_by (own := [("word", 3)]) (N := ["part", "words", "conditions", "word"]) (sc := defScope st_read_clause) (by decide +kernel)) (fun _ _ _ _ _ => by exact (pg_name (i := 3) sc_read_clause.nd rfl (Or.inl rfl))) (fun _ _ _ _ _ => by exact pts_nil) (fun _ _ _ _ _ => by exact (pe_cgK K rfl G_read_condition (hr.mono (by decide)) (T.glo 28) (pa_cons (pv 3) pa_nil))))
      (pss_one (ps_ret (pe_mkgK K rfl (T.mkr 9) G_Clause_init (hr.mono (by decide)) (T.glo 10) (pa_cons (pe_cgK K rfl G_read_wish (hr.mono (by decide)) (T.glo 27) (pa_cons (pe_ix (ix_listK K rfl) (pv 1) pe_int (fun _ _ => rfl)) pa_nil)) (pa_cons (pv 2) (pa_cons (pe_cgK K rfl G_read_state (hr.mono (by decide)) (T.glo 22) (pa_cons (pe_ix (ix_listK K rfl) (pv 1) (pe_un un_neg pe_int) (fun _ _ => rfl)) pa_nil)) pa_nil))))))))), ?_⟩
    walk_at "rd"
    refine rd_m1 ?_
    walk_at "rd"
    refine rd_st ?_
    walk_at "rd"
    refine ⟨_, _, rfl, rfl, by decide +kernel, small_len (by rw [len_tx]; omega), fun pw hpw => ?_⟩
    have esp : Txt.split (tx (claT c)) (Str.ofString " ") = (claW c).map tx := split_tx tl_space (by decide +kernel) (by simp [claW]) fun w hw => (hno w hw).1
    rw [esp]
    have eW : ((claW c).map tx).map V.str = V.str (tx [wishT c.taken]) :: ((c.conds.map fun k => V.str (tx (condT k))) ++ [V.str (tx [48 + c.made.toNat])]) := by
      simp [claW, List.map_map, Function.comp_def]
    rw [eW]
    have s1 := same_upd (o := .lst (V.str (tx [wishT c.taken]) :: ((c.conds.map fun k => V.str (tx (condT k))) ++ [V.str (tx [48 + c.made.toNat])]))) hpw
    have L1 : (upd H pw (.lst (V.str (tx [wishT c.taken]) :: ((c.conds.map fun k => V.str (tx (condT k))) ++ [V.str (tx [48 + c.made.toNat])])))) pw = some (.lst (V.str (tx [wishT c.taken]) :: ((c.conds.map fun k => V.str (tx (condT k))) ++ [V.str (tx [48 + c.made.toNat])]))) := upd_same
    generalize upd H pw (.lst (V.str (tx [wishT c.taken]) :: ((c.conds.map fun k => V.str (tx (condT k))) ++ [V.str (tx [48 + c.made.toNat])]))) = H1 at s1 L1 ⊢
    walk_at "rd"
    refine rd_len (SqL.of L1) ?_
    walk_at "rd"
    rw [decide_eq_false (by simp only [List.length_cons, List.length_append, List.length_map, List.length_nil]; omega)]
    walk_at "rd"
    refine ⟨pw, _, rfl, SqL.of L1, fun p2 hp2 => ?_⟩
    rw [show ((-(1 : Int))) = -1 from rfl, cut_mid]
    have s2 := same_upd (o := .lst (c.conds.map fun k => V.str (tx (condT k)))) hp2
    have L2 : (upd H1 p2 (.lst (c.conds.map fun k => V.str (tx (condT k))))) p2 = some (.lst (c.conds.map fun k => V.str (tx (condT k)))) := upd_same
    generalize upd H1 p2 (.lst (c.conds.map fun k => V.str (tx (condT k)))) = H2 at s2 L2 ⊢
    refine ⟨p2, rfl, ⟨_, SqL.of L2⟩, fun D hD => ?_⟩
    have sD := fun o => same_upd (o := o) hD
    refine lc_list (K := K) (xs := c.conds.map fun k => V.str (tx (condT k))) (fun i H' => Same H2 H' ∧ ∃ us, H' D = some (.lst us) ∧ AllV (CondAtN (fun b => b ≠ D ∧ H b = none) K H') us (c.conds.take i)) ?_ ?_ ?_ ?_
    · exact ⟨sD _, [], upd_same, trivial⟩
    · rintro i H' _ ⟨s3, _⟩
      exact SqL.of (s3 _ _ L2)
    · rintro i x H' hx ⟨s3, us, hus, hall⟩
      obtain ⟨kc, hk, rfl⟩ : ∃ kc, c.conds[i]? = some kc ∧ x = V.str (tx (condT kc)) := by
        rw [List.getElem?_map] at hx
        cases e : c.conds[i]? with
        | none => rw [e] at hx; cases hx
        | some y => rw [e] at hx; exact ⟨y, rfl, (Option.some.inj hx).symm⟩
      have hi := (List.getElem?_eq_some_iff.mp hk).1
      walk_at "rd"
      refine ⟨rfl, ?_⟩
      walk_at "rd"
      refine ⟨kc, rfl, hc.2.1 kc (List.mem_of_getElem? hk), fun H4 v s4 hv => ?_⟩
      have hus4 := s4 _ _ hus
      have t : Same H2 (upd H4 D (.lst (us ++ [v]))) := Same.put2 (s3.trans s4) hD
      have hv' : CondAtN (fun b => b ≠ D ∧ H b = none) K H4 v kc := hv.imp fun b hb => ⟨fun z => (by rw [z, hus] at hb; cases hb), none_of ((s1.trans s2).trans s3) hb⟩
      refine ⟨us, hus4, ?_, t, us ++ [v], upd_same, ?_⟩
      · have := hall.len
        rw [List.length_take] at this
        exact small1000 (by omega)
      · rw [take_snoc hk]
        exact ((hall.imp fun _ _ h => h.same s4).app hv').imp fun _ _ h => h.upd fun b hb => hb.1
    · rintro H3 ⟨s3, us, hus, hall⟩
      rw [List.length_map, List.take_length] at hall
      have L3 := s3 _ _ (s2 _ _ L1)
      walk_at "rd"
      refine rd_make ?_
      walk_at "rd"
      refine rd_ixL (SqL.of L3) (v := V.str (tx [wishT c.taken])) (atI_nat (j := 0) rfl) ?_
      walk_at "rd"
      refine ⟨c.taken, rfl, hc.1, ?_⟩
      walk_at "rd"
      refine rd_ixL (SqL.of L3) (v := V.str (tx [48 + c.made.toNat])) (atI_last (_ :: _) _) ?_
      walk_at "rd"
      refine ⟨c.made, rfl, hc.2.2, ?_⟩
      walk_at "rd"
      intro x dx hx hdx hne
      refine ⟨x, dx, D, c.taken, c.made, rfl, upd_same, fun H4 ho hx4 => ⟨rfl, ?_⟩⟩
      have s0 := (s1.trans s2).trans s3
      have s4 : Same H3 H4 := fun b o e => by
        rw [ho b (ne_of_none e hx), upd_ne (ne_of_none e hx), upd_ne (ne_of_none e hdx)]; exact e
      refine k _ _ (s0.trans s4) ⟨x, dx, D, us, rfl, hx4, s4 _ _ hus, none_of s0 hx, none_of (s1.trans s2) hD, (hall.imp fun _ _ h => (h.same s4).imp fun b hb => hb.2)⟩
/-! #### rules -/
def eights : List Int := [0, 0, 0, 0, 0, 0, 0, 0]
def RuleW (cs : List Cla) : Prop := (∀ c ∈ cs, ClaW c) ∧ (∀ c ∈ cs, (claT c).length ≤ 100000 ∧ c.conds.length ≤ 1000) ∧ cs.length ≤ 1000 ∧ (ruleT cs).length ≤ 10000000 ∧ ruleMakes cs 0 eights = 0
theorem RuleW.ok {cs : List Cla} (h : RuleW cs) : RuleOk cs := fun c hc k hk => ((h.1 c hc).2.1 k hk).ok
theorem joinL_pos {S : List Nat} {x : List Nat} (h : x ≠ []) (xs : List (List Nat)) : TL.joinL S (x :: xs) ≠ [] := by
  cases xs with
  | nil => exact h
  | cons y ys =>
    show x ++ _ ≠ []
    intro e
    exact h (List.append_eq_nil_iff.mp e).1
theorem claT_pos (c : Cla) : claT c ≠ [] := joinL_pos (by simp) _
theorem no_semi {c : Cla} (h : ClaW c) : (59 : Nat) ∉ claT c := by
  have hno := claW_no h
  have gen : ∀ ws : List (List Nat), (∀ w ∈ ws, (59 : Nat) ∉ w) → (59 : Nat) ∉ TL.joinL [32] ws := fun ws => by
    induction ws with
    | nil => intro _; simp [TL.joinL]
    | cons x ws ih =>
      intro hw
      cases ws with
      | nil => exact hw x List.mem_cons_self
      | cons y ys =>
        show (59 : Nat) ∉ x ++ ([32] ++ TL.joinL [32] (y :: ys))
        simp only [List.mem_append, List.mem_singleton, not_or]
        exact ⟨hw x List.mem_cons_self, by decide, ih fun w hw' => hw w (List.mem_cons_of_mem _ hw')⟩
  exact gen _ fun w hw => (hno w hw).2
def sp_read_rule (K : PySem.W.Frag) : Sp := fun vs H Q _ => ∃ cs : List Cla, vs = [.str (tx (ruleT cs))] ∧ RuleW cs ∧ ∀ H' v, Same H H' → RuleAt K H' v cs → Q v H'
theorem mp_read_rule : MonP (sp_read_rule K) := fun vs H Q Q' E h ⟨cs, x1, x2, k⟩ => ⟨cs, x1, x2, fun H' v a b => h _ _ (k H' v a b)⟩
def sp_rule_init (C : Addr) : Sp := fun vs H Q _ => ∃ (p dx l : Addr), vs = [.ref p, .ref l] ∧ H p = some (.ins C dx []) ∧ Q .non (upd H p (.ins C dx [("clauses", .ref l)]))
theorem ok_rule_init (T : Env fa fn K mg) : Good P w K mg base CX0 1 ("Rule", some "__init__") ["self", "clauses"] (sp_rule_init (He.ga K "Rule")) := by
  refine good_mk T 15 (d := d_Rule_init) (N := ["self", "clauses"]) (ps := ["self", "clauses"]) rfl rfl sc_Rule_init (fun _ _ _ _ _ _ us hl => match us, hl with | [_, _], _ => rfl) (fun vs H Q E h => ?_) (fun f cdv A outer σ0 H vs Q E hr h => ?_)
  · obtain ⟨p, dx, l, rfl, _⟩ := h; rfl
  · obtain ⟨p, dx, l, rfl, hp, k⟩ := h
    have cl := T.cls 62
    refine ⟨_, (pss_one (ps_fld (pv 0) (pv 1) rfl)), ?_⟩
    walk_at "rd"
    refine ⟨p, _, dx, [], rfl, hp, cl, T.noat 61, by decide, ?_⟩
    exact k
theorem isi_str {z : Str} {H : Hp} {Q : VK} (q : Q (.bl true) H) : rIsi K [.str z, .ty "str"] H Q := isi_ty (.base (.str z)) (by decide +kernel : kitB "str" "str" = some true) q
set_option maxHeartbeats 8000000 in
theorem ok_read_rule (T : Env fa fn K mg) : Good P w K mg base CX0 5 ("read_rule", none) ["text"] (sp_read_rule K) := by
  have G_read_clause := ok_read_clause (P := P) (w := w) (base := base) T
  have G_Rule_init := ok_rule_init (P := P) (w := w) (base := base) T
  have G_becomes := ok_becomes (P := P) (w := w) (base := base) T
  refine good_mk T 23 (d := d_read_rule) (N := ["text", "clauses", "rule", "part"]) (ps := ["text"]) rfl rfl sc_read_rule (fun _ _ _ _ _ _ us hl => match us, hl with | [_], _ => rfl) (fun vs H Q E h => ?_) (fun f cdv A outer σ0 H vs Q E hr h => ?_)
  · obtain ⟨cs, rfl, _⟩ := h; rfl
  · obtain ⟨cs, rfl, hR, k⟩ := h
    obtain ⟨hw, hlen, hcl, hrl, hz⟩ := id hR
    have mp1 := mp_read_clause (K := K)
    refine ⟨_, (pss_cons (ps_if (pt_not (pt_val (pe_callB (call_isiK K rfl) (by rfl) (T.free 29) (by decide +kernel) (pa_cons (pv 0) (pa_cons (pe_bltn (v := V.ty "str") rfl (T.free 0) (by decide +kernel) rfl) pa_nil))))) pss_never pss_nil)
      (pss_cons (ps_set (i := 1) sc_read_rule.nd rfl (Or.inl rfl) (pe_lst pa_nil))
      (pss_cons (ps_if (pt_cmpR op_ne (pv 0) pe_str (nomark _)) (pss_one (ps_setLc (i := 1) (own := [("part", 3)]) (tt := tYes) rfl sc_read_rule.nd rfl rfl (sw_true rfl rfl rfl (by decide +kernel)) (pi_listK K rfl (pe_split (pv 0) pe_str)) (blkOk_by (own := [("part", 3)]) (N := ["text", "clauses", "rule", "part"]) (sc := defScope st_read_rule) (by decide +kernel)) (fun _ _ _ _ _ => by exact (pg_name (i := 3) sc_read_rule.nd rfl (Or.inl rfl))) (fun _ _ _ _ _ => by exact pts_nil) (fun _ _ _ _ _ => by exact (pe_cgK K rfl G_read_clause (hr.mono (by decide)) (T.glo 30) (pa_cons (pv 3) pa_nil))))) pss_nil)
      (pss_cons (ps_set (i := 2) sc_read_rule.nd rfl (Or.inl rfl) (pe_mkgK K rfl (T.mkr 31) G_Rule_init (hr.mono (by decide)) (T.glo 32) (pa_cons (pv 1) pa_nil)))
      (pss_cons (ps_if (pt_cmpR op_ne (pe_cgK K rfl G_becomes (hr.mono (by decide)) (T.glo 33) (pa_cons (pv 2) (pa_cons pe_int (pa_cons (pe_lst (pa_cons pe_int (pa_cons pe_int (pa_cons pe_int (pa_cons pe_int (pa_cons pe_int (pa_cons pe_int (pa_cons pe_int (pa_cons pe_int pa_nil))))))))) pa_nil)))) pe_int (nomark _)) pss_never pss_nil)
      (pss_one (ps_ret (pv 2)))))))), ?_⟩
    walk_at "rd"
    refine isi_str ?_
    walk_at "rd"
    refine rd_new (hn := by show 0 ≤ sizeLine; decide) fun p0 hp0 => ?_
    have s0 := same_upd (o := .lst []) hp0
    have L0 : (upd H p0 (.lst [])) p0 = some (.lst []) := upd_same
    generalize upd H p0 (.lst []) = H0 at s0 L0 ⊢
    walk_at "rhi"
    refine rd_cut (fun σ H1 => ∃ (l : Addr) (us : List V) (x3 : Option V), σ = [some (.str (tx (ruleT cs))), some (.ref l), none, x3] ∧ Same H H1 ∧ H1 l = some (.lst us) ∧ AllV (ClaAt K H1) us cs) (by walk_at "mono") ?_ ?_
    · walk_at "rd"
      cases cs with
      | nil =>
        rw [show (decide ((tx (ruleT [])) = Str.ofString "")) = true from by decide +kernel]
        walk_at "rd"
        exact ⟨p0, [], none, rfl, s0, L0, trivial⟩
      | cons c cs =>
        have hne : ¬ (tx (ruleT (c :: cs)) = Str.ofString "") := fun e => by
          have e2 : (Str.ofString "").cps.toList = [] := by decide +kernel
          have e1 : ruleT (c :: cs) = [] := by rw [← e2, ← e]
          exact joinL_pos (claT_pos c) _ e1
        rw [decide_eq_false hne]
        walk_at "rd"
        refine rd_m1 ?_
        walk_at "rd"
        refine rd_st ?_
        walk_at "rd"
        refine ⟨_, _, rfl, rfl, by decide +kernel, small_len16 (by rw [len_tx]; omega), fun pw hpw => ?_⟩
        have esp : Txt.split (tx (ruleT (c :: cs))) (Str.ofString "; ") = ((c :: cs).map claT).map tx := split_tx tl_semi (by decide +kernel) (by simp) fun w hw' => by
          obtain ⟨d, hd, rfl⟩ := List.mem_map.mp hw'
          exact no_semi (hw d hd)
        rw [esp]
        have eW : (((c :: cs).map claT).map tx).map V.str = (c :: cs).map fun d => V.str (tx (claT d)) := by simp only [List.map_map, Function.comp_def]
        rw [eW]
        generalize hcs : c :: cs = ds at *
        have s2 := same_upd (o := .lst (ds.map fun d => V.str (tx (claT d)))) hpw
        have L2 : (upd H0 pw (.lst (ds.map fun d => V.str (tx (claT d))))) pw = some (.lst (ds.map fun d => V.str (tx (claT d)))) := upd_same
        generalize upd H0 pw (.lst (ds.map fun d => V.str (tx (claT d)))) = H2 at s2 L2 ⊢
        refine ⟨pw, rfl, ⟨_, SqL.of L2⟩, fun D hD => ?_⟩
        have sD := fun o => same_upd (o := o) hD
        refine lc_list (K := K) (xs := ds.map fun d => V.str (tx (claT d))) (fun i H' => Same H2 H' ∧ ∃ us, H' D = some (.lst us) ∧ AllV (ClaAtN (fun b => b ≠ D) K H') us (ds.take i)) ?_ ?_ ?_ ?_
        · exact ⟨sD _, [], upd_same, trivial⟩
        · rintro i H' _ ⟨s3, _⟩
          exact SqL.of (s3 _ _ L2)
        · rintro i x H' hx ⟨s3, us, hus, hall⟩
          obtain ⟨d, hk, rfl⟩ : ∃ d, ds[i]? = some d ∧ x = V.str (tx (claT d)) := by
            rw [List.getElem?_map] at hx
            cases e : ds[i]? with
            | none => rw [e] at hx; cases hx
            | some y => rw [e] at hx; exact ⟨y, rfl, (Option.some.inj hx).symm⟩
          have hi := (List.getElem?_eq_some_iff.mp hk).1
          have hm := List.mem_of_getElem? hk
          walk_at "rd"
          refine ⟨rfl, ?_⟩
          walk_at "rd"
          refine ⟨d, rfl, hw d hm, (hlen d hm).1, (hlen d hm).2, fun H4 v s4 hv => ?_⟩
          have hus4 := s4 _ _ hus
          have hv' : ClaAtN (fun b => b ≠ D) K H4 v d := hv.imp fun b hb z => by rw [z, hus] at hb; cases hb
          refine ⟨us, hus4, ?_, Same.put2 (s3.trans s4) hD, us ++ [v], upd_same, ?_⟩
          · have := hall.len
            rw [List.length_take] at this
            exact small1000 (by omega)
          · rw [take_snoc hk]
            exact ((hall.imp fun _ _ h => h.same s4).app hv').imp fun _ _ h => h.upd fun b hb => hb
        · rintro H3 ⟨s3, us, hus, hall⟩
          rw [List.length_map, List.take_length] at hall
          walk_at "rd"
          exact ⟨D, us, none, rfl, (s0.trans s2).trans s3, hus, hall.imp fun _ _ h => h.at⟩
    rintro σ H1 ⟨l, us, x3, rfl, s1, hl, hall⟩
    walk_at "rd"
    refine rd_make ?_
    walk_at "rd"
    intro x dx hx hdx hne
    refine ⟨x, dx, l, rfl, upd_same, rfl, ?_⟩
    have s2 : Same H1 (upd (upd (upd H1 dx (.own x)) x (.ins (He.ga K "Rule") dx [])) x (.ins (He.ga K "Rule") dx [("clauses", .ref l)])) := Same.put2 (made_same2 hx hdx) hx
    have hat : RuleAt K (upd (upd (upd H1 dx (.own x)) x (.ins (He.ga K "Rule") dx [])) x (.ins (He.ga K "Rule") dx [("clauses", .ref l)])) (.ref x) cs := ⟨x, dx, l, us, rfl, upd_same, s2 _ _ hl, hall.imp fun _ _ h => h.same s2⟩
    generalize upd (upd (upd H1 dx (.own x)) x (.ins (He.ga K "Rule") dx [])) x (.ins (He.ga K "Rule") dx [("clauses", .ref l)]) = H2 at s2 hat ⊢
    walk_at "rd"
    refine rd_new (hn := by show 8 ≤ sizeLine; decide) fun pz hpz => ?_
    have s3 := same_upd (o := .lst [V.int 0, V.int 0, V.int 0, V.int 0, V.int 0, V.int 0, V.int 0, V.int 0]) hpz
    walk_at "rd"
    refine ⟨_, pz, cs, 0, eights, rfl, hat.same s3, upd_same, rfl, hR.ok, fun H4 s4 => ?_⟩
    rw [hz]
    walk_at "rd"
    refine iteF ?_
    walk_at "rd"
    exact k _ _ (((s1.trans s2).trans s3).trans s4) ((hat.same s3).same s4)
end
end JF

/-! ### rules: helpers of the laws -/
namespace JF
open PySem PySem.Spec PyProof.Rows L2
theorem tl_tx (l : List Nat) : TL.tl (tx l) = l := rfl
theorem tl_int {d : Nat} (h : d < 10) : TL.tl (Str.ofString (toString (d : Int))) = [48 + d] := by rw [TL.tl_num, TL.numL_lt h]
theorem take_sign {t : Nat} (h : t < 9) : ((Str.ofString "01234567*").cps.toList)[t]? = some (if t = 8 then 42 else 48 + t) := by
  have e : (Str.ofString "01234567*").cps.toList = [48, 49, 50, 51, 52, 53, 54, 55, 42] := by decide +kernel
  rw [e]
  match t, h with
  | 0, _ => rfl
  | 1, _ => rfl
  | 2, _ => rfl
  | 3, _ => rfl
  | 4, _ => rfl
  | 5, _ => rfl
  | 6, _ => rfl
  | 7, _ => rfl
  | 8, _ => rfl
theorem add_ok {i j : Str} (h : (TL.tl i).length + (TL.tl j).length ≤ 1000000) : i.length + j.length ≤ sizeLine := by
  rw [TL.len_tl i, TL.len_tl j]
  exact small_len h
theorem log_ok {i : Int} (h : i.natAbs < 1000) : i.natAbs.log2 < 1920 := Nat.lt_of_le_of_lt (Nat.log2_le_self _) (by omega)
theorem sum_len : ∀ nu : List Int, (nu.map (List.length ∘ fun n : Int => [48 + n.toNat])).sum = nu.length
  | [] => rfl
  | n :: ns => by
    have ih := sum_len ns
    simp only [List.map_cons, List.sum_cons, ih, Function.comp_apply, List.length_cons, List.length_nil]
    omega
theorem join_one : ∀ nu : List Int, TL.joinL [] (nu.map fun n => [48 + n.toNat]) = numT nu
  | [] => rfl
  | [n] => rfl
  | n :: m :: ns => by
    show [48 + n.toNat] ++ ([] ++ TL.joinL [] ((m :: ns).map fun n => [48 + n.toNat])) = _
    rw [join_one (m :: ns)]; rfl
theorem rule_one (c : Cla) (cell : Int) (xs : List Int) : ruleMakes [c] cell xs = if c.fits cell xs = true then c.made else cell := by
  unfold ruleMakes firstFit
  by_cases h : c.fits cell xs = true
  · rw [if_pos h, if_pos h]; rfl
  · rw [if_neg h, if_neg h]; rfl
theorem fits_one (tk : Nat) (s m : Int) (nu : List Int) (cell : Int) (xs : List Int) : Cla.fits ⟨if tk = 8 then none else some (tk : Int), [.amt s nu], m⟩ cell xs = (decide ((tk : Int) = cell ∨ (tk : Int) = 8) && decide (((xs.count s : Nat) : Int) ∈ nu)) := by
  show (wishOk (if tk = 8 then none else some (tk : Int)) cell && ([Cond.amt s nu].all fun k => k.holds xs)) = _
  have e : ([Cond.amt s nu].all fun k => k.holds xs) = decide (((xs.count s : Nat) : Int) ∈ nu) := by simp [Cond.holds]
  rw [e]
  by_cases z : tk = 8
  · rw [if_pos z, decide_eq_true (by omega : (tk : Int) = cell ∨ (tk : Int) = 8)]; rfl
  · rw [if_neg z]
    show (decide ((tk : Int) = cell) && _) = _
    by_cases y : (tk : Int) = cell
    · rw [decide_eq_true y, decide_eq_true (Or.inl y)]
    · rw [decide_eq_false y, decide_eq_false (by omega : ¬ ((tk : Int) = cell ∨ (tk : Int) = 8))]
section
variable {P : Program} {w : World} {K : PySem.W.Frag} {mg : Str → Option Value} {base : Heap}
def sp_whole : Sp := fun vs H Q _ => ∃ x : V, vs = [x] ∧ ((∃ i, x = .int i) ∨ (∃ b, x = .bl b) ∨ (∃ z, x = .str z) ∨ x = .non) ∧ Q (.bl (wholeV x)) H
theorem mp_whole : MonP sp_whole := fun vs H Q Q' E h ⟨x, x1, x2, q⟩ => ⟨x, x1, x2, h _ _ q⟩
end
end JF

/-! ### drawn clauses: what the laws draw -/
namespace JF
open PySem PySem.Spec PyProof.Rows L2
def wishOf (w : Int) : Option Int := if w = 8 then none else some w
/-- a condition as the laws hold it: a tuple -/
def LCond (H : Hp) (v : V) : Cond → Prop
  | .amt s ns => ∃ (t l : Addr), v = .ref t ∧ H t = some (.tup [.str "amount", .int s, .ref l]) ∧ H l = some (.lst (ns.map V.int))
  | .plc ws => ∃ (t l : Addr) (wv : List Int), v = .ref t ∧ H t = some (.tup [.str "places", .ref l]) ∧ H l = some (.lst (wv.map V.int)) ∧ ws = wv.map wishOf ∧ ∀ w ∈ wv, 0 ≤ w ∧ w ≤ 8
theorem LCond.same {H H' : Hp} {v : V} {c : Cond} (h : LCond H v c) (s : Same H H') : LCond H' v c := by
  cases c with
  | amt st ns => obtain ⟨t, l, e, h1, h2⟩ := h; exact ⟨t, l, e, s _ _ h1, s _ _ h2⟩
  | plc ws => obtain ⟨t, l, wv, e, h1, h2, h3⟩ := h; exact ⟨t, l, wv, e, s _ _ h1, s _ _ h2, h3⟩
def LCondN (N : Addr → Prop) (H : Hp) (v : V) : Cond → Prop
  | .amt s ns => ∃ (t l : Addr), v = .ref t ∧ H t = some (.tup [.str "amount", .int s, .ref l]) ∧ H l = some (.lst (ns.map V.int)) ∧ N l
  | .plc ws => ∃ (t l : Addr) (wv : List Int), v = .ref t ∧ H t = some (.tup [.str "places", .ref l]) ∧ H l = some (.lst (wv.map V.int)) ∧ N l ∧ ws = wv.map wishOf ∧ ∀ w ∈ wv, 0 ≤ w ∧ w ≤ 8
theorem LCondN.at {N : Addr → Prop} {H : Hp} {v : V} {c : Cond} (h : LCondN N H v c) : LCond H v c := by
  cases c with
  | amt st ns => obtain ⟨t, l, e, h1, h2, _⟩ := h; exact ⟨t, l, e, h1, h2⟩
  | plc ws => obtain ⟨t, l, wv, e, h1, h2, _, h3⟩ := h; exact ⟨t, l, wv, e, h1, h2, h3⟩
theorem LCondN.imp {N N' : Addr → Prop} {H : Hp} {v : V} {c : Cond} (h : LCondN N H v c) (k : ∀ b, N b → N' b) : LCondN N' H v c := by
  cases c with
  | amt st ns => obtain ⟨t, l, e, h1, h2, h3⟩ := h; exact ⟨t, l, e, h1, h2, k _ h3⟩
  | plc ws => obtain ⟨t, l, wv, e, h1, h2, h3, h4⟩ := h; exact ⟨t, l, wv, e, h1, h2, k _ h3, h4⟩
theorem LCondN.same {N : Addr → Prop} {H H' : Hp} {v : V} {c : Cond} (h : LCondN N H v c) (s : Same H H') : LCondN N H' v c := by
  cases c with
  | amt st ns => obtain ⟨t, l, e, h1, h2, h3⟩ := h; exact ⟨t, l, e, s _ _ h1, s _ _ h2, h3⟩
  | plc ws => obtain ⟨t, l, wv, e, h1, h2, h3, h4⟩ := h; exact ⟨t, l, wv, e, s _ _ h1, s _ _ h2, h3, h4⟩
theorem LCondN.upd {N : Addr → Prop} {H : Hp} {v : V} {c : Cond} {D : Addr} {o : HO} {xs : List V} (h : LCondN N H v c) (hD : H D = some (.lst xs)) (k : ∀ b, N b → b ≠ D) : LCondN N (L2.upd H D o) v c := by
  have tn : ∀ t ys, H t = some (.tup ys) → t ≠ D := fun t ys e z => by rw [z, hD] at e; cases e
  cases c with
  | amt st ns => obtain ⟨t, l, e, h1, h2, h3⟩ := h; exact ⟨t, l, e, by rw [upd_ne (tn _ _ h1)]; exact h1, by rw [upd_ne (k _ h3)]; exact h2, h3⟩
  | plc ws => obtain ⟨t, l, wv, e, h1, h2, h3, h4⟩ := h; exact ⟨t, l, wv, e, by rw [upd_ne (tn _ _ h1)]; exact h1, by rw [upd_ne (k _ h3)]; exact h2, h3, h4⟩
def takenN (t : Option Int) : Int := t.getD 8
def LCla (H : Hp) (v : V) (c : Cla) : Prop := ∃ t l ps, v = .ref t ∧ H t = some (.tup [.int (takenN c.taken), .ref l, .int c.made]) ∧ H l = some (.lst ps) ∧ AllV (LCond H) ps c.conds
theorem LCla.same {H H' : Hp} {v : V} {c : Cla} (h : LCla H v c) (s : Same H H') : LCla H' v c := by
  obtain ⟨t, l, ps, e, h1, h2, h3⟩ := h
  exact ⟨t, l, ps, e, s _ _ h1, s _ _ h2, h3.imp fun _ _ h => h.same s⟩
section
variable {P : Program} {w : World} {K : PySem.W.Frag} {mg : Str → Option Value} {base : Heap}
/-- some number from 0 on -/
def sp_mix : Sp := fun vs H Q _ => ∃ c k : Int, vs = [.int c, .int k] ∧ 0 ≤ k ∧ k ≤ 100000 ∧ ∀ z : Int, 0 ≤ z → z < 2147483648 → Q (.int z) H
theorem mp_mix : MonP sp_mix := fun vs H Q Q' E h ⟨c, k, x1, x2, x3, q⟩ => ⟨c, k, x1, x2, x3, fun z a b => h _ _ (q z a b)⟩
theorem mid_mul {a b : Int} (h1 : -(2 ^ 100) < a) (h2 : a < 2 ^ 100) (h3 : -(2 ^ 100) < b) (h4 : b < 2 ^ 100) : CMulW a b := by
  have e1 : (2 : Int) ^ 100 ≤ 2 ^ 2000 := by decide +kernel
  exact mulW_of (by omega) (by omega) (by omega) (by omega)
theorem ok_mix (T : Env fa fn K mg) : Good P w K mg base CX0 1 ("_law_mix", none) ["_law_cell", "_law_k"] sp_mix := by
  refine good_mk T 28 (d := d_w_mix) (N := ["_law_cell", "_law_k", "_law_value"]) (ps := ["_law_cell", "_law_k"]) rfl rfl sc_w_mix (fun _ _ _ _ _ _ us hl => match us, hl with | [_, _], _ => rfl) (fun vs H Q E h => ?_) (fun f cdv A outer σ0 H vs Q E hr h => ?_)
  · obtain ⟨c, k, rfl, _⟩ := h; rfl
  · obtain ⟨c, kk, rfl, h0, h1, k⟩ := h
    refine ⟨_, (pss_cons (ps_set (i := 2) sc_w_mix.nd rfl (Or.inl rfl) (pe_op op_mod (pe_op op_mulW (pe_op op_add (pe_op op_add (pe_op op_mod (pv 0) pe_int) (pe_op op_mulW pe_int (pv 1))) pe_int) (pe_op op_add pe_int (pe_op op_mulW pe_int (pv 1)))) pe_int))
      (pss_one (ps_ret (pe_op op_fdivW (pe_op op_mod (pe_op op_mulW (pe_op op_add (pe_op op_fdivW (pv 2) pe_int) (pv 1)) pe_int) pe_int) pe_int)))), ?_⟩
    walk_at "rd"
    refine rd_I (mid_mul (by decide) (by decide) (by omega) (by omega)) ?_
    walk_at "rd"
    refine rd_I (mid_mul (by decide) (by decide) (by omega) (by omega)) ?_
    walk_at "rd"
    refine rd_I (mid_mul (by omega) (by omega) (by omega) (by omega)) ?_
    walk_at "rd"
    generalize hm : (c % 998244353 + 17 * kk + 5) * (48271 + 2 * kk) % 2147483647 = m
    have m0 : 0 ≤ m := by rw [← hm]; exact Int.emod_nonneg _ (by decide)
    have m1 : m < 2147483647 := by rw [← hm]; exact Int.emod_lt_of_pos _ (by decide)
    refine rd_I (mid_mul (by omega) (by omega) (by omega) (by omega)) ?_
    walk_at "rd"
    refine k _ (by omega) (by omega)
def sp_state_by : Sp := fun vs H Q _ => ∃ (t : Addr) (a b v : Int), vs = [.ref t, .int v] ∧ H t = some (.tup [.int a, .int b]) ∧ St a ∧ St b ∧ ∀ s, St s → Q (.int s) H
theorem mp_state_by : MonP sp_state_by := fun vs H Q Q' E h ⟨t, a, b, v, x1, x2, x3, x4, q⟩ => ⟨t, a, b, v, x1, x2, x3, x4, fun s hs => h _ _ (q s hs)⟩
theorem ok_state_by (T : Env fa fn K mg) : Good P w K mg base CX0 1 ("_law_state_by", none) ["_law_mains", "_law_value"] sp_state_by := by
  refine good_mk T 29 (d := d_w_state_by) (N := ["_law_mains", "_law_value"]) (ps := ["_law_mains", "_law_value"]) rfl rfl sc_w_state_by (fun _ _ _ _ _ _ us hl => match us, hl with | [_, _], _ => rfl) (fun vs H Q E h => ?_) (fun f cdv A outer σ0 H vs Q E hr h => ?_)
  · obtain ⟨t, a, b, v, rfl, _⟩ := h; rfl
  · obtain ⟨t, a, b, v, rfl, ht, ha, hb, k⟩ := h
    refine ⟨_, (pss_cons (ps_if (pt_cmpR op_lt (pe_op op_mod (pv 1) pe_int) pe_int (nomark _)) (pss_one (ps_ret (pe_ix (ix_tupK K rfl) (pv 0) (pe_op op_mod (pv 1) pe_int) (fun _ _ => rfl)))) pss_nil)
      (pss_one (ps_ret (pe_op op_mod (pe_op op_fdivW (pv 1) pe_int) pe_int)))), ?_⟩
    walk_at "rd"
    refine ite_d (fun h1 => ?_) (fun h1 => ?_)
    · walk_at "rd"
      rcases (by omega : v % 3 = 0 ∨ v % 3 = 1) with z | z <;> rw [z]
      · exact rd_ixT (SqT.of ht) (atI_nat (j := 0) rfl) (k _ ha)
      · exact rd_ixT (SqT.of ht) (atI_nat (j := 1) rfl) (k _ hb)
    · walk_at "rd"
      exact k _ ⟨by omega, by omega⟩
def bitsOf (v : Int) : Nat → List Int
  | 0 => []
  | k + 1 => bitsOf v k ++ (if (v / 2 ^ k) % 2 = 1 then [(k : Int)] else [])
theorem bitsOf_mem {v : Int} : ∀ {k : Nat} {n : Int}, n ∈ bitsOf v k → 0 ≤ n ∧ n < (k : Int)
  | 0, n, h => by cases h
  | k + 1, n, h => by
    rcases List.mem_append.mp h with h | h
    · have := bitsOf_mem h; omega
    · split at h
      · rw [List.mem_singleton] at h; omega
      · cases h
theorem bitsOf_inc {v : Int} : ∀ k : Nat, (bitsOf v k).Pairwise (· < ·)
  | 0 => .nil
  | k + 1 => by
    unfold bitsOf
    rw [List.pairwise_append]
    refine ⟨bitsOf_inc k, by split <;> simp, fun a ha b hb => ?_⟩
    split at hb
    · rw [List.mem_singleton] at hb
      have := bitsOf_mem ha
      omega
    · cases hb
theorem bitsOf_len {v : Int} : ∀ k : Nat, (bitsOf v k).length ≤ k
  | 0 => Nat.le_refl _
  | k + 1 => by
    have h := bitsOf_len (v := v) k
    unfold bitsOf
    rw [List.length_append]
    split
    · simp only [List.length_cons, List.length_nil]; omega
    · simp only [List.length_nil]; omega
theorem bitsOf_ne {v : Int} (h1 : 1 ≤ v) (h2 : v ≤ 511) : bitsOf v 9 ≠ [] := by
  intro e
  simp only [bitsOf, List.append_eq_nil_iff, List.nil_append] at e
  obtain ⟨⟨⟨⟨⟨⟨⟨⟨e0, e1⟩, e2⟩, e3⟩, e4⟩, e5⟩, e6⟩, e7⟩, e8⟩ := e
  have z : ∀ (k : Nat), (if (v / 2 ^ k) % 2 = 1 then [(k : Int)] else []) = [] → ¬ (v / 2 ^ k) % 2 = 1 := fun k h y => by rw [if_pos y] at h; cases h
  have z0 := z 0 e0; have z1 := z 1 e1; have z2 := z 2 e2; have z3 := z 3 e3; have z4 := z 4 e4; have z5 := z 5 e5; have z6 := z 6 e6; have z7 := z 7 e7; have z8 := z 8 e8
  omega
theorem band1'' (i : Int) : Builtin.bitAnd i 1 = i % 2 := PySem.W.kbt_mask i 1
theorem wishW_of {w : Int} (h0 : 0 ≤ w) (h8 : w ≤ 8) : WishW (wishOf w) := by
  unfold wishOf
  by_cases z : w = 8
  · rw [if_pos z]; trivial
  · rw [if_neg z]; show St w; unfold St; omega
def sp_condition_by : Sp := fun vs H Q _ => ∃ (t : Addr) (a b sd j : Int), vs = [.ref t, .int sd, .int j] ∧ H t = some (.tup [.int a, .int b]) ∧ St a ∧ St b ∧ 0 ≤ j ∧ j ≤ 90000 ∧ ∀ H' v (c : Cond), Same H H' → LCondN (fun b => H b = none) H' v c → CondW c → Q v H'
theorem mp_condition_by : MonP sp_condition_by := fun vs H Q Q' E h ⟨t, a, b, sd, j, x1, x2, x3, x4, x5, x6, q⟩ => ⟨t, a, b, sd, j, x1, x2, x3, x4, x5, x6, fun H' v c a b d => h _ _ (q H' v c a b d)⟩
set_option maxHeartbeats 8000000 in
theorem ok_condition_by (T : Env fa fn K mg) : Good P w K mg base CX0 2 ("_law_condition_by", none) ["_law_mains", "_law_seed", "_law_j"] sp_condition_by := by
  have G_w_mix := ok_mix (P := P) (w := w) (base := base) T
  have G_w_state_by := ok_state_by (P := P) (w := w) (base := base) T
  refine good_mk T 30 (d := d_w_condition_by) (N := ["_law_mains", "_law_seed", "_law_j", "_law_wanted", "_law_k", "_law_value", "_law_mask"]) (ps := ["_law_mains", "_law_seed", "_law_j"]) rfl rfl sc_w_condition_by (fun _ _ _ _ _ _ us hl => match us, hl with | [_, _, _], _ => rfl) (fun vs H Q E h => ?_) (fun f cdv A outer σ0 H vs Q E hr h => ?_)
  · obtain ⟨t, a, b, sd, j, rfl, _⟩ := h; rfl
  · obtain ⟨t, a, b, sd, j, rfl, ht, ha, hb, h0, h1, k⟩ := h
    refine ⟨_, (pss_cons (ps_if (pt_cmpR op_eq (pe_op op_mod (pe_cgK K rfl G_w_mix (hr.mono (by decide)) (T.glo 38) (pa_cons (pv 1) (pa_cons (pv 2) pa_nil))) pe_int) pe_int (nomark _)) (pss_cons (ps_set (i := 3) sc_w_condition_by.nd rfl (Or.inl rfl) (pe_lst pa_nil))
      (pss_cons (ps_for PassesOwn.never rfl (pi_range1 (by rfl) (T.free 39) (pa_cons pe_int pa_nil)) (pg_name (i := 4) sc_w_condition_by.nd rfl (Or.inl rfl)) (pss_cons (ps_set (i := 5) sc_w_condition_by.nd rfl (Or.inl rfl) (pe_cgK K rfl G_w_mix (hr.mono (by decide)) (T.glo 38) (pa_cons (pv 1) (pa_cons (pe_op op_add (pe_op op_add (pv 2) pe_int) (pv 4)) pa_nil))))
      (pss_one (ps_if (pt_cmpR op_eq (pe_op op_mod (pe_op op_fdivW (pv 5) pe_int) pe_int) pe_int (nomark _)) (pss_one (ps_expr (pe_bm PySem.F.plainAttrs_list PySem.F.slot_list_append PySem.F.type_list_append mt_append (pv 3) (pa_cons (pe_cgK K rfl G_w_state_by (hr.mono (by decide)) (T.glo 40) (pa_cons (pv 0) (pa_cons (pv 5) pa_nil))) pa_nil)))) (pss_one (ps_expr (pe_bm PySem.F.plainAttrs_list PySem.F.slot_list_append PySem.F.type_list_append mt_append (pv 3) (pa_cons pe_int pa_nil))))))))
      (pss_one (ps_ret (pe_tup (pa_cons pe_str (pa_cons (pv 3) pa_nil))))))) pss_nil)
      (pss_cons (ps_set (i := 6) sc_w_condition_by.nd rfl (Or.inr rfl) (pe_op op_add (pe_op op_mod (pe_cgK K rfl G_w_mix (hr.mono (by decide)) (T.glo 38) (pa_cons (pv 1) (pa_cons (pe_op op_add (pv 2) pe_int) pa_nil))) pe_int) pe_int))
      (pss_one (ps_ret (pe_tup (pa_cons pe_str (pa_cons (pe_cgK K rfl G_w_state_by (hr.mono (by decide)) (T.glo 40) (pa_cons (pv 0) (pa_cons (pe_cgK K rfl G_w_mix (hr.mono (by decide)) (T.glo 38) (pa_cons (pv 1) (pa_cons (pe_op op_add (pv 2) pe_int) pa_nil))) pa_nil))) (pa_cons (pe_lc (own := [("_law_k", 4)]) rfl sc_w_condition_by.nd (pi_range1 (by rfl) (T.free 39) (pa_cons pe_int pa_nil)) (blkOk_by (own := [("_law_k", 4)]) (N := ["_law_mains", "_law_seed", "_law_j", "_law_wanted", "_law_k", "_law_value", "_law_mask"]) (sc := defScope st_w_condition_by) (by decide +kernel)) (fun _ _ _ _ _ => by exact (pg_name (i := 4) sc_w_condition_by.nd rfl (Or.inl rfl))) (fun _ _ _ _ _ => by exact (pts_one (pt_cmpR op_eq (pe_op op_and (pe_op op_shr (pv 6) (pv 4)) pe_int) pe_int (nomark _)))) (fun _ _ _ _ _ => by exact (pv 4))) pa_nil)))))))), ?_⟩
    walk_at "rd"
    refine ⟨sd, j, rfl, h0, by omega, fun z0 _ _ => ?_⟩
    walk_at "rd"
    refine ite_d (fun hc => ?_) (fun hc => ?_)
    · walk_at "rd"
      refine rd_new (hn := by show 0 ≤ sizeLine; decide) fun l hl => ?_
      have s0 := same_upd (o := .lst []) hl
      walk_at "rd"
      refine ⟨8, rfl, by decide, by decide, ?_⟩
      refine for_it (walk_r0 (n := 8)) (fun i σ H' => Same H H' ∧ ∃ (xs : List Int) (x4 x5 : Option V), σ = [some (.ref t), some (.int sd), some (.int j), some (.ref l), x4, x5, none] ∧ H' l = some (.lst (xs.map V.int)) ∧ xs.length = i ∧ ∀ w ∈ xs, 0 ≤ w ∧ w ≤ 8) ⟨s0, [], none, none, rfl, upd_same, rfl, by simp⟩ (fun _ _ _ _ _ => trivial) ?_ ?_
      · rintro i x σ Ha Hb hi ⟨s1, xs, x4, x5, rfl, hx, hxl, hbd⟩ ⟨rfl, rfl⟩
        have hlt : (xs.map V.int).length < sizeLine := by rw [List.length_map]; exact small1000 (by omega)
        have fin : ∀ z : Int, 0 ≤ z → z ≤ 8 → ∀ w ∈ xs ++ [z], 0 ≤ w ∧ w ≤ 8 := fun z g0 g8 w hw => by
          rcases List.mem_append.mp hw with hw | hw
          · exact hbd w hw
          · rw [List.mem_singleton] at hw; subst hw; exact ⟨g0, g8⟩
        walk_at "rd"
        refine ⟨sd, j + 1 + (i : Int), rfl, by omega, by omega, fun z1 _ _ => ?_⟩
        walk_at "rd"
        refine ite_d (fun h => ?_) (fun h => ?_)
        · walk_at "rd"
          refine rd_tyL hx ?_
          walk_at "rd"
          refine ⟨t, a, b, z1, rfl, s1 _ _ ht, ha, hb, fun s hs => ?_⟩
          walk_at "rd"
          refine rd_append hx hlt ?_
          walk_at "rd"
          exact ⟨Same.put2 s1 hl, xs ++ [s], _, _, rfl, by rw [upd_same, List.map_append]; rfl, by rw [List.length_append, hxl]; rfl, fin s hs.1 (by have := hs.2; omega)⟩
        · walk_at "rd"
          refine rd_tyL hx ?_
          walk_at "rd"
          refine rd_append hx hlt ?_
          walk_at "rd"
          exact ⟨Same.put2 s1 hl, xs ++ [8], _, _, rfl, by rw [upd_same, List.map_append]; rfl, by rw [List.length_append, hxl]; rfl, fin 8 (by decide) (by decide)⟩
      · rintro σ H' ⟨s1, xs, x4, x5, rfl, hx, hxl, hbd⟩
        walk_at "rd"
        refine rd_new (hn := by show 2 ≤ sizeLine; decide) fun t2 ht2 => ?_
        have s2 := same_upd (o := .tup [V.str "places", V.ref l]) ht2
        refine k _ _ (.plc (xs.map wishOf)) (s1.trans s2) ⟨t2, l, xs, rfl, upd_same, s2 _ _ hx, hl, rfl, hbd⟩ ⟨by rw [List.length_map]; exact hxl, fun w hw => ?_⟩
        obtain ⟨w0, hw0, rfl⟩ := List.mem_map.mp hw
        exact wishW_of (hbd w0 hw0).1 (hbd w0 hw0).2
    · walk_at "rd"
      refine ⟨sd, j + 10, rfl, by omega, by omega, fun z1 _ _ => ?_⟩
      walk_at "rd"
      have v1 : 1 ≤ z1 % 511 + 1 := by omega
      have v2 : z1 % 511 + 1 ≤ 511 := by omega
      generalize z1 % 511 + 1 = v at v1 v2
      refine ⟨sd, j + 9, rfl, by omega, by omega, fun z2 _ _ => ?_⟩
      walk_at "rd"
      refine ⟨t, a, b, z2, rfl, ht, ha, hb, fun s hs => ?_⟩
      walk_at "rd"
      refine ⟨9, rfl, by decide, by decide, fun pn hpn => ?_⟩
      refine lc_it (walk_r0 (n := 9)) (fun i H' => H' = upd H pn (.lst ((bitsOf v i).map V.int))) rfl (fun _ _ _ _ => trivial) ?_ ?_
      · rintro i x Ha Hb hi rfl ⟨rfl, rfl⟩
        walk_at "rd"
        refine ⟨rfl, ?_⟩
        walk_at "rd"
        refine rd_I (by omega) ?_
        walk_at "rd"
        rw [band1'', Int.toNat_natCast]
        have en : bitsOf v (i + 1) = bitsOf v i ++ (if (v / 2 ^ i) % 2 = 1 then [(i : Int)] else []) := rfl
        refine ite_d (fun hb' => ?_) (fun hb' => ?_)
        · walk_at "rd"
          refine ⟨_, upd_same, ?_, ?_⟩
          · rw [List.length_map]
            have : (bitsOf v i).length ≤ i := bitsOf_len i
            exact small1000 (by omega)
          · rw [upd_upd, en, if_pos hb', List.map_append]; rfl
        · rw [en, if_neg hb', List.append_nil]
      rintro H1 rfl
      have s1 := same_upd (o := .lst ((bitsOf v 9).map V.int)) hpn
      have L1 : (upd H pn (.lst ((bitsOf v 9).map V.int))) pn = some (.lst ((bitsOf v 9).map V.int)) := upd_same
      generalize upd H pn (.lst ((bitsOf v 9).map V.int)) = H1 at s1 L1 ⊢
      walk_at "rd"
      refine rd_new (hn := by show 3 ≤ sizeLine; decide) fun t2 ht2 => ?_
      have s2 := same_upd (o := .tup [V.str "amount", V.int s, V.ref pn]) ht2
      exact k _ _ (.amt s (bitsOf v 9)) (s1.trans s2) ⟨t2, pn, rfl, upd_same, s2 _ _ L1, hpn⟩ ⟨hs, bitsOf_ne v1 v2, fun n hn => by have := bitsOf_mem hn; omega, bitsOf_inc 9⟩
end
end JF

/-! ### drawn clauses: clause_by, holds, decides, becomes -/
namespace JF
open PySem PySem.Spec PyProof.Rows L2
def LClaN (N : Addr → Prop) (H : Hp) (v : V) (c : Cla) : Prop := ∃ t l ps, v = .ref t ∧ H t = some (.tup [.int (takenN c.taken), .ref l, .int c.made]) ∧ H l = some (.lst ps) ∧ N l ∧ AllV (LCondN N H) ps c.conds
theorem LClaN.at {N : Addr → Prop} {H : Hp} {v : V} {c : Cla} (h : LClaN N H v c) : LCla H v c := by
  obtain ⟨t, l, ps, e, h1, h2, _, h3⟩ := h
  exact ⟨t, l, ps, e, h1, h2, h3.imp fun _ _ h => h.at⟩
theorem LClaN.imp {N N' : Addr → Prop} {H : Hp} {v : V} {c : Cla} (h : LClaN N H v c) (k : ∀ b, N b → N' b) : LClaN N' H v c := by
  obtain ⟨t, l, ps, e, h1, h2, h3, h4⟩ := h
  exact ⟨t, l, ps, e, h1, h2, k _ h3, h4.imp fun _ _ h => h.imp k⟩
theorem LClaN.same {N : Addr → Prop} {H H' : Hp} {v : V} {c : Cla} (h : LClaN N H v c) (s : Same H H') : LClaN N H' v c := by
  obtain ⟨t, l, ps, e, h1, h2, h3, h4⟩ := h
  exact ⟨t, l, ps, e, s _ _ h1, s _ _ h2, h3, h4.imp fun _ _ h => h.same s⟩
theorem LClaN.upd {N : Addr → Prop} {H : Hp} {v : V} {c : Cla} {D : Addr} {o : HO} {xs : List V} (h : LClaN N H v c) (hD : H D = some (.lst xs)) (k : ∀ b, N b → b ≠ D) : LClaN N (L2.upd H D o) v c := by
  have tn : ∀ t ys, H t = some (.tup ys) → t ≠ D := fun t ys e z => by rw [z, hD] at e; cases e
  obtain ⟨t, l, ps, e, h1, h2, h3, h4⟩ := h
  exact ⟨t, l, ps, e, by rw [upd_ne (tn _ _ h1)]; exact h1, by rw [upd_ne (k _ h3)]; exact h2, h3, h4.imp fun _ _ h => h.upd hD k⟩
theorem takenN_wish {w : Int} : takenN (wishOf w) = w := by
  unfold wishOf takenN
  by_cases z : w = 8
  · rw [if_pos z, z]; rfl
  · rw [if_neg z]; rfl
section
variable {P : Program} {w : World} {K : PySem.W.Frag} {mg : Str → Option Value} {base : Heap}
def sp_clause_by : Sp := fun vs H Q _ => ∃ (t : Addr) (a b sd j : Int), vs = [.ref t, .int sd, .int j] ∧ H t = some (.tup [.int a, .int b]) ∧ St a ∧ St b ∧ 0 ≤ j ∧ j ≤ 50000 ∧ ∀ H' v (c : Cla), Same H H' → LClaN (fun b => H b = none) H' v c → ClaW c → c.conds.length ≤ 8 → Q v H'
theorem mp_clause_by : MonP sp_clause_by := fun vs H Q Q' E h ⟨t, a, b, sd, j, x1, x2, x3, x4, x5, x6, q⟩ => ⟨t, a, b, sd, j, x1, x2, x3, x4, x5, x6, fun H' v c a b d e => h _ _ (q H' v c a b d e)⟩
set_option maxHeartbeats 8000000 in
theorem ok_clause_by (T : Env fa fn K mg) : Good P w K mg base CX0 3 ("_law_clause_by", none) ["_law_mains", "_law_seed", "_law_j"] sp_clause_by := by
  have G_w_mix := ok_mix (P := P) (w := w) (base := base) T
  have G_w_state_by := ok_state_by (P := P) (w := w) (base := base) T
  have G_w_condition_by := ok_condition_by (P := P) (w := w) (base := base) T
  refine good_mk T 31 (d := d_w_clause_by) (N := ["_law_mains", "_law_seed", "_law_j", "_law_taken", "_law_conditions", "_law_value", "_law_many", "_law_k"]) (ps := ["_law_mains", "_law_seed", "_law_j"]) rfl rfl sc_w_clause_by (fun _ _ _ _ _ _ us hl => match us, hl with | [_, _, _], _ => rfl) (fun vs H Q E h => ?_) (fun f cdv A outer σ0 H vs Q E hr h => ?_)
  · obtain ⟨t, a, b, sd, j, rfl, _⟩ := h; rfl
  · obtain ⟨t, a, b, sd, j, rfl, ht, ha, hb, h0, h1, k⟩ := h
    have mp1 := mp_mix
    have mp2 := mp_state_by
    refine ⟨_, (pss_cons (ps_set (i := 3) sc_w_clause_by.nd rfl (Or.inl rfl) pe_int)
      (pss_cons (ps_if (pt_cmpR op_gt (pe_op op_mod (pe_cgK K rfl G_w_mix (hr.mono (by decide)) (T.glo 38) (pa_cons (pv 1) (pa_cons (pv 2) pa_nil))) pe_int) pe_int (nomark _)) (pss_one (ps_set (i := 3) sc_w_clause_by.nd rfl (Or.inl rfl) (pe_cgK K rfl G_w_state_by (hr.mono (by decide)) (T.glo 40) (pa_cons (pv 0) (pa_cons (pe_cgK K rfl G_w_mix (hr.mono (by decide)) (T.glo 38) (pa_cons (pv 1) (pa_cons (pe_op op_add (pv 2) pe_int) pa_nil))) pa_nil))))) pss_nil)
      (pss_cons (ps_set (i := 4) sc_w_clause_by.nd rfl (Or.inl rfl) (pe_lst pa_nil))
      (pss_cons (ps_set (i := 5) sc_w_clause_by.nd rfl (Or.inl rfl) (pe_cgK K rfl G_w_mix (hr.mono (by decide)) (T.glo 38) (pa_cons (pv 1) (pa_cons (pe_op op_add (pv 2) pe_int) pa_nil))))
      (pss_cons (ps_set (i := 6) sc_w_clause_by.nd rfl (Or.inl rfl) (pe_op op_mod (pv 5) pe_int))
      (pss_cons (ps_if (pt_cmpR op_eq (pe_op op_mod (pe_op op_fdivW (pv 5) pe_int) pe_int) pe_int (nomark _)) (pss_one (ps_set (i := 6) sc_w_clause_by.nd rfl (Or.inl rfl) (pe_op op_add pe_int (pe_op op_mod (pe_op op_fdivW (pv 5) pe_int) pe_int)))) pss_nil)
      (pss_cons (ps_for PassesOwn.never rfl (pi_range1 (by rfl) (T.free 39) (pa_cons (pv 6) pa_nil)) (pg_name (i := 7) sc_w_clause_by.nd rfl (Or.inl rfl)) (pss_one (ps_expr (pe_bm PySem.F.plainAttrs_list PySem.F.slot_list_append PySem.F.type_list_append mt_append (pv 4) (pa_cons (pe_cgK K rfl G_w_condition_by (hr.mono (by decide)) (T.glo 41) (pa_cons (pv 0) (pa_cons (pv 1) (pa_cons (pe_op op_add (pv 2) (pe_op op_mulW pe_int (pe_op op_add (pv 7) pe_int))) pa_nil)))) pa_nil)))))
      (pss_one (ps_ret (pe_tup (pa_cons (pv 3) (pa_cons (pv 4) (pa_cons (pe_cgK K rfl G_w_state_by (hr.mono (by decide)) (T.glo 40) (pa_cons (pv 0) (pa_cons (pe_cgK K rfl G_w_mix (hr.mono (by decide)) (T.glo 38) (pa_cons (pv 1) (pa_cons (pe_op op_add (pv 2) pe_int) pa_nil))) pa_nil))) pa_nil))))))))))))), ?_⟩
    walk_at "rhi"
    refine rd_cut (fun σ Hq => Hq = H ∧ ∃ tk : Int, 0 ≤ tk ∧ tk ≤ 8 ∧ σ = [some (.ref t), some (.int sd), some (.int j), some (.int tk), none, none, none, none]) (by walk_at "mono") ?_ ?_
    · walk_at "rd"
      refine ⟨sd, j, rfl, h0, by omega, fun z0 _ _ => ?_⟩
      walk_at "rd"
      refine ite_d (fun hc => ?_) (fun hc => ?_)
      · walk_at "rd"
        refine ⟨sd, j + 1, rfl, by omega, by omega, fun z1 _ _ => ?_⟩
        walk_at "rd"
        refine ⟨t, a, b, z1, rfl, ht, ha, hb, fun s hs => ?_⟩
        walk_at "rd"
        exact ⟨rfl, s, hs.1, by have := hs.2; omega, rfl⟩
      · walk_at "rd"
        exact ⟨rfl, 8, by decide, by decide, rfl⟩
    rintro σ H1 ⟨rfl, tk, tk0, tk8, rfl⟩
    walk_at "rd"
    refine rd_new (hn := by show 0 ≤ sizeLine; decide) fun l hl => ?_
    have s0 := same_upd (o := .lst []) hl
    have L0 : (upd H1 l (.lst [])) l = some (.lst []) := upd_same
    generalize upd H1 l (.lst []) = H2 at s0 L0 ⊢
    walk_at "rd"
    refine ⟨sd, j + 2, rfl, by omega, by omega, fun v v0 v1 => ?_⟩
    walk_at "rhi"
    refine rd_cut (fun σ Hq => Hq = H2 ∧ ∃ mn : Nat, mn ≤ 8 ∧ σ = [some (.ref t), some (.int sd), some (.int j), some (.int tk), some (.ref l), some (.int v), some (.int (mn : Int)), none]) (by walk_at "mono") ?_ ?_
    · walk_at "rd"
      refine ite_d (fun hc => ?_) (fun hc => ?_)
      · walk_at "rd"
        obtain ⟨m, hm⟩ := nat_of (show 0 ≤ 4 + v / 24 % 5 by omega)
        exact ⟨rfl, m, by omega, by rw [← hm]; rfl⟩
      · walk_at "rd"
        obtain ⟨m, hm⟩ := nat_of (show 0 ≤ v % 4 by omega)
        exact ⟨rfl, m, by omega, by rw [← hm]; rfl⟩
    rintro σ H3 ⟨rfl, mn, mn8, rfl⟩
    walk_at "rd"
    refine ⟨(mn : Int), rfl, by omega, by omega, ?_⟩
    rw [Int.toNat_natCast]
    refine for_it (walk_r0 (n := mn)) (fun i σ Hq => Same H1 Hq ∧ ∃ (us : List V) (cs : List Cond) (x7 : Option V), σ = [some (.ref t), some (.int sd), some (.int j), some (.int tk), some (.ref l), some (.int v), some (.int (mn : Int)), x7] ∧ Hq l = some (.lst us) ∧ AllV (LCondN (fun b => b ≠ l ∧ H1 b = none) Hq) us cs ∧ cs.length = i ∧ ∀ c ∈ cs, CondW c)
      ⟨s0, [], [], none, rfl, L0, trivial, rfl, by simp⟩ (fun _ _ _ _ _ => trivial) ?_ ?_
    · rintro i x σ Ha Hb hi ⟨s1, us, cs, x7, rfl, hus, hall, hcl, hcw⟩ ⟨rfl, rfl⟩
      walk_at "rd"
      refine rd_tyL hus ?_
      walk_at "rd"
      refine rd_I (mid_mul (by decide) (by decide) (by omega) (by omega)) ?_
      walk_at "rd"
      refine ⟨t, a, b, sd, j + 20 * ((i : Int) + 1), rfl, s1 _ _ ht, ha, hb, by omega, by omega, fun H4 u c s4 hc hw => ?_⟩
      have hus4 := s4 _ _ hus
      walk_at "rd"
      refine rd_append hus4 (by rw [hall.len]; exact small1000 (by omega)) ?_
      walk_at "rd"
      have hc' : LCondN (fun b => b ≠ l ∧ H1 b = none) H4 u c := hc.imp fun b hb => ⟨fun z => (by rw [z, hus] at hb; cases hb), none_of s1 hb⟩
      refine ⟨Same.put2 (s1.trans s4) (none_of (Same.refl _) hl), us ++ [u], cs ++ [c], _, rfl, upd_same, ((hall.imp fun _ _ h => h.same s4).app hc').imp fun _ _ h => h.upd hus4 fun b hb => hb.1, by rw [List.length_append, hcl]; rfl, fun c' hm => ?_⟩
      rcases List.mem_append.mp hm with hm | hm
      · exact hcw c' hm
      · rw [List.mem_singleton] at hm; subst hm; exact hw
    · rintro σ H4 ⟨s1, us, cs, x7, rfl, hus, hall, hcl, hcw⟩
      walk_at "rd"
      refine ⟨sd, j + 3, rfl, by omega, by omega, fun z1 _ _ => ?_⟩
      walk_at "rd"
      refine ⟨t, a, b, z1, rfl, s1 _ _ ht, ha, hb, fun s hs => ?_⟩
      walk_at "rd"
      refine rd_new (hn := by show 3 ≤ sizeLine; decide) fun t2 ht2 => ?_
      have s2 := same_upd (o := .tup [V.int tk, V.ref l, V.int s]) ht2
      refine k _ _ ⟨wishOf tk, cs, s⟩ (s1.trans s2) ⟨t2, l, us, rfl, by rw [takenN_wish]; exact upd_same, s2 _ _ hus, hl, (hall.imp fun _ _ h => (h.same s2).imp fun b hb => hb.2)⟩ ⟨wishW_of tk0 tk8, hcw, hs⟩ (by show cs.length ≤ 8; omega)
end
end JF

/-! ### drawn clauses: what is due by them -/
namespace JF
open PySem PySem.Spec PyProof.Rows L2
section
variable {P : Program} {w : World} {K : PySem.W.Frag} {mg : Str → Option Value} {base : Heap}
def sp_holds : Sp := fun vs H Q _ => ∃ (v : V) (r : Addr) (c : Cond) (xs : List Int), vs = [v, .ref r] ∧ LCond H v c ∧ CondOk c ∧ H r = some (.lst (xs.map V.int)) ∧ xs.length = 8 ∧ Q (.bl (c.holds xs)) H
theorem mp_holds : MonP sp_holds := fun vs H Q Q' E h ⟨v, r, c, xs, x1, x2, x3, x4, x5, q⟩ => ⟨v, r, c, xs, x1, x2, x3, x4, x5, h _ _ q⟩
theorem ok_holds (T : Env fa fn K mg) : Good P w K mg base CX0 1 ("_law_holds", none) ["_law_condition", "_law_around"] sp_holds := by
  refine good_mk T 32 (d := d_w_holds) (N := ["_law_condition", "_law_around", "_law_k", "_law_many", "_law_state"]) (ps := ["_law_condition", "_law_around"]) rfl rfl sc_w_holds (fun _ _ _ _ _ _ us hl => match us, hl with | [_, _], _ => rfl) (fun vs H Q E h => ?_) (fun f cdv A outer σ0 H vs Q E hr h => ?_)
  · obtain ⟨v, r, c, xs, rfl, _⟩ := h; rfl
  · obtain ⟨v, r, c, xs, rfl, hc, hok, hr', hx, k⟩ := h
    refine ⟨_, (pss_cons (ps_if (pt_cmpR op_eq (pe_ix (ix_tupK K rfl) (pv 0) pe_int (fun _ _ => rfl)) pe_str (nomark _)) (pss_cons (ps_for PassesOwn.never rfl (pi_range1 (by rfl) (T.free 39) (pa_cons pe_int pa_nil)) (pg_name (i := 2) sc_w_holds.nd rfl (Or.inl rfl)) (pss_one (ps_if (PW.pt (pw_and (pt_cmpR op_ne (pe_ix (ix_listK K rfl) (pe_ix (ix_tupK K rfl) (pv 0) pe_int (fun _ _ => rfl)) (pv 2) (fun _ _ => rfl)) pe_int (nomark _)) (pw_and1 (pt_cmpR op_ne (pe_ix (ix_listK K rfl) (pe_ix (ix_tupK K rfl) (pv 0) pe_int (fun _ _ => rfl)) (pv 2) (fun _ _ => rfl)) (pe_ix (ix_listK K rfl) (pv 1) (pv 2) (fun _ _ => rfl)) (nomark _))))) (pss_one (ps_ret pe_bl)) pss_nil)))
      (pss_one (ps_ret pe_bl))) pss_nil)
      (pss_cons (ps_set (i := 3) sc_w_holds.nd rfl (Or.inl rfl) pe_int)
      (pss_cons (ps_for PassesOwn.never rfl (pi_listK K rfl (pv 1)) (pg_name (i := 4) sc_w_holds.nd rfl (Or.inl rfl)) (pss_one (ps_if (pt_cmpR op_eq (pv 4) (pe_ix (ix_tupK K rfl) (pv 0) pe_int (fun _ _ => rfl)) (nomark _)) (pss_one (ps_set (i := 3) sc_w_holds.nd rfl (Or.inl rfl) (pe_op op_add (pv 3) pe_int))) pss_nil)))
      (pss_one (ps_ret (pe_cmpR (op_inK K rfl) (pv 3) (pe_ix (ix_tupK K rfl) (pv 0) pe_int (fun _ _ => rfl)) (by first | exact nomark _ | rfl))))))), ?_⟩
    cases c with
    | amt s ns =>
      obtain ⟨t, l, rfl, ht, hl⟩ := hc
      walk_at "rd"
      refine iteF ?_
      walk_at "rd"
      refine ⟨r, rfl, ⟨_, SqL.of hr'⟩, ?_⟩
      refine for_it (walk_list (xs := xs.map V.int)) (fun i σ H' => H' = H ∧ ∃ x2 x4 : Option V, σ = [some (.ref t), some (.ref r), x2, some (.int ((xs.take i).count s : Nat)), x4]) ⟨rfl, none, none, rfl⟩ ?_ ?_ ?_
      · rintro i σ H' _ ⟨rfl, _⟩
        exact SqL.of hr'
      · rintro i x σ Ha Hb hi ⟨rfl, x2, x4, rfl⟩ ⟨rfl, hx'⟩
        obtain ⟨c, hcc, rfl⟩ : ∃ c, xs[i]? = some c ∧ x = .int c := by
          rw [List.getElem?_map] at hx'
          cases e : xs[i]? with
          | none => rw [e] at hx'; cases hx'
          | some c => rw [e] at hx'; exact ⟨c, rfl, (Option.some.inj hx').symm⟩
        have et := take_snoc hcc
        walk_at "rd"
        refine ite_d (fun h => ?_) (fun h => ?_)
        · walk_at "rd"
          refine ⟨rfl, x2, some (.int c), ?_⟩
          rw [et, List.count_append, List.count_singleton]
          simp [h]
        · walk_at "rd"
          refine ⟨rfl, x2, some (.int c), ?_⟩
          rw [et, List.count_append, List.count_singleton]
          simp [h]
      · rintro σ H' ⟨rfl, x2, x4, rfl⟩
        rw [List.length_map, List.take_length]
        walk_at "rd"
        exact rd_inI (SqL.of hl) k
    | plc ws =>
      obtain ⟨t, l, wv, rfl, ht, hl, rfl, hwb⟩ := hc
      have hw8 : wv.length = 8 := by have z : (wv.map wishOf).length = 8 := hok; rwa [List.length_map] at z
      walk_at "rd"
      refine iteT ?_
      walk_at "rd"
      refine ⟨8, rfl, by decide, by decide, ?_⟩
      refine for_it (walk_r0 (n := 8)) (fun i σ H' => H' = H ∧ (∀ (j : Nat) w x, j < i → (wv.map wishOf)[j]? = some w → xs[j]? = some x → wishOk w x = true) ∧ ∃ x2 : Option V, σ = [some (.ref t), some (.ref r), x2, none, none]) ⟨rfl, fun j w x h => by omega, none, rfl⟩ (fun _ _ _ _ _ => trivial) ?_ ?_
      · rintro i x σ Ha Hb hi ⟨rfl, hall, x2, rfl⟩ ⟨rfl, rfl⟩
        have hi1 : i < wv.length := by omega
        have hi2 : i < xs.length := by omega
        have a1 : atI (wv.map V.int) ((i : Nat) : Int) = some (.int wv[i]) := atI_nat (map_get V.int (at_get hi1))
        have a2 : atI (xs.map V.int) ((i : Nat) : Int) = some (.int xs[i]) := atI_nat (map_get V.int (at_get hi2))
        have wi : (wv.map wishOf)[i]? = some (wishOf wv[i]) := map_get wishOf (at_get hi1)
        have next : wishOk (wishOf wv[i]) xs[i] = true → ∀ (j : Nat) w x, j < i + 1 → (wv.map wishOf)[j]? = some w → xs[j]? = some x → wishOk w x = true := fun hk j w x hj h1 h2 => by
          rcases Nat.lt_or_ge j i with h | h
          · exact hall j w x h h1 h2
          · have e : j = i := by omega
            subst e
            rw [wi] at h1; rw [at_get hi2] at h2
            cases h1; cases h2
            exact hk
        walk_at "rd"
        refine rd_ixL (SqL.of hl) a1 ?_
        walk_at "rd"
        refine ite_nd (fun h8 => ?_) (fun h8 => ?_)
        · walk_at "rd"
          refine rd_ixL (SqL.of hl) a1 ?_
          walk_at "rd"
          refine rd_ixL (SqL.of hr') a2 ?_
          walk_at "rd"
          have ew : wishOf wv[i] = some wv[i] := by unfold wishOf; rw [if_neg h8]
          refine ite_nd (fun hne => ?_) (fun he => ?_)
          · walk_at "rd"
            have e : (Cond.plc (wv.map wishOf)).holds xs = false := plcOk_split _ xs i _ _ wi (at_get hi2) (by rw [ew]; exact decide_eq_false hne)
            rw [e] at k
            exact k
          · walk_at "rd"
            exact ⟨rfl, next (by rw [ew]; exact decide_eq_true he), _, rfl⟩
        · walk_at "rd"
          have ew : wishOf wv[i] = none := by unfold wishOf; rw [if_pos h8]
          exact ⟨rfl, next (by rw [ew]; rfl), _, rfl⟩
      · rintro σ H' ⟨rfl, hall, x2, rfl⟩
        walk_at "rd"
        have e : (Cond.plc (wv.map wishOf)).holds xs = true := plcOk_all _ xs fun i w x h1 h2 => hall i w x (by have := (List.getElem?_eq_some_iff.mp h2).1; omega) h1 h2
        rw [e] at k
        exact k
def ClasW (cs : List Cla) : Prop := ∀ c ∈ cs, ClaW c
def sp_decides : Sp := fun vs H Q _ => ∃ (p r : Addr) (us : List V) (cs : List Cla) (cell : Int) (xs : List Int), vs = [.ref p, .int cell, .ref r] ∧ H p = some (.lst us) ∧ AllV (LCla H) us cs ∧ ClasW cs ∧ cs.length ≤ 1000 ∧ H r = some (.lst (xs.map V.int)) ∧ xs.length = 8 ∧ ∀ H', Same H H' → Q (optN (firstFit cell xs cs)) H'
theorem mp_decides : MonP sp_decides := fun vs H Q Q' E h ⟨p, r, us, cs, cell, xs, x1, x2, x3, x4, x5, x6, x7, q⟩ => ⟨p, r, us, cs, cell, xs, x1, x2, x3, x4, x5, x6, x7, fun H' s => h _ _ (q H' s)⟩
theorem taken_in {t : Option Int} (h : WishW t) (cell : Int) : decide (takenN t ∈ [cell, 8]) = wishOk t cell := by
  cases t with
  | none =>
    show decide ((8 : Int) ∈ [cell, 8]) = true
    exact decide_eq_true (by simp)
  | some s =>
    have z : St s := h
    unfold St at z
    show decide (s ∈ [cell, 8]) = decide (s = cell)
    by_cases e : s = cell
    · rw [decide_eq_true e, decide_eq_true (by simp [e])]
    · rw [decide_eq_false e, decide_eq_false (by simp [e]; omega)]
set_option maxHeartbeats 8000000 in
theorem ok_decides (T : Env fa fn K mg) : Good P w K mg base CX0 2 ("_law_decides", none) ["_law_clauses", "_law_cell", "_law_around"] sp_decides := by
  have G_w_holds := ok_holds (P := P) (w := w) (base := base) T
  refine good_mk T 33 (d := d_w_decides) (N := ["_law_clauses", "_law_cell", "_law_around", "_law_at_here", "_law_fits", "_law_condition"]) (ps := ["_law_clauses", "_law_cell", "_law_around"]) rfl rfl sc_w_decides (fun _ _ _ _ _ _ us hl => match us, hl with | [_, _, _], _ => rfl) (fun vs H Q E h => ?_) (fun f cdv A outer σ0 H vs Q E hr h => ?_)
  · obtain ⟨p, r, us, cs, cell, xs, rfl, _⟩ := h; rfl
  · obtain ⟨p, r, us, cs, cell, xs, rfl, hp, hall, hw, hcl, hr', hx, k⟩ := h
    have hlen := hall.len
    refine ⟨_, (pss_cons (ps_for PassesOwn.never rfl (pi_range1 (by rfl) (T.free 39) (pa_cons (pe_callB (call_lenK K rfl) (by rfl) (T.free 20) (by decide +kernel) (pa_cons (pv 0) pa_nil)) pa_nil)) (pg_name (i := 3) sc_w_decides.nd rfl (Or.inl rfl)) (pss_cons (ps_set (i := 4) sc_w_decides.nd rfl (Or.inl rfl) (pe_cmpR (op_inK K rfl) (pe_ix (ix_tupK K rfl) (pe_ix (ix_listK K rfl) (pv 0) (pv 3) (fun _ _ => rfl)) pe_int (fun _ _ => rfl)) (pe_lst (pa_cons (pv 1) (pa_cons pe_int pa_nil))) (by first | exact nomark _ | rfl)))
      (pss_cons (ps_for PassesOwn.never rfl (pi_listK K rfl (pe_ix (ix_tupK K rfl) (pe_ix (ix_listK K rfl) (pv 0) (pv 3) (fun _ _ => rfl)) pe_int (fun _ _ => rfl))) (pg_name (i := 5) sc_w_decides.nd rfl (Or.inl rfl)) (pss_one (ps_set (i := 4) sc_w_decides.nd rfl (Or.inl rfl) (pe_and (pv 4) (pe_one (pe_cgK K rfl G_w_holds (hr.mono (by decide)) (T.glo 42) (pa_cons (pv 5) (pa_cons (pv 2) pa_nil))))))))
      (pss_one (ps_if (pt_val (pv 4)) (pss_one (ps_ret (pv 3))) pss_nil)))))
      (pss_one (ps_ret pe_non))), ?_⟩
    walk_at "rd"
    refine rd_len (SqL.of hp) ?_
    walk_at "rd"
    refine ⟨(us.length : Int), rfl, by omega, by omega, ?_⟩
    rw [Int.toNat_natCast]
    refine for_it (walk_r0 (n := us.length)) (fun i σ H' => Same H H' ∧ (∀ (j : Nat) d, j < i → cs[j]? = some d → d.fits cell xs = false) ∧ ∃ x3 x4 x5 : Option V, σ = [some (.ref p), some (.int cell), some (.ref r), x3, x4, x5]) ⟨Same.refl _, fun j d h => by omega, none, none, none, rfl⟩ (fun _ _ _ _ _ => trivial) ?_ ?_
    · rintro i x σ Ha Hb hi ⟨s1, hno, x3, x4, x5, rfl⟩ ⟨rfl, rfl⟩
      have hic : i < cs.length := by omega
      obtain ⟨v, hv, hat⟩ := hall.at (at_get hic)
      have hcw := hw _ (List.getElem_mem hic)
      have hget := at_get hic
      generalize cs[i] = c at hat hcw hget
      obtain ⟨t, l, ps, rfl, ht, hl, hcs⟩ := hat.same s1
      have av : atI us ((i : Nat) : Int) = some (.ref t) := atI_nat hv
      walk_at "rd"
      refine rd_ixL (SqL.of (s1 _ _ hp)) av ?_
      walk_at "rd"
      refine rd_new (hn := by show 2 ≤ sizeLine; decide) fun p2 hp2 => ?_
      have s2 := same_upd (o := .lst [V.int cell, V.int 8]) hp2
      refine rd_inI (ns := [cell, 8]) (SqL.of upd_same) ?_
      rw [taken_in hcw.1]
      have s12 := s1.trans s2
      have ht2 := s2 _ _ ht
      have hl2 := s2 _ _ hl
      have hcs2 := hcs.imp fun _ _ h => LCond.same h s2
      have hp2' := s12 _ _ hp
      have hr2 := s12 _ _ hr'
      generalize upd Hb p2 (.lst [V.int cell, V.int 8]) = H2 at s2 s12 ht2 hl2 hcs2 hp2' hr2 ⊢
      walk_at "rh"
      refine rd_cut (fun σ Hq => Hq = H2 ∧ ∃ x5 : Option V, σ = [some (.ref p), some (.int cell), some (.ref r), some (.int (i : Nat)), some (.bl (c.fits cell xs)), x5]) (by
        have m1 := mp_holds
        walk_at "mono") ?_ ?_
      · walk_at "rd"
        refine rd_ixL (SqL.of hp2') av ?_
        walk_at "rd"
        refine ⟨l, rfl, ⟨_, SqL.of hl2⟩, ?_⟩
        refine for_it (walk_list (xs := ps)) (fun m σ Hq => Hq = H2 ∧ ∃ x5 : Option V, σ = [some (.ref p), some (.int cell), some (.ref r), some (.int (i : Nat)), some (.bl (wishOk c.taken cell && (c.conds.take m).all fun k => k.holds xs)), x5]) ?_ ?_ ?_ ?_
        · exact ⟨rfl, x5, by simp⟩
        · rintro m σ H' _ ⟨rfl, _⟩
          exact SqL.of hl2
        · rintro m y σ Hc Hd hm ⟨rfl, x5, rfl⟩ ⟨rfl, hy⟩
          obtain ⟨kc, hk, hlc⟩ := hcs2.get hy
          have hkw := (hcw.2.1 kc (List.mem_of_getElem? hk)).ok
          have et : (c.conds.take (m + 1)).all (fun k => k.holds xs) = ((c.conds.take m).all (fun k => k.holds xs) && kc.holds xs) := by
            rw [take_snoc hk, List.all_append]; simp
          walk_at "rd"
          refine ite_b (fun hb => ?_) (fun hb => ?_)
          · walk_at "rd"
            refine ⟨y, r, kc, xs, rfl, hlc, hkw, hr2, hx, ?_⟩
            walk_at "rd"
            refine ⟨rfl, some y, ?_⟩
            rw [et, ← Bool.and_assoc, hb, Bool.true_and]; rfl
          · walk_at "rd"
            refine ⟨rfl, some y, ?_⟩
            rw [et, ← Bool.and_assoc, hb, Bool.false_and]; rfl
        · rintro σ Hq ⟨rfl, x5, rfl⟩
          rw [hcs2.len, List.take_length]
          exact ⟨rfl, x5, rfl⟩
      rintro σ Hq ⟨rfl, x5, rfl⟩
      walk_at "rd"
      refine ite_b (fun hb => ?_) (fun hb => ?_)
      · walk_at "rd"
        have e : firstFit cell xs cs = some i := fit_at hno hget hb
        rw [e] at k
        exact k _ s12
      · walk_at "rd"
        refine ⟨s12, fun j d hj h1 => ?_, _, _, _, rfl⟩
        rcases Nat.lt_or_ge j i with h | h
        · exact hno j d h h1
        · have e : j = i := by omega
          subst e
          rw [hget] at h1
          cases h1
          exact hb
    · rintro σ H' ⟨s1, hno, x3, x4, x5, rfl⟩
      walk_at "rd"
      have e : firstFit cell xs cs = none := fit_none fun j d h1 => hno j d (by rw [hlen]; exact (List.getElem?_eq_some_iff.mp h1).1) h1
      rw [e] at k
      exact k _ s1
def sp_lbecomes : Sp := fun vs H Q _ => ∃ (p r : Addr) (us : List V) (cs : List Cla) (cell : Int) (xs : List Int), vs = [.ref p, .int cell, .ref r] ∧ H p = some (.lst us) ∧ AllV (LCla H) us cs ∧ ClasW cs ∧ cs.length ≤ 1000 ∧ H r = some (.lst (xs.map V.int)) ∧ xs.length = 8 ∧ ∀ H', Same H H' → Q (.int (ruleMakes cs cell xs)) H'
theorem mp_lbecomes : MonP sp_lbecomes := fun vs H Q Q' E h ⟨p, r, us, cs, cell, xs, x1, x2, x3, x4, x5, x6, x7, q⟩ => ⟨p, r, us, cs, cell, xs, x1, x2, x3, x4, x5, x6, x7, fun H' s => h _ _ (q H' s)⟩
theorem ok_lbecomes (T : Env fa fn K mg) : Good P w K mg base CX0 3 ("_law_becomes", none) ["_law_clauses", "_law_cell", "_law_around"] sp_lbecomes := by
  have G_w_decides := ok_decides (P := P) (w := w) (base := base) T
  refine good_mk T 34 (d := d_w_becomes) (N := ["_law_clauses", "_law_cell", "_law_around", "_law_at_here"]) (ps := ["_law_clauses", "_law_cell", "_law_around"]) rfl rfl sc_w_becomes (fun _ _ _ _ _ _ us hl => match us, hl with | [_, _, _], _ => rfl) (fun vs H Q E h => ?_) (fun f cdv A outer σ0 H vs Q E hr h => ?_)
  · obtain ⟨p, r, us, cs, cell, xs, rfl, _⟩ := h; rfl
  · obtain ⟨p, r, us, cs, cell, xs, rfl, hp, hall, hw, hcl, hr', hx, k⟩ := h
    refine ⟨_, (pss_cons (ps_set (i := 3) sc_w_becomes.nd rfl (Or.inl rfl) (pe_cgK K rfl G_w_decides (hr.mono (by decide)) (T.glo 43) (pa_cons (pv 0) (pa_cons (pv 1) (pa_cons (pv 2) pa_nil)))))
      (pss_cons (ps_if (pt_cmpR op_isN (pv 3) pe_non (nomark _)) (pss_one (ps_ret (pv 1))) pss_nil)
      (pss_one (ps_ret (pe_ix (ix_tupK K rfl) (pe_ix (ix_listK K rfl) (pv 0) (pv 3) (fun _ _ => rfl)) pe_int (fun _ _ => rfl)))))), ?_⟩
    walk_at "rd"
    refine ⟨p, r, us, cs, cell, xs, rfl, hp, hall, hw, hcl, hr', hx, fun H2 s2 => ?_⟩
    cases e : firstFit cell xs cs with
    | none =>
      have em : ruleMakes cs cell xs = cell := by unfold ruleMakes; rw [e]
      rw [em] at k
      walk_at "rd"
      refine iteT ?_
      walk_at "rd"
      exact k _ s2
    | some i =>
      obtain ⟨c, hcc, _⟩ := fit_lt e
      have em : ruleMakes cs cell xs = c.made := by
        unfold ruleMakes
        rw [e]
        show (cs[i]?.map Cla.made).getD cell = c.made
        rw [hcc]; rfl
      rw [em] at k
      obtain ⟨v, hv, hat⟩ := hall.at hcc
      obtain ⟨t, l, ps, rfl, ht, _⟩ := hat.same s2
      walk_at "rd"
      refine iteF ?_
      walk_at "rd"
      refine rd_ixL (SqL.of (s2 _ _ hp)) (atI_nat hv) ?_
      walk_at "rd"
      exact k _ s2
end
end JF

/-! ### drawn clauses: their text -/
namespace JF
open PySem PySem.Spec PyProof.Rows L2
theorem joinL_le {S : List Nat} {B : Nat} : ∀ {ws : List (List Nat)}, (∀ w ∈ ws, w.length ≤ B) → (TL.joinL S ws).length ≤ ws.length * (B + S.length)
  | [], _ => Nat.zero_le _
  | [x], h => by
    have := h x List.mem_cons_self
    show x.length ≤ 1 * (B + S.length)
    omega
  | x :: y :: ws, h => by
    have ih := joinL_le (S := S) (ws := y :: ws) fun w hw => h w (List.mem_cons_of_mem _ hw)
    have hx := h x List.mem_cons_self
    have e : TL.joinL S (x :: y :: ws) = x ++ (S ++ TL.joinL S (y :: ws)) := rfl
    rw [e, List.length_append, List.length_append, List.length_cons, Nat.succ_mul]
    omega
theorem inc_len {b : Nat} : ∀ {ns : List Int} {a : Nat}, ns.Pairwise (· < ·) → (∀ n ∈ ns, (a : Int) ≤ n ∧ n < (b : Int)) → ns.length ≤ b - a
  | [], _, _, _ => Nat.zero_le _
  | n :: ns, a, hp, hb => by
    rw [List.pairwise_cons] at hp
    have h1 := hb n List.mem_cons_self
    obtain ⟨m, hm⟩ := nat_of (show 0 ≤ n by omega)
    have ih := inc_len (a := m + 1) hp.2 fun k hk => ⟨by have := hp.1 k hk; omega, (hb k (List.mem_cons_of_mem _ hk)).2⟩
    rw [List.length_cons]
    omega
theorem amt_len {ns : List Int} (h : ∀ n ∈ ns, 0 ≤ n ∧ n ≤ 8) (hp : ns.Pairwise (· < ·)) : ns.length ≤ 9 := inc_len (a := 0) (b := 9) hp fun n hn => by have := h n hn; omega
theorem condT_len {c : Cond} (h : CondW c) : (condT c).length ≤ 11 := by
  cases c with
  | amt s ns =>
    have := amt_len h.2.2.1 h.2.2.2
    show ((48 + s.toNat) :: 61 :: ns.map fun n => 48 + n.toNat).length ≤ 11
    simp only [List.length_cons, List.length_map]
    omega
  | plc ws =>
    have z : ws.length = 8 := h.1
    show (ws.map wishT).length ≤ 11
    rw [List.length_map]; omega
theorem claT_len {c : Cla} (h : ClaW c) (h8 : c.conds.length ≤ 8) : (claT c).length ≤ 120 := by
  have h1 : (claW c).length ≤ 10 := by
    show ([wishT c.taken] :: (c.conds.map condT ++ [[48 + c.made.toNat]])).length ≤ 10
    simp only [List.length_cons, List.length_append, List.length_map, List.length_nil]
    omega
  have h2 := joinL_le (S := [32]) (B := 11) (ws := claW c) fun w hw => by
    rcases List.mem_cons.mp hw with rfl | hw
    · simp
    · rcases List.mem_append.mp hw with hw | hw
      · obtain ⟨k, hk, rfl⟩ := List.mem_map.mp hw
        exact condT_len (h.2.1 k hk)
      · rw [List.mem_singleton] at hw; subst hw; simp
  have e : ([32] : List Nat).length = 1 := rfl
  rw [e] at h2
  show (TL.joinL [32] (claW c)).length ≤ 120
  omega
theorem ruleT_len {cs : List Cla} (h : ∀ c ∈ cs, ClaW c ∧ c.conds.length ≤ 8) : (ruleT cs).length ≤ cs.length * 122 := by
  have h2 := joinL_le (S := [59, 32]) (B := 120) (ws := cs.map claT) fun w hw => by
    obtain ⟨c, hc, rfl⟩ := List.mem_map.mp hw
    exact claT_len (h c hc).1 (h c hc).2
  rw [List.length_map] at h2
  exact h2
theorem rule_w {cs : List Cla} (h : ∀ c ∈ cs, ClaW c ∧ c.conds.length ≤ 8) (hl : cs.length ≤ 1000) (hz : ruleMakes cs 0 eights = 0) : RuleW cs := by
  refine ⟨fun c hc => (h c hc).1, fun c hc => ⟨by have := claT_len (h c hc).1 (h c hc).2; omega, by have := (h c hc).2; omega⟩, hl, ?_, hz⟩
  have := ruleT_len h
  omega
theorem join_ones : ∀ ws : List Nat, TL.joinL [] (ws.map fun c => [c]) = ws
  | [] => rfl
  | [n] => rfl
  | n :: m :: ns => by
    show [n] ++ ([] ++ TL.joinL [] ((m :: ns).map fun c => [c])) = _
    rw [join_ones (m :: ns)]; rfl
theorem sum_ones : ∀ ws : List Nat, (ws.map fun c => ([c] : List Nat).length).sum = ws.length
  | [] => rfl
  | n :: ns => by
    have ih := sum_ones ns
    show ([n] : List Nat).length + (ns.map fun c => ([c] : List Nat).length).sum = ns.length + 1
    rw [ih]
    show 1 + ns.length = _
    omega
theorem sum_le {B : Nat} : ∀ {ls : List Nat}, (∀ l ∈ ls, l ≤ B) → ls.sum ≤ ls.length * B
  | [], _ => Nat.zero_le _
  | l :: ls, h => by
    have ih := sum_le fun x hx => h x (List.mem_cons_of_mem _ hx)
    have := h l List.mem_cons_self
    rw [List.sum_cons, List.length_cons, Nat.succ_mul]
    omega
theorem wish_sign {w : Int} (h0 : 0 ≤ w) (h8 : w ≤ 8) : (if w.toNat = 8 then 42 else 48 + w.toNat) = wishT (wishOf w) := by
  unfold wishOf
  by_cases z : w = 8
  · rw [if_pos z, if_pos (by omega)]; rfl
  · rw [if_neg z, if_neg (by omega)]; rfl
theorem sign_at {w : Int} (h0 : 0 ≤ w) (h8 : w ≤ 8) : atI (Str.ofString "01234567*").cps.toList w = some (wishT (wishOf w)) := by
  obtain ⟨d, rfl⟩ := nat_of h0
  rw [← wish_sign h0 h8, Int.toNat_natCast]
  exact atI_nat (take_sign (by omega))
theorem str_tx {l : List Nat} {z : Str} (h : TL.tl z = l) : z = tx l := TL.ext_tl h
section
variable {P : Program} {w : World} {K : PySem.W.Frag} {mg : Str → Option Value} {base : Heap}
def sp_word : Sp := fun vs H Q _ => ∃ (v : V) (c : Cond), vs = [v] ∧ LCond H v c ∧ CondW c ∧ ∀ H', Same H H' → Q (.str (tx (condT c))) H'
theorem mp_word : MonP sp_word := fun vs H Q Q' E h ⟨v, c, x1, x2, x3, q⟩ => ⟨v, c, x1, x2, x3, fun H' s => h _ _ (q H' s)⟩
theorem ok_word (T : Env fa fn K mg) : Good P w K mg base CX0 1 ("_law_word", none) ["_law_condition"] sp_word := by
  refine good_mk T 36 (d := d_w_word) (N := ["_law_condition", "_law_state", "_law_k"]) (ps := ["_law_condition"]) rfl rfl sc_w_word (fun _ _ _ _ _ _ us hl => match us, hl with | [_], _ => rfl) (fun vs H Q E h => ?_) (fun f cdv A outer σ0 H vs Q E hr h => ?_)
  · obtain ⟨v, c, rfl, _⟩ := h; rfl
  · obtain ⟨v, c, rfl, hc, hcw, k⟩ := h
    have hsz := sizeBig
    refine ⟨_, (pss_cons (ps_if (pt_cmpR op_eq (pe_ix (ix_tupK K rfl) (pv 0) pe_int (fun _ _ => rfl)) pe_str (nomark _)) (pss_one (ps_ret (pe_join pe_str (pe_lc (own := [("_law_state", 1)]) (tt := tYes) rfl sc_w_word.nd (pi_listK K rfl (pe_ix (ix_tupK K rfl) (pv 0) pe_int (fun _ _ => rfl))) (blkOk_by (own := [("_law_state", 1)]) (N := ["_law_condition", "_law_state", "_law_k"]) (sc := defScope st_w_word) (by decide +kernel)) (fun _ _ _ _ _ => by exact (pg_name (i := 1) sc_w_word.nd rfl (Or.inl rfl))) (fun _ _ _ _ _ => by exact pts_nil) (fun _ _ _ _ _ => by exact (pe_ix ix_str pe_str (pv 1) (fun _ _ => rfl))))))) pss_nil)
      (pss_one (ps_ret (pe_op op_add_str (pe_op op_add_str (pe_callTy call_str_int (by rfl) (T.free 0) (by decide +kernel) (pa_cons (pe_ix (ix_tupK K rfl) (pv 0) pe_int (fun _ _ => rfl)) pa_nil)) pe_str) (pe_join pe_str (pe_lc (own := [("_law_k", 2)]) (tt := tYes) rfl sc_w_word.nd (pi_listK K rfl (pe_ix (ix_tupK K rfl) (pv 0) pe_int (fun _ _ => rfl))) (blkOk_by (own := [("_law_k", 2)]) (N := ["_law_condition", "_law_state", "_law_k"]) (sc := defScope st_w_word) (by decide +kernel)) (fun _ _ _ _ _ => by exact (pg_name (i := 2) sc_w_word.nd rfl (Or.inl rfl))) (fun _ _ _ _ _ => by exact pts_nil) (fun _ _ _ _ _ => by exact (pe_callTy call_str_int (by rfl) (T.free 0) (by decide +kernel) (pa_cons (pv 2) pa_nil))))))))), ?_⟩
    cases c with
    | amt s nu =>
      obtain ⟨t, l, rfl, ht, hl⟩ := hc
      obtain ⟨hs, hne, nm, hinc⟩ := hcw
      have nlen := amt_len nm hinc
      walk_at "rd"
      refine iteF ?_
      walk_at "rd"
      refine ⟨s, rfl, log_ok (by have := hs.1; have := hs.2; omega), ?_⟩
      walk_at "rd"
      obtain ⟨sn, hsn⟩ := nat_of hs.1
      have e0 : TL.tl (Str.ofString (toString s)) = [48 + s.toNat] := by
        rw [hsn, tl_int (by have := hs.2; omega), Int.toNat_natCast]
      generalize Str.ofString (toString s) = z0 at e0 ⊢
      have eeq : TL.tl (Str.ofString "=") = [61] := by decide +kernel
      refine ⟨_, _, rfl, rfl, add_ok (by rw [e0, eeq]; simp), ?_⟩
      have e1 : TL.tl (z0 ++ Str.ofString "=") = [48 + s.toNat, 61] := by rw [TL.tl_append, e0, eeq]; rfl
      generalize z0 ++ Str.ofString "=" = z1 at e1 ⊢
      walk_at "rd"
      refine rd_m1 ?_
      walk_at "rd"
      refine rd_st ?_
      walk_at "rd"
      refine ⟨l, rfl, ⟨_, SqL.of hl⟩, fun D hD => ?_⟩
      refine lc_list (K := K) (xs := nu.map V.int) (fun i H' => H' = upd H D (.lst ((nu.take i).map fun n => V.str (Str.ofString (toString n))))) rfl (fun i H' _ e => SqL.of (by rw [e]; exact (same_upd hD) _ _ hl)) ?_ ?_
      · rintro i x H' hx rfl
        obtain ⟨c, hc, rfl⟩ : ∃ c, nu[i]? = some c ∧ x = .int c := by
          rw [List.getElem?_map] at hx
          cases e : nu[i]? with
          | none => rw [e] at hx; cases hx
          | some c => rw [e] at hx; exact ⟨c, rfl, (Option.some.inj hx).symm⟩
        have hb := nm c (List.mem_of_getElem? hc)
        have hi := (List.getElem?_eq_some_iff.mp hc).1
        walk_at "rd"
        refine ⟨rfl, ?_⟩
        walk_at "rd"
        refine ⟨c, rfl, log_ok (by omega), ?_⟩
        refine ⟨_, upd_same, ?_, ?_⟩
        · rw [List.length_map, List.length_take]; exact small1000 (by omega)
        · rw [upd_upd, take_snoc hc, List.map_append]; rfl
      rintro H3 rfl
      rw [List.length_map, List.take_length]
      have s3 := same_upd (o := .lst (nu.map fun n => V.str (Str.ofString (toString n)))) hD
      have LD : (upd H D (.lst (nu.map fun n => V.str (Str.ofString (toString n))))) D = some (.lst ((nu.map fun n => Str.ofString (toString n)).map V.str)) := by rw [upd_same, List.map_map]; rfl
      generalize upd H D (.lst (nu.map fun n => V.str (Str.ofString (toString n)))) = H3 at s3 LD ⊢
      walk_at "rd"
      have tlys : (nu.map fun n => Str.ofString (toString n)).map TL.tl = nu.map fun n => [48 + n.toNat] := by
        rw [List.map_map]
        refine List.map_congr_left fun n hn => ?_
        have hb := nm n hn
        obtain ⟨d, rfl⟩ : ∃ d : Nat, n = (d : Int) := ⟨n.toNat, by omega⟩
        show TL.tl (Str.ofString (toString (d : Int))) = _
        rw [tl_int (by omega), Int.toNat_natCast]
      have lys : ((nu.map fun n => Str.ofString (toString n)).map (·.length)).sum ≤ 9 := by
        have e : (nu.map fun n => Str.ofString (toString n)).map (·.length) = ((nu.map fun n => Str.ofString (toString n)).map TL.tl).map List.length := by
          rw [List.map_map (f := TL.tl)]
          refine List.map_congr_left fun z _ => TL.len_tl z
        rw [e, tlys, List.map_map]
        have e' := sum_len nu
        rw [e']; exact nlen
      refine ⟨_, D, _, rfl, rfl, .inl (SqL.of LD), ?_, ?_⟩
      · rw [List.length_map]
        have e : (Str.ofString "").length = 0 := by decide +kernel
        rw [e]; omega
      have ej : TL.tl (Txt.join (Str.ofString "") (nu.map fun n => Str.ofString (toString n))) = numT nu := by
        rw [TL.join_eq, TL.tl_join, tlys]
        have e : TL.tl (Str.ofString "") = [] := by decide +kernel
        rw [e]
        exact join_one nu
      generalize Txt.join (Str.ofString "") (nu.map fun n => Str.ofString (toString n)) = zj at ej ⊢
      have lnum : (numT nu).length = nu.length := List.length_map _
      walk_at "rd"
      refine ⟨_, _, rfl, rfl, add_ok (by rw [e1, ej, lnum]; simp only [List.length_cons, List.length_nil]; omega), ?_⟩
      have e4 : z1 ++ zj = tx (condT (.amt s nu)) := str_tx (by rw [TL.tl_append, e1, ej]; rfl)
      rw [e4]
      exact k _ s3
    | plc ws =>
      obtain ⟨t, l, wv, rfl, ht, hl, rfl, hwb⟩ := hc
      have hw8 : wv.length = 8 := by have z : (wv.map wishOf).length = 8 := hcw.1; rwa [List.length_map] at z
      walk_at "rd"
      refine iteT ?_
      walk_at "rd"
      refine rd_m1 ?_
      walk_at "rd"
      refine rd_st ?_
      walk_at "rd"
      refine ⟨l, rfl, ⟨_, SqL.of hl⟩, fun D hD => ?_⟩
      refine lc_list (K := K) (xs := wv.map V.int) (fun i H' => H' = upd H D (.lst ((wv.take i).map fun w => V.str (tx [wishT (wishOf w)])))) rfl (fun i H' _ e => SqL.of (by rw [e]; exact (same_upd hD) _ _ hl)) ?_ ?_
      · rintro i x H' hx rfl
        obtain ⟨c, hc, rfl⟩ : ∃ c, wv[i]? = some c ∧ x = .int c := by
          rw [List.getElem?_map] at hx
          cases e : wv[i]? with
          | none => rw [e] at hx; cases hx
          | some c => rw [e] at hx; exact ⟨c, rfl, (Option.some.inj hx).symm⟩
        have hcb := hwb c (List.mem_of_getElem? hc)
        have hi := (List.getElem?_eq_some_iff.mp hc).1
        walk_at "rd"
        refine ⟨rfl, ?_⟩
        walk_at "rd"
        refine ⟨_, c, _, rfl, rfl, by decide +kernel, sign_at hcb.1 hcb.2, ?_⟩
        refine ⟨_, upd_same, ?_, ?_⟩
        · rw [List.length_map, List.length_take]; exact small1000 (by omega)
        · rw [upd_upd, take_snoc hc, List.map_append]; rfl
      rintro H3 rfl
      rw [List.length_map, List.take_length]
      have s3 := same_upd (o := .lst (wv.map fun w => V.str (tx [wishT (wishOf w)]))) hD
      have LD : (upd H D (.lst (wv.map fun w => V.str (tx [wishT (wishOf w)])))) D = some (.lst ((wv.map fun w => tx [wishT (wishOf w)]).map V.str)) := by rw [upd_same, List.map_map]; rfl
      generalize upd H D (.lst (wv.map fun w => V.str (tx [wishT (wishOf w)]))) = H3 at s3 LD ⊢
      walk_at "rd"
      have tlys : (wv.map fun w => tx [wishT (wishOf w)]).map TL.tl = (wv.map fun w => wishT (wishOf w)).map fun c => [c] := by
        rw [List.map_map, List.map_map]; rfl
      have lys : ((wv.map fun w => tx [wishT (wishOf w)]).map (·.length)).sum ≤ 9 := by
        have e : (wv.map fun w => tx [wishT (wishOf w)]).map (·.length) = (wv.map fun w => wishT (wishOf w)).map fun c => ([c] : List Nat).length := by
          rw [List.map_map, List.map_map]; rfl
        rw [e, sum_ones, List.length_map]; omega
      refine ⟨_, D, _, rfl, rfl, .inl (SqL.of LD), ?_, ?_⟩
      · rw [List.length_map]
        have e : (Str.ofString "").length = 0 := by decide +kernel
        rw [e]; omega
      have ej : Txt.join (Str.ofString "") (wv.map fun w => tx [wishT (wishOf w)]) = tx (condT (.plc (wv.map wishOf))) := str_tx (by
        rw [TL.join_eq, TL.tl_join, tlys]
        have e : TL.tl (Str.ofString "") = [] := by decide +kernel
        rw [e, join_ones]
        show _ = (wv.map wishOf).map wishT
        rw [List.map_map]; rfl)
      rw [ej]
      exact k _ s3
end
end JF

/-! ### drawn clauses: the whole text; the drawn rule -/
namespace JF
open PySem PySem.Spec PyProof.Rows L2
theorem len_word {c : Cla} (h : ClaW c) (h8 : c.conds.length ≤ 8) : ∀ w ∈ claW c, w.length ≤ 11 := fun w hw => by
  rcases List.mem_cons.mp hw with rfl | hw
  · simp
  · rcases List.mem_append.mp hw with hw | hw
    · obtain ⟨k, hk, rfl⟩ := List.mem_map.mp hw
      exact condT_len (h.2.1 k hk)
    · rw [List.mem_singleton] at hw; subst hw; simp
theorem tx_len (l : List Nat) : (tx l).length = l.length := rfl
theorem sum_tx {B : Nat} {ws : List (List Nat)} (h : ∀ w ∈ ws, w.length ≤ B) : ((ws.map tx).map (·.length)).sum ≤ ws.length * B := by
  have := sum_le (B := B) (ls := (ws.map tx).map (·.length)) fun l hl => by
    obtain ⟨z, hz, rfl⟩ := List.mem_map.mp hl
    obtain ⟨w, hw, rfl⟩ := List.mem_map.mp hz
    exact h w hw
  rwa [List.length_map, List.length_map] at this
theorem join_tx {y : Str} {S : List Nat} (hy : TL.tl y = S) (ws : List (List Nat)) : Txt.join y (ws.map tx) = tx (TL.joinL S ws) := str_tx (by
  rw [TL.join_eq, TL.tl_join, hy, List.map_map]
  show TL.joinL S (ws.map fun w => w) = _
  rw [List.map_id'])
theorem tl_semi2 : TL.tl (Str.ofString "; ") = [59, 32] := by decide +kernel
theorem AllV.len' {α : Type} {R : V → α → Prop} {vs : List V} {xs : List α} (h : AllV R vs xs) : xs.length = vs.length := h.len.symm
section
variable {P : Program} {w : World} {K : PySem.W.Frag} {mg : Str → Option Value} {base : Heap}
def LClas (H : Hp) (us : List V) (cs : List Cla) : Prop := AllV (LCla H) us cs ∧ (∀ c ∈ cs, ClaW c ∧ c.conds.length ≤ 8) ∧ cs.length ≤ 100
def sp_text : Sp := fun vs H Q _ => ∃ (p : Addr) (us : List V) (cs : List Cla), vs = [.ref p] ∧ H p = some (.lst us) ∧ LClas H us cs ∧ ∀ H', Same H H' → Q (.str (tx (ruleT cs))) H'
theorem mp_text : MonP sp_text := fun vs H Q Q' E h ⟨p, us, cs, x1, x2, x3, q⟩ => ⟨p, us, cs, x1, x2, x3, fun H' s => h _ _ (q H' s)⟩
set_option maxHeartbeats 8000000 in
theorem ok_text (T : Env fa fn K mg) : Good P w K mg base CX0 2 ("_law_text", none) ["_law_clauses"] sp_text := by
  have G_w_word := ok_word (P := P) (w := w) (base := base) T
  refine good_mk T 37 (d := d_w_text) (N := ["_law_clauses", "_law_parts", "_law_clause", "_law_words", "_law_condition"]) (ps := ["_law_clauses"]) rfl rfl sc_w_text (fun _ _ _ _ _ _ us hl => match us, hl with | [_], _ => rfl) (fun vs H Q E h => ?_) (fun f cdv A outer σ0 H vs Q E hr h => ?_)
  · obtain ⟨p, us, cs, rfl, _⟩ := h; rfl
  · obtain ⟨p, us, cs, rfl, hp, ⟨hall, hw, hcl⟩, k⟩ := h
    have hsz := sizeBig
    have hlen := hall.len
    refine ⟨_, (pss_cons (ps_set (i := 1) sc_w_text.nd rfl (Or.inl rfl) (pe_lst pa_nil))
      (pss_cons (ps_for PassesOwn.never rfl (pi_listK K rfl (pv 0)) (pg_name (i := 2) sc_w_text.nd rfl (Or.inl rfl)) (pss_cons (ps_set (i := 3) sc_w_text.nd rfl (Or.inl rfl) (pe_op op_cat (pe_lst (pa_cons (pe_ix ix_str pe_str (pe_ix (ix_tupK K rfl) (pv 2) pe_int (fun _ _ => rfl)) (fun _ _ => rfl)) pa_nil)) (pe_lc (own := [("_law_condition", 4)]) (tt := tYes) rfl sc_w_text.nd (pi_listK K rfl (pe_ix (ix_tupK K rfl) (pv 2) pe_int (fun _ _ => rfl))) (blkOk_by (own := [("_law_condition", 4)]) (N := ["_law_clauses", "_law_parts", "_law_clause", "_law_words", "_law_condition"]) (sc := defScope st_w_text) (by decide +kernel)) (fun _ _ _ _ _ => by exact (pg_name (i := 4) sc_w_text.nd rfl (Or.inl rfl))) (fun _ _ _ _ _ => by exact pts_nil) (fun _ _ _ _ _ => by exact (pe_cgK K rfl G_w_word (hr.mono (by decide)) (T.glo 47) (pa_cons (pv 4) pa_nil))))))
      (pss_one (ps_expr (pe_bm PySem.F.plainAttrs_list PySem.F.slot_list_append PySem.F.type_list_append mt_append (pv 1) (pa_cons (pe_join pe_str (pe_op op_cat (pv 3) (pe_lst (pa_cons (pe_callTy call_str_int (by rfl) (T.free 0) (by decide +kernel) (pa_cons (pe_ix (ix_tupK K rfl) (pv 2) pe_int (fun _ _ => rfl)) pa_nil)) pa_nil)))) pa_nil))))))
      (pss_one (ps_ret (pe_join pe_str (pv 1)))))), ?_⟩
    walk_at "rd"
    refine rd_new (hn := by show 0 ≤ sizeLine; decide) fun p0 hp0 => ?_
    have s0 := same_upd (o := .lst []) hp0
    have L0 : (upd H p0 (.lst [])) p0 = some (.lst []) := upd_same
    generalize upd H p0 (.lst []) = H0 at s0 L0 ⊢
    walk_at "rd"
    refine ⟨p, rfl, ⟨_, SqL.of (s0 _ _ hp)⟩, ?_⟩
    refine for_it (walk_list (xs := us)) (fun i σ H' => Same H H' ∧ H' p0 = some (.lst (((cs.take i).map claT).map fun w => V.str (tx w))) ∧ ∃ x2 x3 x4 : Option V, σ = [some (.ref p), some (.ref p0), x2, x3, x4]) ⟨s0, L0, none, none, none, rfl⟩ ?_ ?_ ?_
    · rintro i σ H' _ ⟨s1, _⟩
      exact SqL.of (s1 _ _ hp)
    · rintro i x σ Ha Hb hi ⟨s1, h1, x2, x3, x4, rfl⟩ ⟨rfl, hx⟩
      obtain ⟨c, hcc, hat⟩ := hall.get hx
      have hcm := List.mem_of_getElem? hcc
      obtain ⟨t, l, ps, rfl, ht, hl, hcs⟩ := hat.same s1
      obtain ⟨hcw, h8⟩ := hw c hcm
      have hic := (List.getElem?_eq_some_iff.mp hcc).1
      have htk : 0 ≤ takenN c.taken ∧ takenN c.taken ≤ 8 := by
        have z := hcw.1
        cases e : c.taken with
        | none => exact ⟨by decide, by decide⟩
        | some s => rw [e] at z; have z' : St s := z; unfold St at z'; show 0 ≤ s ∧ s ≤ 8; omega
      have hwt : wishOf (takenN c.taken) = c.taken := by
        have z := hcw.1
        cases e : c.taken with
        | none => rfl
        | some s => rw [e] at z; have z' : St s := z; unfold St at z'; show (if s = 8 then none else some s) = some s; rw [if_neg (by omega)]
      walk_at "rd"
      refine ⟨_, takenN c.taken, _, rfl, rfl, by decide +kernel, sign_at htk.1 htk.2, ?_⟩
      walk_at "rd"
      rw [hwt]
      refine rd_new (hn := by show 1 ≤ sizeLine; decide) fun p2 hp2 => ?_
      have s2 := same_upd (o := .lst [V.str (tx [wishT c.taken])]) hp2
      have L2 : (upd Hb p2 (.lst [V.str (tx [wishT c.taken])])) p2 = some (.lst [V.str (tx [wishT c.taken])]) := upd_same
      generalize upd Hb p2 (.lst [V.str (tx [wishT c.taken])]) = H2 at s2 L2 ⊢
      have hl2 := s2 _ _ hl
      walk_at "rd"
      refine rd_ixT (SqT.of (s2 _ _ ht)) (atI_nat (j := 1) rfl) ?_
      refine ⟨l, rfl, ⟨_, SqL.of hl2⟩, fun D hD => ?_⟩
      have sD := fun o => same_upd (o := o) hD
      refine lc_list (K := K) (xs := ps) (fun i H' => Same H2 H' ∧ H' D = some (.lst ((c.conds.take i).map fun k => V.str (tx (condT k))))) ⟨sD _, upd_same⟩ ?_ ?_ ?_
      · rintro i H' _ ⟨s3, _⟩
        exact SqL.of (s3 _ _ hl2)
      · rintro m x H' hx ⟨s3, h3⟩
        obtain ⟨kc, hk, hat3⟩ := hcs.get hx
        have hm := (List.getElem?_eq_some_iff.mp hk).1
        walk_at "rd"
        refine ⟨rfl, ?_⟩
        walk_at "rd"
        refine ⟨x, kc, rfl, (hat3.same s2).same s3, hcw.2.1 kc (List.mem_of_getElem? hk), fun H4 s4 => ?_⟩
        have h4 := s4 _ _ h3
        refine ⟨_, h4, ?_, Same.put2 (s3.trans s4) hD, ?_⟩
        · rw [List.length_map, List.length_take]; exact small1000 (by omega)
        · rw [upd_same, take_snoc hk, List.map_append]; rfl
      rintro H3 ⟨s3, LD⟩
      have hpl : ps.length = c.conds.length := hcs.len
      rw [hpl, List.take_length] at LD
      have L3 := s3 _ _ L2
      walk_at "rd"
      refine ⟨p2, D, _, _, rfl, rfl, L3, LD, ?_, fun p5 hp5 => ?_⟩
      · rw [List.length_map]; simp only [List.length_cons, List.length_nil]; omega
      have s5 := same_upd (o := .lst ([V.str (tx [wishT c.taken])] ++ c.conds.map fun k => V.str (tx (condT k)))) hp5
      have L5 : (upd H3 p5 (.lst ([V.str (tx [wishT c.taken])] ++ c.conds.map fun k => V.str (tx (condT k))))) p5 = some (.lst ([V.str (tx [wishT c.taken])] ++ c.conds.map fun k => V.str (tx (condT k)))) := upd_same
      generalize upd H3 p5 (.lst ([V.str (tx [wishT c.taken])] ++ c.conds.map fun k => V.str (tx (condT k)))) = H5 at s5 L5 ⊢
      have s25 := (s2.trans s3).trans s5
      have h15 := s25 _ _ h1
      walk_at "rd"
      refine rd_tyL h15 ?_
      walk_at "rd"
      refine rd_m1 ?_
      walk_at "rd"
      refine rd_st ?_
      walk_at "rd"
      refine rd_ixT (SqT.of (s25 _ _ ht)) (atI_nat (j := 2) rfl) ?_
      walk_at "rd"
      have hmd := hcw.2.2
      unfold St at hmd
      obtain ⟨md, hmd'⟩ := nat_of hmd.1
      refine ⟨c.made, rfl, log_ok (by omega), ?_⟩
      have etm : Str.ofString (toString c.made) = tx [48 + c.made.toNat] := str_tx (by rw [hmd', tl_int (by omega), Int.toNat_natCast])
      rw [etm]
      refine rd_new (hn := by show 1 ≤ sizeLine; decide) fun p6 hp6 => ?_
      have s6 := same_upd (o := .lst [V.str (tx [48 + c.made.toNat])]) hp6
      have L6 : (upd H5 p6 (.lst [V.str (tx [48 + c.made.toNat])])) p6 = some (.lst [V.str (tx [48 + c.made.toNat])]) := upd_same
      generalize upd H5 p6 (.lst [V.str (tx [48 + c.made.toNat])]) = H6 at s6 L6 ⊢
      walk_at "rd"
      refine ⟨p5, p6, _, _, rfl, rfl, s6 _ _ L5, L6, ?_, fun p7 hp7 => ?_⟩
      · rw [List.length_append, List.length_map]; simp only [List.length_cons, List.length_nil]; omega
      have eW : ([V.str (tx [wishT c.taken])] ++ c.conds.map fun k => V.str (tx (condT k))) ++ [V.str (tx [48 + c.made.toNat])] = ((claW c).map tx).map V.str := by
        simp [claW, List.map_map, Function.comp_def]
      rw [eW]
      have s7 := same_upd (o := .lst (((claW c).map tx).map V.str)) hp7
      have L7 : (upd H6 p7 (.lst (((claW c).map tx).map V.str))) p7 = some (.lst (((claW c).map tx).map V.str)) := upd_same
      generalize upd H6 p7 (.lst (((claW c).map tx).map V.str)) = H7 at s7 L7 ⊢
      have hwl : (claW c).length = c.conds.length + 2 := by simp [claW]
      walk_at "rd"
      refine ⟨_, p7, _, rfl, rfl, .inl (SqL.of L7), ?_, ?_⟩
      · have e := sum_tx (len_word hcw h8)
        have e1 : (Str.ofString " ").length = 1 := by decide +kernel
        rw [List.length_map, e1]
        omega
      rw [join_tx tl_space]
      have h17 := s7 _ _ (s6 _ _ h15)
      walk_at "rd"
      refine rd_append h17 (by rw [List.length_map, List.length_map, List.length_take]; exact small1000 (by omega)) ?_
      walk_at "rd"
      refine ⟨Same.put2 (((s1.trans s25).trans s6).trans s7) hp0, ?_, _, _, _, rfl⟩
      rw [upd_same, take_snoc hcc, List.map_append, List.map_append]; rfl
    · rintro σ H' ⟨s1, h1, x2, x3, x4, rfl⟩
      rw [hlen, List.take_length] at h1
      have e1 : ((cs.map claT).map fun w => V.str (tx w)) = ((cs.map claT).map tx).map V.str := by simp only [List.map_map, Function.comp_def]
      rw [e1] at h1
      walk_at "rd"
      refine rd_m1 ?_
      walk_at "rd"
      refine rd_st ?_
      walk_at "rd"
      refine ⟨_, p0, _, rfl, rfl, .inl (SqL.of h1), ?_, ?_⟩
      · have e := sum_tx (B := 120) (ws := cs.map claT) fun w hw' => by
          obtain ⟨c, hc, rfl⟩ := List.mem_map.mp hw'
          exact claT_len (hw c hc).1 (hw c hc).2
        have e1 : (Str.ofString "; ").length = 2 := by decide +kernel
        rw [List.length_map] at e
        rw [List.length_map, List.length_map, e1]
        omega
      rw [join_tx tl_semi2]
      exact k _ s1
end
end JF

/-! ### drawn clauses: the drawn rule -/
namespace JF
open PySem PySem.Spec PyProof.Rows L2
section
variable {P : Program} {w : World} {K : PySem.W.Frag} {mg : Str → Option Value} {base : Heap}
def eightV : List V := [.int 0, .int 0, .int 0, .int 0, .int 0, .int 0, .int 0, .int 0]
theorem fits_zero {c : Cla} (h : c.fits 0 eights = true) (h0 : c.made = 0) (cs : List Cla) : ruleMakes (c :: cs) 0 eights = 0 := by
  unfold ruleMakes firstFit
  rw [if_pos h]
  show c.made = 0
  exact h0
def sp_clauses_by (K : PySem.W.Frag) : Sp := fun vs H Q _ => ∃ (a : Addr) (ns : List Int) (first many : Int), vs = [.ref a, .int first, .int many] ∧ SqL K H a (ns.map V.int) ∧ 0 ≤ first ∧ 0 ≤ many ∧ many ≤ 20 ∧ ∀ H' l us cs, Same H H' → H' l = some (.lst us) → LClas H' us cs → ruleMakes cs 0 eights = 0 → (many.toNat ≤ cs.length ∧ cs.length ≤ many.toNat + 1) → Q (.ref l) H'
theorem mp_clauses_by : MonP (sp_clauses_by K) := fun vs H Q Q' E h ⟨a, ns, f, m, x1, x2, x3, x4, x5, q⟩ => ⟨a, ns, f, m, x1, x2, x3, x4, x5, fun H' l us cs a b c d e => h _ _ (q H' l us cs a b c d e)⟩
set_option maxHeartbeats 8000000 in
theorem ok_clauses_by (T : Env fa fn K mg) : Good P w K mg base CX0 4 ("_law_clauses_by", none) ["_law_script", "_law_first", "_law_many"] (sp_clauses_by K) := by
  have G_w_at := ok_at (P := P) (w := w) (base := base) T
  have G_w_clause_by := ok_clause_by (P := P) (w := w) (base := base) T
  have G_w_becomes := ok_lbecomes (P := P) (w := w) (base := base) T
  refine good_mk T 35 (d := d_w_clauses_by) (N := ["_law_script", "_law_first", "_law_many", "_law_mains", "_law_clauses", "_law_k"]) (ps := ["_law_script", "_law_first", "_law_many"]) rfl rfl sc_w_clauses_by (fun _ _ _ _ _ _ us hl => match us, hl with | [_, _, _], _ => rfl) (fun vs H Q E h => ?_) (fun f cdv A outer σ0 H vs Q E hr h => ?_)
  · obtain ⟨a, ns, first, many, rfl, _⟩ := h; rfl
  · obtain ⟨a, ns, first, many, rfl, hS, hf0, hm0, hm1, k⟩ := h
    refine ⟨_, (pss_cons (ps_set (i := 3) sc_w_clauses_by.nd rfl (Or.inl rfl) (pe_tup (pa_cons (pe_op op_mod (pe_cgK K rfl G_w_at (hr.mono (by decide)) (T.glo 44) (pa_cons (pv 0) (pa_cons (pv 1) pa_nil))) pe_int) (pa_cons (pe_op op_mod (pe_cgK K rfl G_w_at (hr.mono (by decide)) (T.glo 44) (pa_cons (pv 0) (pa_cons (pe_op op_add (pv 1) pe_int) pa_nil))) pe_int) pa_nil))))
      (pss_cons (ps_set (i := 4) sc_w_clauses_by.nd rfl (Or.inl rfl) (pe_lst pa_nil))
      (pss_cons (ps_for PassesOwn.never rfl (pi_range1 (by rfl) (T.free 39) (pa_cons (pv 2) pa_nil)) (pg_name (i := 5) sc_w_clauses_by.nd rfl (Or.inl rfl)) (pss_one (ps_expr (pe_bm PySem.F.plainAttrs_list PySem.F.slot_list_append PySem.F.type_list_append mt_append (pv 4) (pa_cons (pe_cgK K rfl G_w_clause_by (hr.mono (by decide)) (T.glo 45) (pa_cons (pv 3) (pa_cons (pe_cgK K rfl G_w_at (hr.mono (by decide)) (T.glo 44) (pa_cons (pv 0) (pa_cons (pe_op op_add (pe_op op_add (pv 1) pe_int) (pv 5)) pa_nil))) (pa_cons (pe_op op_mulW pe_int (pv 5)) pa_nil)))) pa_nil)))))
      (pss_cons (ps_if (pt_cmpR op_ne (pe_cgK K rfl G_w_becomes (hr.mono (by decide)) (T.glo 46) (pa_cons (pv 4) (pa_cons pe_int (pa_cons (pe_lst (pa_cons pe_int (pa_cons pe_int (pa_cons pe_int (pa_cons pe_int (pa_cons pe_int (pa_cons pe_int (pa_cons pe_int (pa_cons pe_int pa_nil))))))))) pa_nil)))) pe_int (nomark _)) (pss_one (ps_set (i := 4) sc_w_clauses_by.nd rfl (Or.inl rfl) (pe_op op_cat (pe_lst (pa_cons (pe_tup (pa_cons pe_int (pa_cons (pe_lst (pa_cons (pe_tup (pa_cons pe_str (pa_cons pe_int (pa_cons (pe_lst (pa_cons pe_int pa_nil)) pa_nil)))) pa_nil)) (pa_cons pe_int pa_nil)))) pa_nil)) (pv 4)))) pss_nil)
      (pss_one (ps_ret (pv 4))))))), ?_⟩
    walk_at "rd"
    refine rd_at hS (by omega) ?_
    walk_at "rd"
    refine rd_at hS (by omega) ?_
    walk_at "rd"
    refine rd_new (hn := by show 2 ≤ sizeLine; decide) fun t ht => ?_
    have s0 := same_upd (o := .tup [V.int (atN ns first.toNat % 8), V.int (atN ns (first + 1).toNat % 8)]) ht
    have T0 : (upd H t (.tup [V.int (atN ns first.toNat % 8), V.int (atN ns (first + 1).toNat % 8)])) t = some (.tup [V.int (atN ns first.toNat % 8), V.int (atN ns (first + 1).toNat % 8)]) := upd_same
    have hsa : St (atN ns first.toNat % 8) := ⟨by omega, by omega⟩
    have hsb : St (atN ns (first + 1).toNat % 8) := ⟨by omega, by omega⟩
    generalize upd H t (.tup [V.int (atN ns first.toNat % 8), V.int (atN ns (first + 1).toNat % 8)]) = H0 at s0 T0 ⊢
    walk_at "rd"
    refine rd_new (hn := by show 0 ≤ sizeLine; decide) fun l hl => ?_
    have s1 := same_upd (o := .lst []) hl
    have L1 : (upd H0 l (.lst [])) l = some (.lst []) := upd_same
    generalize upd H0 l (.lst []) = H1 at s1 L1 ⊢
    walk_at "rd"
    refine ⟨many, rfl, by omega, by omega, ?_⟩
    refine for_it (walk_r0 (n := many.toNat)) (fun i σ Hq => Same H0 Hq ∧ ∃ (us : List V) (cs : List Cla) (x5 : Option V), σ = [some (.ref a), some (.int first), some (.int many), some (.ref t), some (.ref l), x5] ∧ Hq l = some (.lst us) ∧ AllV (LClaN (fun b => b ≠ l ∧ H0 b = none) Hq) us cs ∧ cs.length = i ∧ ∀ c ∈ cs, ClaW c ∧ c.conds.length ≤ 8)
      ⟨s1, [], [], none, rfl, L1, trivial, rfl, by simp⟩ (fun _ _ _ _ _ => trivial) ?_ ?_
    · rintro i x σ Ha Hb hi ⟨s2, us, cs, x5, rfl, hus, hall, hcl, hcw⟩ ⟨rfl, rfl⟩
      walk_at "rd"
      refine rd_tyL hus ?_
      walk_at "rd"
      refine rd_at (sqL_on hS fun o e => s2 _ _ (s0 _ _ e)) (by omega) ?_
      walk_at "rd"
      refine rd_I (mid_mul (by decide) (by decide) (by omega) (by omega)) ?_
      walk_at "rd"
      refine ⟨t, _, _, _, _, rfl, s2 _ _ T0, hsa, hsb, by omega, by omega, fun H4 u c s4 hc hw h8 => ?_⟩
      have hus4 := s4 _ _ hus
      walk_at "rd"
      refine rd_append hus4 (by rw [hall.len]; exact small1000 (by omega)) ?_
      walk_at "rd"
      have hc' : LClaN (fun b => b ≠ l ∧ H0 b = none) H4 u c := hc.imp fun b hb => ⟨fun z => (by rw [z, hus] at hb; cases hb), none_of s2 hb⟩
      refine ⟨Same.put2 (s2.trans s4) hl, us ++ [u], cs ++ [c], _, rfl, upd_same, ((hall.imp fun _ _ h => h.same s4).app hc').imp fun _ _ h => h.upd hus4 fun b hb => hb.1, by rw [List.length_append, hcl]; rfl, fun c' hm => ?_⟩
      rcases List.mem_append.mp hm with hm | hm
      · exact hcw c' hm
      · rw [List.mem_singleton] at hm; subst hm; exact ⟨hw, h8⟩
    · rintro σ H4 ⟨s2, us, cs, x5, rfl, hus, hall, hcl, hcw⟩
      have hatl : AllV (LCla H4) us cs := hall.imp fun _ _ h => h.at
      walk_at "rd"
      refine rd_new (hn := by show 8 ≤ sizeLine; decide) fun pz hpz => ?_
      have s3 := same_upd (o := .lst eightV) hpz
      have s3' : Same H4 (upd H4 pz (.lst [V.int 0, V.int 0, V.int 0, V.int 0, V.int 0, V.int 0, V.int 0, V.int 0])) := s3
      have hz : (upd H4 pz (.lst [V.int 0, V.int 0, V.int 0, V.int 0, V.int 0, V.int 0, V.int 0, V.int 0])) pz = some (.lst (eights.map V.int)) := upd_same
      generalize upd H4 pz (.lst [V.int 0, V.int 0, V.int 0, V.int 0, V.int 0, V.int 0, V.int 0, V.int 0]) = H5 at s3' hz ⊢
      walk_at "rd"
      refine ⟨l, pz, us, cs, 0, eights, rfl, s3' _ _ hus, hatl.imp fun _ _ h => h.same s3', fun c hc => (hcw c hc).1, by omega, hz, rfl, fun H6 s6 => ?_⟩
      have s06 := (s0.trans s2).trans (s3'.trans s6)
      have hus6 := s6 _ _ (s3' _ _ hus)
      have hat6 := hatl.imp fun _ _ h => h.same (s3'.trans s6)
      walk_at "rd"
      refine ite_nd (fun hm => ?_) (fun hm => ?_)
      · walk_at "rd"
        refine rd_new (hn := by show 1 ≤ sizeLine; decide) fun q1 hq1 => ?_
        have t1 := same_upd (o := .lst [V.int 8]) hq1
        have Q1 : (upd H6 q1 (.lst [V.int 8])) q1 = some (.lst [V.int 8]) := upd_same
        generalize upd H6 q1 (.lst [V.int 8]) = H7 at t1 Q1 ⊢
        walk_at "rd"
        refine rd_new (hn := by show 3 ≤ sizeLine; decide) fun q2 hq2 => ?_
        have t2 := same_upd (o := .tup [V.str "amount", V.int 0, V.ref q1]) hq2
        have Q2 : (upd H7 q2 (.tup [V.str "amount", V.int 0, V.ref q1])) q2 = some (.tup [V.str "amount", V.int 0, V.ref q1]) := upd_same
        generalize upd H7 q2 (.tup [V.str "amount", V.int 0, V.ref q1]) = H8 at t2 Q2 ⊢
        walk_at "rd"
        refine rd_new (hn := by show 1 ≤ sizeLine; decide) fun q3 hq3 => ?_
        have t3 := same_upd (o := .lst [V.ref q2]) hq3
        have Q3 : (upd H8 q3 (.lst [V.ref q2])) q3 = some (.lst [V.ref q2]) := upd_same
        generalize upd H8 q3 (.lst [V.ref q2]) = H9 at t3 Q3 ⊢
        walk_at "rd"
        refine rd_new (hn := by show 3 ≤ sizeLine; decide) fun q4 hq4 => ?_
        have t4 := same_upd (o := .tup [V.int 0, V.ref q3, V.int 0]) hq4
        have Q4 : (upd H9 q4 (.tup [V.int 0, V.ref q3, V.int 0])) q4 = some (.tup [V.int 0, V.ref q3, V.int 0]) := upd_same
        generalize upd H9 q4 (.tup [V.int 0, V.ref q3, V.int 0]) = H10 at t4 Q4 ⊢
        walk_at "rd"
        refine rd_new (hn := by show 1 ≤ sizeLine; decide) fun q5 hq5 => ?_
        have t5 := same_upd (o := .lst [V.ref q4]) hq5
        have Q5 : (upd H10 q5 (.lst [V.ref q4])) q5 = some (.lst [V.ref q4]) := upd_same
        generalize upd H10 q5 (.lst [V.ref q4]) = H11 at t5 Q5 ⊢
        have tt := (((t1.trans t2).trans t3).trans t4).trans t5
        walk_at "rd"
        refine ⟨q5, l, _, _, rfl, rfl, Q5, tt _ _ hus6, ?_, fun q6 hq6 => ?_⟩
        · rw [hall.len]; exact small_len (by simp only [List.length_cons, List.length_nil]; omega)
        have t6 := same_upd (o := .lst ([V.ref q4] ++ us)) hq6
        have Q6 : (upd H11 q6 (.lst ([V.ref q4] ++ us))) q6 = some (.lst ([V.ref q4] ++ us)) := upd_same
        generalize upd H11 q6 (.lst ([V.ref q4] ++ us)) = H12 at t6 Q6 ⊢
        have hf : Cla.fits ⟨some 0, [.amt 0 [8]], 0⟩ 0 eights = true := by decide +kernel
        walk_at "rd"
        refine k _ q6 _ (⟨some 0, [.amt 0 [8]], 0⟩ :: cs) ((s06.trans tt).trans t6) Q6 ⟨⟨?_, hat6.imp fun _ _ h => h.same (tt.trans t6)⟩, fun c hc => ?_, by rw [List.length_cons]; omega⟩ (fits_zero hf rfl cs) (by rw [List.length_cons]; constructor <;> omega)
        · refine ⟨q4, q3, [V.ref q2], rfl, t6 _ _ (t5 _ _ Q4), t6 _ _ (t5 _ _ (t4 _ _ Q3)), ⟨q2, q1, rfl, t6 _ _ (t5 _ _ (t4 _ _ (t3 _ _ Q2))), t6 _ _ (t5 _ _ (t4 _ _ (t3 _ _ (t2 _ _ Q1))))⟩, trivial⟩
        · rcases List.mem_cons.mp hc with rfl | hc
          · refine ⟨⟨⟨by decide, by decide⟩, fun k hk => ?_, ⟨by decide, by decide⟩⟩, by show 1 ≤ 8; decide⟩
            rw [List.mem_singleton] at hk; subst hk
            exact ⟨⟨by decide, by decide⟩, by simp, fun n hn => by rw [List.mem_singleton] at hn; subst hn; decide, by simp⟩
          · exact hcw c hc
      · walk_at "rd"
        refine k _ l us cs s06 hus6 ⟨hat6, hcw, by omega⟩ hm (by constructor <;> omega)
end
end JF

/-! ### rules turned, mirrored -/
namespace JF
open PySem PySem.Spec PyProof.Rows L2
/-! #### the plain meaning -/
def pk {α : Type} (l : List α) (o : List Nat) : List α := o.filterMap fun i => l[i]?
def Cond.turn (o : List Nat) : Cond → Cond
  | .amt s ns => .amt s ns
  | .plc ws => .plc (pk ws o)
def Cla.turn (o : List Nat) (c : Cla) : Cla := ⟨c.taken, c.conds.map (Cond.turn o), c.made⟩
def LEFT : List Nat := [2, 4, 7, 1, 6, 0, 3, 5]
def GLASS : List Nat := [2, 1, 0, 4, 3, 7, 6, 5]
def Ord (o : List Nat) : Prop := o = LEFT ∨ o = GLASS
theorem eight {α : Type} {l : List α} (h : l.length = 8) : ∃ a b c d e f g i, l = [a, b, c, d, e, f, g, i] := by
  match l, h with
  | [a, b, c, d, e, f, g, i], _ => exact ⟨a, b, c, d, e, f, g, i, rfl⟩
theorem Ord.lt {o : List Nat} (h : Ord o) : o.length = 8 ∧ ∀ i ∈ o, i < 8 := by
  rcases h with rfl | rfl <;> exact ⟨rfl, by decide⟩
theorem pk_len {α : Type} {l : List α} {o : List Nat} (h : l.length = 8) (ho : Ord o) : (pk l o).length = 8 := by
  obtain ⟨a, b, c, d, e, f, g, i, rfl⟩ := eight h
  rcases ho with rfl | rfl <;> rfl
theorem pk_mem {α : Type} {l : List α} {o : List Nat} {x : α} (h : x ∈ pk l o) : x ∈ l := by
  obtain ⟨i, _, e⟩ := List.mem_filterMap.mp h
  exact List.mem_of_getElem? e
theorem pk_take {α : Type} {l : List α} {o : List Nat} {i n : Nat} {x : α} (h : o[i]? = some n) (hx : l[n]? = some x) : pk l (o.take (i + 1)) = pk l (o.take i) ++ [x] := by
  unfold pk
  rw [take_snoc h, List.filterMap_append]
  simp [hx]
theorem pk_map {α β : Type} (f : α → β) (l : List α) (o : List Nat) : pk (l.map f) o = (pk l o).map f := by
  unfold pk
  rw [List.map_filterMap]
  congr 1
  funext i
  rw [List.getElem?_map]
theorem pk_plc {ws : List (Option Int)} {xs : List Int} {o : List Nat} (hw : ws.length = 8) (hx : xs.length = 8) (ho : Ord o) : plcOk (pk ws o) (pk xs o) = plcOk ws xs := by
  obtain ⟨a, b, c, d, e, f, g, i, rfl⟩ := eight hw
  obtain ⟨a', b', c', d', e', f', g', i', rfl⟩ := eight hx
  rcases ho with rfl | rfl
  · show (wishOk c c' && (wishOk e e' && (wishOk i i' && (wishOk b b' && (wishOk g g' && (wishOk a a' && (wishOk d d' && (wishOk f f' && true)))))))) = (wishOk a a' && (wishOk b b' && (wishOk c c' && (wishOk d d' && (wishOk e e' && (wishOk f f' && (wishOk g g' && (wishOk i i' && true))))))))
    ac_rfl
  · show (wishOk c c' && (wishOk b b' && (wishOk a a' && (wishOk e e' && (wishOk d d' && (wishOk i i' && (wishOk g g' && (wishOk f f' && true)))))))) = (wishOk a a' && (wishOk b b' && (wishOk c c' && (wishOk d d' && (wishOk e e' && (wishOk f f' && (wishOk g g' && (wishOk i i' && true))))))))
    ac_rfl
theorem pk_count {xs : List Int} {o : List Nat} (hx : xs.length = 8) (ho : Ord o) (s : Int) : (pk xs o).count s = xs.count s := by
  obtain ⟨a, b, c, d, e, f, g, i, rfl⟩ := eight hx
  rcases ho with rfl | rfl
  · show ([c, e, i, b, g, a, d, f] : List Int).count s = _
    simp only [List.count_cons, List.count_nil]
    ac_rfl
  · show ([c, b, a, e, d, i, g, f] : List Int).count s = _
    simp only [List.count_cons, List.count_nil]
    ac_rfl
theorem turn_holds {k : Cond} {xs : List Int} {o : List Nat} (hk : match k with | .amt _ _ => True | .plc ws => ws.length = 8) (hx : xs.length = 8) (ho : Ord o) : (k.turn o).holds (pk xs o) = k.holds xs := by
  cases k with
  | amt s ns =>
    show decide (((pk xs o).count s : Int) ∈ ns) = decide ((xs.count s : Int) ∈ ns)
    rw [pk_count hx ho]
  | plc ws => exact pk_plc hk hx ho
theorem turn_fits {c : Cla} {cell : Int} {xs : List Int} {o : List Nat} (hc : ∀ k ∈ c.conds, CondOk k) (hx : xs.length = 8) (ho : Ord o) : (c.turn o).fits cell (pk xs o) = c.fits cell xs := by
  show (wishOk c.taken cell && (c.conds.map (Cond.turn o)).all fun k => k.holds (pk xs o)) = (wishOk c.taken cell && c.conds.all fun k => k.holds xs)
  congr 1
  rw [List.all_map]
  have : ∀ ks : List Cond, (∀ k ∈ ks, CondOk k) → ks.all ((fun k => k.holds (pk xs o)) ∘ Cond.turn o) = ks.all fun k => k.holds xs := fun ks => by
    induction ks with
    | nil => intro _; rfl
    | cons k ks ih =>
      intro h
      rw [List.all_cons, List.all_cons, ih fun k hk => h k (List.mem_cons_of_mem _ hk)]
      have e : ((fun k => k.holds (pk xs o)) ∘ Cond.turn o) k = k.holds xs := turn_holds (by have := h k List.mem_cons_self; cases k <;> exact this) hx ho
      rw [e]
  exact this c.conds hc
theorem turn_first {cell : Int} {xs : List Int} {o : List Nat} (hx : xs.length = 8) (ho : Ord o) : ∀ {cs : List Cla}, RuleOk cs → firstFit cell (pk xs o) (cs.map (Cla.turn o)) = firstFit cell xs cs
  | [], _ => rfl
  | c :: cs, h => by
    have ih := turn_first (cell := cell) hx ho (cs := cs) fun d hd => h d (List.mem_cons_of_mem _ hd)
    rw [List.map_cons]
    unfold firstFit
    rw [turn_fits (h c List.mem_cons_self) hx ho, ih]
theorem turn_makes {cell : Int} {xs : List Int} {o : List Nat} (hx : xs.length = 8) (ho : Ord o) {cs : List Cla} (h : RuleOk cs) : ruleMakes (cs.map (Cla.turn o)) cell (pk xs o) = ruleMakes cs cell xs := by
  unfold ruleMakes
  rw [turn_first hx ho h]
  cases firstFit cell xs cs with
  | none => rfl
  | some i =>
    show ((cs.map (Cla.turn o))[i]?.map Cla.made).getD cell = (cs[i]?.map Cla.made).getD cell
    rw [List.getElem?_map]
    cases cs[i]? <;> rfl
theorem turn_ok {o : List Nat} (ho : Ord o) {cs : List Cla} (h : RuleOk cs) : RuleOk (cs.map (Cla.turn o)) := fun c hc k hk => by
  obtain ⟨c0, hc0, rfl⟩ := List.mem_map.mp hc
  obtain ⟨k0, hk0, rfl⟩ := List.mem_map.mp hk
  have := h c0 hc0 k0 hk0
  cases k0 with
  | amt s ns => trivial
  | plc ws => exact pk_len (show ws.length = 8 from this) ho
def Sz (cs : List Cla) : Prop := cs.length ≤ 1000 ∧ ∀ c ∈ cs, c.conds.length ≤ 1000
theorem Sz.turn {o : List Nat} {cs : List Cla} (h : Sz cs) : Sz (cs.map (Cla.turn o)) := by
  refine ⟨by rw [List.length_map]; exact h.1, fun c hc => ?_⟩
  obtain ⟨c0, hc0, rfl⟩ := List.mem_map.mp hc
  show (c0.conds.map (Cond.turn o)).length ≤ 1000
  rw [List.length_map]; exact h.2 c0 hc0
/-! #### in the heap -/
theorem CondAt.toN {K : PySem.W.Frag} {H : Hp} {v : V} {c : Cond} {D : Addr} (h : CondAt K H v c) (hD : H D = none) : CondAtN (fun b => b ≠ D) K H v c := by
  cases c with
  | amt s ns => obtain ⟨p, dx, l, e, h1, h2⟩ := h; exact ⟨p, dx, l, e, h1, h2, ne_of_none h1 hD, ne_of_none h2 hD⟩
  | plc ws => obtain ⟨p, dx, l, e, h1, h2⟩ := h; exact ⟨p, dx, l, e, h1, h2, ne_of_none h1 hD, ne_of_none h2 hD⟩
theorem CondAtN.and {N N' : Addr → Prop} {K : PySem.W.Frag} {H : Hp} {v : V} {c : Cond} (h : CondAtN N K H v c) (h' : CondAtN N' K H v c) : CondAtN (fun b => N b ∧ N' b) K H v c := by
  cases c with
  | amt s ns =>
    obtain ⟨p, dx, l, e, h1, h2, h3, h4⟩ := h
    obtain ⟨p', dx', l', e', g1, g2, g3, g4⟩ := h'
    rw [e] at e'; cases e'
    rw [h1] at g1; cases g1
    exact ⟨p, dx, l, e, h1, h2, ⟨h3, g3⟩, ⟨h4, g4⟩⟩
  | plc ws =>
    obtain ⟨p, dx, l, e, h1, h2, h3, h4⟩ := h
    obtain ⟨p', dx', l', e', g1, g2, g3, g4⟩ := h'
    rw [e] at e'; cases e'
    rw [h1] at g1; cases g1
    exact ⟨p, dx, l, e, h1, h2, ⟨h3, g3⟩, ⟨h4, g4⟩⟩
theorem ClaAt.toN {K : PySem.W.Frag} {H : Hp} {v : V} {c : Cla} {D : Addr} (h : ClaAt K H v c) (hD : H D = none) : ClaAtN (fun b => b ≠ D) K H v c := by
  obtain ⟨p, dx, l, ps, e, h1, h2, h3⟩ := h
  exact ⟨p, dx, l, ps, e, h1, h2, ne_of_none h1 hD, ne_of_none h2 hD, h3.imp fun _ _ h => h.toN hD⟩
section
variable {P : Program} {w : World} {K : PySem.W.Frag} {mg : Str → Option Value} {base : Heap}
def ordV (o : List Nat) : List V := o.map fun n : Nat => V.int (n : Int)
def sp_amt_turn (K : PySem.W.Frag) : Sp := fun vs H Q _ => ∃ (p : Addr) (o : V), vs = [.ref p, o] ∧ Q (.ref p) H
theorem mp_amt_turn : MonP (sp_amt_turn K) := fun vs H Q Q' E h ⟨p, o, x1, q⟩ => ⟨p, o, x1, h _ _ q⟩
theorem ok_amt_turn (T : Env fa fn K mg) : Good P w K mg base CX0 1 ("Amount", some "reordered") ["self", "order"] (sp_amt_turn K) := by
  refine good_mk T 40 (d := d_Amount_reordered) (N := ["self", "order"]) (ps := ["self", "order"]) rfl rfl sc_Amount_reordered (fun _ _ _ _ _ _ us hl => match us, hl with | [_, _], _ => rfl) (fun vs H Q E h => ?_) (fun f cdv A outer σ0 H vs Q E hr h => ?_)
  · obtain ⟨p, o, rfl, _⟩ := h; rfl
  · obtain ⟨p, o, rfl, k⟩ := h
    refine ⟨_, (pss_one (ps_ret (pv 0))), ?_⟩
    walk_at "rd"
    exact k
def sp_plc_turn (K : PySem.W.Frag) : Sp := fun vs H Q _ => ∃ (p dx l q : Addr) (ws : List (Option Int)) (o : List Nat), vs = [.ref p, .ref q] ∧ H p = some (.ins (He.ga K "Places") dx [("wanted", .ref l)]) ∧ H l = some (.lst (ws.map optV)) ∧ (∀ H', SqT K H' q (ordV o)) ∧ ws.length = 8 ∧ Ord o ∧ ∀ H' v, Same H H' → CondAtN (fun b => H b = none) K H' v (.plc (pk ws o)) → Q v H'
theorem mp_plc_turn : MonP (sp_plc_turn K) := fun vs H Q Q' E h ⟨p, dx, l, q, ws, o, x1, x2, x3, x4, x5, x6, k⟩ => ⟨p, dx, l, q, ws, o, x1, x2, x3, x4, x5, x6, fun H' v a b => h _ _ (k H' v a b)⟩
theorem ok_plc_turn (T : Env fa fn K mg) : Good P w K mg base CX0 3 ("Places", some "reordered") ["self", "order"] (sp_plc_turn K) := by
  have G_Places_init := ok_plc_init (P := P) (w := w) (base := base) T
  refine good_mk T 8 (d := d_Places_reordered) (N := ["self", "order", "at"]) (ps := ["self", "order"]) rfl rfl sc_Places_reordered (fun _ _ _ _ _ _ us hl => match us, hl with | [_, _], _ => rfl) (fun vs H Q E h => ?_) (fun f cdv A outer σ0 H vs Q E hr h => ?_)
  · obtain ⟨p, dx, l, q, ws, o, rfl, _⟩ := h; rfl
  · obtain ⟨p, dx, l, q, ws, o, rfl, hp, hl, hq, hw8, ho, k⟩ := h
    have cl := T.cls 5
    have n1 := T.noat 60
    obtain ⟨ho8, hob⟩ := ho.lt
    refine ⟨_, (pss_one (ps_ret (pe_mkgK K rfl (T.mkr 2) G_Places_init (hr.mono (by decide)) (T.glo 3) (pa_cons (pe_lc (own := [("at", 2)]) (tt := tYes) rfl sc_Places_reordered.nd (pi_tupK K rfl (pv 1)) (blkOk_by (own := [("at", 2)]) (N := ["self", "order", "at"]) (sc := defScope st_Places_reordered) (by decide +kernel)) (fun _ _ _ _ _ => by exact (pg_name (i := 2) sc_Places_reordered.nd rfl (Or.inl rfl))) (fun _ _ _ _ _ => by exact pts_nil) (fun _ _ _ _ _ => by exact (pe_ix (ix_listK K rfl) (pe_fldK K rfl (pv 0) rfl) (pv 2) (fun _ _ => rfl)))) pa_nil)))), ?_⟩
    walk_at "rd"
    refine rd_make ?_
    walk_at "rd"
    refine ⟨q, rfl, ⟨_, hq _⟩, fun D hD => ?_⟩
    refine lc_it (walk_tup (K := K) (a := q) (xs := ordV o)) (fun i H' => H' = upd H D (.lst ((pk ws (o.take i)).map optV))) rfl (fun _ _ _ _ => hq _) ?_ ?_
    · rintro i x Ha Hb hi rfl ⟨rfl, hx⟩
      obtain ⟨n, hn, rfl⟩ : ∃ n, o[i]? = some n ∧ x = .int (n : Int) := by
        have hx' : (o.map fun n : Nat => V.int (n : Int))[i]? = some x := hx
        rw [List.getElem?_map] at hx'
        cases e : o[i]? with
        | none => rw [e] at hx'; cases hx'
        | some c => rw [e] at hx'; exact ⟨c, rfl, (Option.some.inj hx').symm⟩
      have hn8 : n < ws.length := by have := hob n (List.mem_of_getElem? hn); omega
      have sD := same_upd (o := .lst ((pk ws (o.take i)).map optV)) hD
      walk_at "rd"
      refine ⟨rfl, ?_⟩
      have hp' := sD _ _ hp
      walk_at "rd"
      refine rd_ixL (SqL.of (sD _ _ hl)) (atI_nat (map_get optV (at_get hn8))) ?_
      refine ⟨_, upd_same, ?_, ?_⟩
      · have h1 : (pk ws (o.take i)).length ≤ (o.take i).length := List.length_filterMap_le _ _
        rw [List.length_take] at h1
        rw [List.length_map]; exact small1000 (by omega)
      · rw [upd_upd, pk_take hn (at_get hn8), List.map_append]; rfl
    rintro H2 rfl
    have e : o.take (ordV o).length = o := by
      have : (ordV o).length = o.length := by show (o.map _).length = _; rw [List.length_map]
      rw [this, List.take_length]
    rw [e]
    have sD := same_upd (o := .lst ((pk ws o).map optV)) hD
    walk_at "rd"
    intro x dx hx hdx hne2
    refine ⟨x, dx, D, rfl, upd_same, rfl, ?_⟩
    have hL : (upd H D (.lst ((pk ws o).map optV))) D = some (.lst ((pk ws o).map optV)) := upd_same
    have hlx : D ≠ x := ne_of_none hL hx
    have hldx : D ≠ dx := ne_of_none hL hdx
    refine k _ _ (sD.trans (Same.put2 (made_same2 hx hdx) hx)) ⟨x, dx, D, rfl, upd_same, ?_, none_of sD hx, hD⟩
    rw [upd_ne hlx, upd_ne hlx, upd_ne hldx]
    exact hL
def sp_cla_turn (K : PySem.W.Frag) : Sp := fun vs H Q _ => ∃ (v : V) (q : Addr) (c : Cla) (o : List Nat) (N : Addr → Prop), vs = [v, .ref q] ∧ ClaAtN N K H v c ∧ (∀ b, H b = none → N b) ∧ (∀ H', SqT K H' q (ordV o)) ∧ (∀ k ∈ c.conds, CondOk k) ∧ c.conds.length ≤ 1000 ∧ Ord o ∧ ∀ H' v', Same H H' → ClaAtN N K H' v' (c.turn o) → Q v' H'
theorem mp_cla_turn : MonP (sp_cla_turn K) := fun vs H Q Q' E h ⟨v, q, c, o, N, x1, x2, x3, x4, x5, x6, x7, k⟩ => ⟨v, q, c, o, N, x1, x2, x3, x4, x5, x6, x7, fun H' v a b => h _ _ (k H' v a b)⟩
set_option maxHeartbeats 8000000 in
theorem ok_cla_turn (T : Env fa fn K mg) : Good P w K mg base CX0 4 ("Clause", some "reordered") ["self", "order"] (sp_cla_turn K) := by
  have G_Amount_reordered := ok_amt_turn (P := P) (w := w) (base := base) T
  have G_Places_reordered := ok_plc_turn (P := P) (w := w) (base := base) T
  have G_Clause_init := ok_cla_init (P := P) (w := w) (base := base) T
  refine good_mk T 12 (d := d_Clause_reordered) (N := ["self", "order", "one"]) (ps := ["self", "order"]) rfl rfl sc_Clause_reordered (fun _ _ _ _ _ _ us hl => match us, hl with | [_, _], _ => rfl) (fun vs H Q E h => ?_) (fun f cdv A outer σ0 H vs Q E hr h => ?_)
  · obtain ⟨v, q, c, o, N, rfl, _⟩ := h; rfl
  · obtain ⟨v, q, c, o, N, rfl, ⟨p, dx, l, ps, rfl, hp, hl, hNp, hNl, hall⟩, hN, hq, hok, hcl, ho, k⟩ := h
    have cl := T.cls 16
    have cla := T.cls 7
    have clp := T.cls 5
    have n1 := T.noat 59
    have n2 := T.noat 57
    have n3 := T.noat 58
    have m1 := T.noat 56
    refine ⟨_, (pss_one (ps_ret (pe_mkgK K rfl (T.mkr 9) G_Clause_init (hr.mono (by decide)) (T.glo 10) (pa_cons (pe_fldK K rfl (pv 0) rfl) (pa_cons (pe_lc (own := [("one", 2)]) (tt := tYes) rfl sc_Clause_reordered.nd (pi_listK K rfl (pe_fldK K rfl (pv 0) rfl)) (blkOk_by (own := [("one", 2)]) (N := ["self", "order", "one"]) (sc := defScope st_Clause_reordered) (by decide +kernel)) (fun _ _ _ _ _ => by exact (pg_name (i := 2) sc_Clause_reordered.nd rfl (Or.inl rfl))) (fun _ _ _ _ _ => by exact pts_nil) (fun _ _ _ _ _ => by exact (pe_or (pe_mgK K rfl (pv 2) (T.cls 7) (T.meth 12) G_Amount_reordered (hr.mono (by decide)) (pa_cons (pv 1) pa_nil)) (pe_mgK K rfl (pv 2) (T.cls 5) (T.meth 11) G_Places_reordered (hr.mono (by decide)) (pa_cons (pv 1) pa_nil))))) (pa_cons (pe_fldK K rfl (pv 0) rfl) pa_nil)))))), ?_⟩
    walk_at "rd"
    refine rd_make ?_
    walk_at "rd"
    refine ⟨l, rfl, ⟨_, SqL.of hl⟩, fun D hD => ?_⟩
    have sD := fun o => same_upd (o := o) hD
    refine lc_list (K := K) (te := fun σ H Q => tMeth (He.ga K "Amount") "reordered" (sp_amt_turn K) [] E0 (tVar 2) (tCons (tVar 1) tNil) σ H Q ∨ tMeth (He.ga K "Places") "reordered" (sp_plc_turn K) [] E0 (tVar 2) (tCons (tVar 1) tNil) σ H Q) (xs := ps) (fun i H' => Same H H' ∧ ∃ us, H' D = some (.lst us) ∧ AllV (CondAtN (fun b => b ≠ D ∧ N b) K H') us ((c.conds.map (Cond.turn o)).take i)) ?_ ?_ ?_ ?_
    · exact ⟨sD _, [], upd_same, trivial⟩
    · rintro i H' _ ⟨s3, _⟩
      exact SqL.of (s3 _ _ hl)
    · rintro i x H' hx ⟨s3, us, hus, hacc⟩
      obtain ⟨kc, hk, hat⟩ := hall.get hx
      have hi := (List.getElem?_eq_some_iff.mp hk).1
      have hkt : (c.conds.map (Cond.turn o))[i]? = some (kc.turn o) := map_get (Cond.turn o) hk
      have hat' : CondAtN (fun b => b ≠ D ∧ N b) K H x kc := (hat.at.toN hD).and hat
      have hkok := hok kc (List.mem_of_getElem? hk)
      have fin : ∀ (H4 : Hp) (v : V), Same H' H4 → CondAtN (fun b => b ≠ D ∧ N b) K H4 v (kc.turn o) → ∃ acc, H4 D = some (.lst acc) ∧ acc.length < sizeLine ∧ Same H (upd H4 D (.lst (acc ++ [v]))) ∧ ∃ us, (upd H4 D (.lst (acc ++ [v]))) D = some (.lst us) ∧ AllV (CondAtN (fun b => b ≠ D ∧ N b) K (upd H4 D (.lst (acc ++ [v])))) us ((c.conds.map (Cond.turn o)).take (i + 1)) := fun H4 v s4 hv => by
        refine ⟨us, s4 _ _ hus, ?_, Same.put2 (s3.trans s4) hD, us ++ [v], upd_same, ?_⟩
        · have := hacc.len
          rw [List.length_take, List.length_map] at this
          exact small1000 (by omega)
        · rw [take_snoc hkt]
          exact ((hacc.imp fun _ _ h => h.same s4).app hv).imp fun _ _ h => h.upd fun b hb => hb.1
      walk_at "rd"
      refine ⟨rfl, ?_⟩
      have hat3 := hat'.same s3
      cases kc with
      | amt s ns =>
        obtain ⟨pa, da, la, rfl, ha, hla, _⟩ := id hat3
        refine .inl ?_
        walk_at "rd"
        refine rd_methR ha (by rfl) ?_
        walk_at "rd"
        refine ⟨pa, _, rfl, ?_⟩
        exact fin H' _ (Same.refl _) hat3
      | plc ws =>
        obtain ⟨pa, da, la, rfl, ha, hla, _⟩ := id hat3
        refine .inr ?_
        walk_at "rd"
        refine rd_methR ha (by rfl) ?_
        walk_at "rd"
        refine ⟨pa, da, la, q, ws, o, rfl, ha, hla, hq, hkok, ho, fun H4 v s4 hv => ?_⟩
        exact fin H4 v s4 (hv.imp fun b hb => ⟨fun z => (by rw [z, hus] at hb; cases hb), hN b (none_of s3 hb)⟩)
    rintro H3 ⟨s3, us, hus, hacc⟩
    have e : (c.conds.map (Cond.turn o)).take ps.length = c.conds.map (Cond.turn o) := by
      have : ps.length = (c.conds.map (Cond.turn o)).length := by rw [List.length_map]; exact hall.len
      rw [this, List.take_length]
    rw [e] at hacc
    have hp3 := s3 _ _ hp
    walk_at "rd"
    intro x dx' hx hdx hne
    refine ⟨x, dx', D, c.taken, c.made, rfl, upd_same, fun H4 ho' hx4 => ⟨rfl, ?_⟩⟩
    have s4 : Same H3 H4 := fun b o e => by
      rw [ho' b (ne_of_none e hx), upd_ne (ne_of_none e hx), upd_ne (ne_of_none e hdx)]; exact e
    exact k _ _ (s3.trans s4) ⟨x, dx', D, us, rfl, hx4, s4 _ _ hus, hN x (none_of s3 hx), hN D hD, hacc.imp fun _ _ h => (h.same s4).imp fun b hb => hb.2⟩
def sp_turned (K : PySem.W.Frag) (o : List Nat) : Sp := fun vs H Q _ => ∃ (v : V) (cs : List Cla), vs = [v] ∧ RuleAt K H v cs ∧ RuleOk cs ∧ Sz cs ∧ ∀ H' v', Same H H' → RuleAt K H' v' (cs.map (Cla.turn o)) → Q v' H'
theorem mp_turned {o : List Nat} : MonP (sp_turned K o) := fun vs H Q Q' E h ⟨v, cs, x1, x2, x3, x4, k⟩ => ⟨v, cs, x1, x2, x3, x4, fun H' v a b => h _ _ (k H' v a b)⟩
set_option maxHeartbeats 8000000 in
theorem ok_turned_rule (T : Env fa fn K mg) : Good P w K mg base CX0 5 ("turned_rule", none) ["rule"] (sp_turned K LEFT) := by
  have G_Clause_reordered := ok_cla_turn (P := P) (w := w) (base := base) T
  have G_Rule_init := ok_rule_init (P := P) (w := w) (base := base) T
  refine good_mk T 25 (d := d_turned_rule) (N := ["rule", "clause"]) (ps := ["rule"]) rfl rfl sc_turned_rule (fun _ _ _ _ _ _ us hl => match us, hl with | [_], _ => rfl) (fun vs H Q E h => ?_) (fun f cdv A outer σ0 H vs Q E hr h => ?_)
  · obtain ⟨v, cs, rfl, _⟩ := h; rfl
  · obtain ⟨v, cs, rfl, ⟨p, dx, l, ps, rfl, hp, hl, hall⟩, hok, hsz, k⟩ := h
    have cl := T.cls 62
    have clc := T.cls 16
    have n1 := T.noat 61
    have ho : Ord LEFT := .inl rfl
    have hq : ∀ H', SqT K H' (He.ga K "TO_THE_LEFT") (ordV LEFT) := fun H' => T.tup 0 H'
    refine ⟨_, (pss_one (ps_ret (pe_mkgK K rfl (T.mkr 31) G_Rule_init (hr.mono (by decide)) (T.glo 32) (pa_cons (pe_lc (own := [("clause", 1)]) (tt := tYes) rfl sc_turned_rule.nd (pi_listK K rfl (pe_fldK K rfl (pv 0) rfl)) (blkOk_by (own := [("clause", 1)]) (N := ["rule", "clause"]) (sc := defScope st_turned_rule) (by decide +kernel)) (fun _ _ _ _ _ => by exact (pg_name (i := 1) sc_turned_rule.nd rfl (Or.inl rfl))) (fun _ _ _ _ _ => by exact pts_nil) (fun _ _ _ _ _ => by exact (pe_mgK K rfl (pv 1) (T.cls 16) (T.meth 35) G_Clause_reordered (hr.mono (by decide)) (pa_cons (pe_grefK K rfl (T.glo 36) rfl) pa_nil)))) pa_nil)))), ?_⟩
    walk_at "rd"
    refine rd_make ?_
    walk_at "rd"
    refine ⟨l, rfl, ⟨_, SqL.of hl⟩, fun D hD => ?_⟩
    have sD := fun o => same_upd (o := o) hD
    refine lc_list (K := K) (xs := ps) (fun i H' => Same H H' ∧ ∃ us, H' D = some (.lst us) ∧ AllV (ClaAtN (fun b => b ≠ D) K H') us ((cs.map (Cla.turn LEFT)).take i)) ?_ ?_ ?_ ?_
    · exact ⟨sD _, [], upd_same, trivial⟩
    · rintro i H' _ ⟨s3, _⟩
      exact SqL.of (s3 _ _ hl)
    · rintro i x H' hx ⟨s3, us, hus, hacc⟩
      obtain ⟨c, hk, hat⟩ := hall.get hx
      have hi := (List.getElem?_eq_some_iff.mp hk).1
      have hkt : (cs.map (Cla.turn LEFT))[i]? = some (c.turn LEFT) := map_get (Cla.turn LEFT) hk
      have hcm := List.mem_of_getElem? hk
      have hat3 := (hat.toN hD).same s3
      obtain ⟨pa, da, la, qa, rfl, ha, _⟩ := id hat3
      walk_at "rd"
      refine ⟨rfl, ?_⟩
      walk_at "rd"
      refine rd_methR ha (by rfl) ?_
      walk_at "rd"
      refine ⟨_, _, c, LEFT, fun b => b ≠ D, rfl, hat3, fun b hb z => (by rw [z, hus] at hb; cases hb), hq, hok c hcm, hsz.2 c hcm, ho, fun H4 v s4 hv => ?_⟩
      refine ⟨us, s4 _ _ hus, ?_, Same.put2 (s3.trans s4) hD, us ++ [v], upd_same, ?_⟩
      · have := hacc.len
        rw [List.length_take, List.length_map] at this
        have := hsz.1
        exact small1000 (by omega)
      · rw [take_snoc hkt]
        exact ((hacc.imp fun _ _ h => h.same s4).app hv).imp fun _ _ h => h.upd fun b hb => hb
    rintro H3 ⟨s3, us, hus, hacc⟩
    have e : (cs.map (Cla.turn LEFT)).take ps.length = cs.map (Cla.turn LEFT) := by
      have : ps.length = (cs.map (Cla.turn LEFT)).length := by rw [List.length_map]; exact hall.len
      rw [this, List.take_length]
    rw [e] at hacc
    walk_at "rd"
    intro x dx' hx hdx hne
    refine ⟨x, dx', D, rfl, upd_same, rfl, ?_⟩
    have s2 : Same H3 (upd (upd (upd H3 dx' (.own x)) x (.ins (He.ga K "Rule") dx' [])) x (.ins (He.ga K "Rule") dx' [("clauses", .ref D)])) := Same.put2 (made_same2 hx hdx) hx
    exact k _ _ (s3.trans s2) ⟨x, dx', D, us, rfl, upd_same, s2 _ _ hus, hacc.imp fun _ _ h => (h.same s2).at⟩
set_option maxHeartbeats 8000000 in
theorem ok_mirrored_rule (T : Env fa fn K mg) : Good P w K mg base CX0 5 ("mirrored_rule", none) ["rule"] (sp_turned K GLASS) := by
  have G_Clause_reordered := ok_cla_turn (P := P) (w := w) (base := base) T
  have G_Rule_init := ok_rule_init (P := P) (w := w) (base := base) T
  refine good_mk T 26 (d := d_mirrored_rule) (N := ["rule", "clause"]) (ps := ["rule"]) rfl rfl sc_mirrored_rule (fun _ _ _ _ _ _ us hl => match us, hl with | [_], _ => rfl) (fun vs H Q E h => ?_) (fun f cdv A outer σ0 H vs Q E hr h => ?_)
  · obtain ⟨v, cs, rfl, _⟩ := h; rfl
  · obtain ⟨v, cs, rfl, ⟨p, dx, l, ps, rfl, hp, hl, hall⟩, hok, hsz, k⟩ := h
    have cl := T.cls 62
    have clc := T.cls 16
    have n1 := T.noat 61
    have ho : Ord GLASS := .inr rfl
    have hq : ∀ H', SqT K H' (He.ga K "IN_THE_MIRROR") (ordV GLASS) := fun H' => T.tup 1 H'
    refine ⟨_, (pss_one (ps_ret (pe_mkgK K rfl (T.mkr 31) G_Rule_init (hr.mono (by decide)) (T.glo 32) (pa_cons (pe_lc (own := [("clause", 1)]) (tt := tYes) rfl sc_mirrored_rule.nd (pi_listK K rfl (pe_fldK K rfl (pv 0) rfl)) (blkOk_by (own := [("clause", 1)]) (N := ["rule", "clause"]) (sc := defScope st_mirrored_rule) (by decide +kernel)) (fun _ _ _ _ _ => by exact (pg_name (i := 1) sc_mirrored_rule.nd rfl (Or.inl rfl))) (fun _ _ _ _ _ => by exact pts_nil) (fun _ _ _ _ _ => by exact (pe_mgK K rfl (pv 1) (T.cls 16) (T.meth 35) G_Clause_reordered (hr.mono (by decide)) (pa_cons (pe_grefK K rfl (T.glo 37) rfl) pa_nil)))) pa_nil)))), ?_⟩
    walk_at "rd"
    refine rd_make ?_
    walk_at "rd"
    refine ⟨l, rfl, ⟨_, SqL.of hl⟩, fun D hD => ?_⟩
    have sD := fun o => same_upd (o := o) hD
    refine lc_list (K := K) (xs := ps) (fun i H' => Same H H' ∧ ∃ us, H' D = some (.lst us) ∧ AllV (ClaAtN (fun b => b ≠ D) K H') us ((cs.map (Cla.turn GLASS)).take i)) ?_ ?_ ?_ ?_
    · exact ⟨sD _, [], upd_same, trivial⟩
    · rintro i H' _ ⟨s3, _⟩
      exact SqL.of (s3 _ _ hl)
    · rintro i x H' hx ⟨s3, us, hus, hacc⟩
      obtain ⟨c, hk, hat⟩ := hall.get hx
      have hi := (List.getElem?_eq_some_iff.mp hk).1
      have hkt : (cs.map (Cla.turn GLASS))[i]? = some (c.turn GLASS) := map_get (Cla.turn GLASS) hk
      have hcm := List.mem_of_getElem? hk
      have hat3 := (hat.toN hD).same s3
      obtain ⟨pa, da, la, qa, rfl, ha, _⟩ := id hat3
      walk_at "rd"
      refine ⟨rfl, ?_⟩
      walk_at "rd"
      refine rd_methR ha (by rfl) ?_
      walk_at "rd"
      refine ⟨_, _, c, GLASS, fun b => b ≠ D, rfl, hat3, fun b hb z => (by rw [z, hus] at hb; cases hb), hq, hok c hcm, hsz.2 c hcm, ho, fun H4 v s4 hv => ?_⟩
      refine ⟨us, s4 _ _ hus, ?_, Same.put2 (s3.trans s4) hD, us ++ [v], upd_same, ?_⟩
      · have := hacc.len
        rw [List.length_take, List.length_map] at this
        have := hsz.1
        exact small1000 (by omega)
      · rw [take_snoc hkt]
        exact ((hacc.imp fun _ _ h => h.same s4).app hv).imp fun _ _ h => h.upd fun b hb => hb
    rintro H3 ⟨s3, us, hus, hacc⟩
    have e : (cs.map (Cla.turn GLASS)).take ps.length = cs.map (Cla.turn GLASS) := by
      have : ps.length = (cs.map (Cla.turn GLASS)).length := by rw [List.length_map]; exact hall.len
      rw [this, List.take_length]
    rw [e] at hacc
    walk_at "rd"
    intro x dx' hx hdx hne
    refine ⟨x, dx', D, rfl, upd_same, rfl, ?_⟩
    have s2 : Same H3 (upd (upd (upd H3 dx' (.own x)) x (.ins (He.ga K "Rule") dx' [])) x (.ins (He.ga K "Rule") dx' [("clauses", .ref D)])) := Same.put2 (made_same2 hx hdx) hx
    exact k _ _ (s3.trans s2) ⟨x, dx', D, us, rfl, upd_same, s2 _ _ hus, hacc.imp fun _ _ h => (h.same s2).at⟩
end
end JF

/-! ### rules written -/
namespace JF
open PySem PySem.Spec PyProof.Rows L2
section
variable {P : Program} {w : World} {K : PySem.W.Frag} {mg : Str → Option Value} {base : Heap}
def sp_wst : Sp := fun vs H Q _ => ∃ s : Option Int, vs = [optV s] ∧ WishW s ∧ Q (.str (tx [wishT s])) H
theorem mp_wst : MonP sp_wst := fun vs H Q Q' E h ⟨s, x1, x2, q⟩ => ⟨s, x1, x2, h _ _ q⟩
theorem str_wish {s : Int} (h : St s) : Str.ofString (toString s) = tx [wishT (some s)] := by
  unfold St at h
  obtain ⟨n, hn⟩ := nat_of h.1
  exact str_tx (by rw [hn, tl_int (by omega)]; show _ = [48 + (n : Int).toNat]; rw [Int.toNat_natCast])
theorem ok_wst (T : Env fa fn K mg) : Good P w K mg base CX0 1 ("written_state", none) ["state"] sp_wst := by
  refine good_mk T 14 (d := d_written_state) (N := ["state"]) (ps := ["state"]) rfl rfl sc_written_state (fun _ _ _ _ _ _ us hl => match us, hl with | [_], _ => rfl) (fun vs H Q E h => ?_) (fun f cdv A outer σ0 H vs Q E hr h => ?_)
  · obtain ⟨s, rfl, _⟩ := h; rfl
  · obtain ⟨s, rfl, hs, k⟩ := h
    refine ⟨_, (pss_cons (ps_if (pt_cmpR op_isN (pv 0) pe_non (nomark _)) (pss_one (ps_ret pe_str)) pss_nil)
      (pss_one (ps_ret (pe_callTy call_str_int (by rfl) (T.free 0) (by decide +kernel) (pa_cons (pv 0) pa_nil))))), ?_⟩
    cases s with
    | none =>
      walk_at "rd"
      refine iteT ?_
      walk_at "rd"
      have e : Str.ofString "*" = tx [wishT none] := by decide +kernel
      rw [e]
      exact k
    | some s =>
      have hs' : St s := hs
      walk_at "rd"
      refine iteF ?_
      walk_at "rd"
      refine ⟨s, rfl, log_ok (by unfold St at hs'; omega), ?_⟩
      rw [str_wish hs']
      exact k
def sp_amt_written (K : PySem.W.Frag) : Sp := fun vs H Q _ => ∃ (p dx l : Addr) (s : Int) (ns : List Int), vs = [.ref p] ∧ H p = some (.ins (He.ga K "Amount") dx [("state", .int s), ("numbers", .ref l)]) ∧ H l = some (.lst (ns.map V.int)) ∧ CondW (.amt s ns) ∧ ∀ H', Same H H' → Q (.str (tx (condT (.amt s ns)))) H'
theorem mp_amt_written : MonP (sp_amt_written K) := fun vs H Q Q' E h ⟨p, dx, l, s, ns, x1, x2, x3, x4, k⟩ => ⟨p, dx, l, s, ns, x1, x2, x3, x4, fun H' a => h _ _ (k H' a)⟩
theorem ok_amt_written (T : Env fa fn K mg) : Good P w K mg base CX0 1 ("Amount", some "written") ["self"] (sp_amt_written K) := by
  refine good_mk T 5 (d := d_Amount_written) (N := ["self", "number"]) (ps := ["self"]) rfl rfl sc_Amount_written (fun _ _ _ _ _ _ us hl => match us, hl with | [_], _ => rfl) (fun vs H Q E h => ?_) (fun f cdv A outer σ0 H vs Q E hr h => ?_)
  · obtain ⟨p, dx, l, s, ns, rfl, _⟩ := h; rfl
  · obtain ⟨p, dx, l, s, nu, rfl, hp, hl, ⟨hs, hne, nm, hinc⟩, k⟩ := h
    have hsz := sizeBig
    have cl := T.cls 7
    have n1 := T.noat 56
    have n2 := T.noat 55
    have nlen := amt_len nm hinc
    refine ⟨_, (pss_one (ps_ret (pe_op op_add_str (pe_op op_add_str (pe_callTy call_str_int (by rfl) (T.free 0) (by decide +kernel) (pa_cons (pe_fldK K rfl (pv 0) rfl) pa_nil)) pe_str) (pe_join pe_str (pe_lc (own := [("number", 1)]) (tt := tYes) rfl sc_Amount_written.nd (pi_listK K rfl (pe_fldK K rfl (pv 0) rfl)) (blkOk_by (own := [("number", 1)]) (N := ["self", "number"]) (sc := defScope st_Amount_written) (by decide +kernel)) (fun _ _ _ _ _ => by exact (pg_name (i := 1) sc_Amount_written.nd rfl (Or.inl rfl))) (fun _ _ _ _ _ => by exact pts_nil) (fun _ _ _ _ _ => by exact (pe_callTy call_str_int (by rfl) (T.free 0) (by decide +kernel) (pa_cons (pv 1) pa_nil)))))))), ?_⟩
    walk_at "rd"
    refine ⟨s, rfl, log_ok (by have := hs.1; have := hs.2; omega), ?_⟩
    walk_at "rd"
    have e0 : TL.tl (Str.ofString (toString s)) = [48 + s.toNat] := by rw [str_wish hs]; rfl
    generalize Str.ofString (toString s) = z0 at e0 ⊢
    have eeq : TL.tl (Str.ofString "=") = [61] := by decide +kernel
    refine ⟨_, _, rfl, rfl, add_ok (by rw [e0, eeq]; simp), ?_⟩
    have e1 : TL.tl (z0 ++ Str.ofString "=") = [48 + s.toNat, 61] := by rw [TL.tl_append, e0, eeq]; rfl
    generalize z0 ++ Str.ofString "=" = z1 at e1 ⊢
    walk_at "rd"
    refine rd_m1 ?_
    walk_at "rd"
    refine rd_st ?_
    walk_at "rd"
    refine ⟨l, rfl, ⟨_, SqL.of hl⟩, fun D hD => ?_⟩
    refine lc_list (K := K) (xs := nu.map V.int) (fun i H' => H' = upd H D (.lst ((nu.take i).map fun n => V.str (Str.ofString (toString n))))) rfl (fun i H' _ e => SqL.of (by rw [e]; exact (same_upd hD) _ _ hl)) ?_ ?_
    · rintro i x H' hx rfl
      obtain ⟨c, hc, rfl⟩ : ∃ c, nu[i]? = some c ∧ x = .int c := by
        rw [List.getElem?_map] at hx
        cases e : nu[i]? with
        | none => rw [e] at hx; cases hx
        | some c => rw [e] at hx; exact ⟨c, rfl, (Option.some.inj hx).symm⟩
      have hb := nm c (List.mem_of_getElem? hc)
      have hi := (List.getElem?_eq_some_iff.mp hc).1
      walk_at "rd"
      refine ⟨rfl, ?_⟩
      walk_at "rd"
      refine ⟨c, rfl, log_ok (by omega), ?_⟩
      refine ⟨_, upd_same, ?_, ?_⟩
      · rw [List.length_map, List.length_take]; exact small1000 (by omega)
      · rw [upd_upd, take_snoc hc, List.map_append]; rfl
    rintro H3 rfl
    rw [List.length_map, List.take_length]
    have s3 := same_upd (o := .lst (nu.map fun n => V.str (Str.ofString (toString n)))) hD
    have LD : (upd H D (.lst (nu.map fun n => V.str (Str.ofString (toString n))))) D = some (.lst ((nu.map fun n => Str.ofString (toString n)).map V.str)) := by rw [upd_same, List.map_map]; rfl
    generalize upd H D (.lst (nu.map fun n => V.str (Str.ofString (toString n)))) = H3 at s3 LD ⊢
    walk_at "rd"
    have tlys : (nu.map fun n => Str.ofString (toString n)).map TL.tl = nu.map fun n => [48 + n.toNat] := by
      rw [List.map_map]
      refine List.map_congr_left fun n hn => ?_
      have hb := nm n hn
      obtain ⟨d, rfl⟩ : ∃ d : Nat, n = (d : Int) := ⟨n.toNat, by omega⟩
      show TL.tl (Str.ofString (toString (d : Int))) = _
      rw [tl_int (by omega), Int.toNat_natCast]
    have lys : ((nu.map fun n => Str.ofString (toString n)).map (·.length)).sum ≤ 9 := by
      have e : (nu.map fun n => Str.ofString (toString n)).map (·.length) = ((nu.map fun n => Str.ofString (toString n)).map TL.tl).map List.length := by
        rw [List.map_map (f := TL.tl)]
        refine List.map_congr_left fun z _ => TL.len_tl z
      rw [e, tlys, List.map_map]
      have e' := sum_len nu
      rw [e']; exact nlen
    refine ⟨_, D, _, rfl, rfl, .inl (SqL.of LD), ?_, ?_⟩
    · rw [List.length_map]
      have e : (Str.ofString "").length = 0 := by decide +kernel
      rw [e]; omega
    have ej : TL.tl (Txt.join (Str.ofString "") (nu.map fun n => Str.ofString (toString n))) = numT nu := by
      rw [TL.join_eq, TL.tl_join, tlys]
      have e : TL.tl (Str.ofString "") = [] := by decide +kernel
      rw [e]
      exact join_one nu
    generalize Txt.join (Str.ofString "") (nu.map fun n => Str.ofString (toString n)) = zj at ej ⊢
    have lnum : (numT nu).length = nu.length := List.length_map _
    walk_at "rd"
    refine ⟨_, _, rfl, rfl, add_ok (by rw [e1, ej, lnum]; simp only [List.length_cons, List.length_nil]; omega), ?_⟩
    have e4 : z1 ++ zj = tx (condT (.amt s nu)) := str_tx (by rw [TL.tl_append, e1, ej]; rfl)
    rw [e4]
    exact k _ s3
def sp_plc_written (K : PySem.W.Frag) : Sp := fun vs H Q _ => ∃ (p dx l : Addr) (ws : List (Option Int)), vs = [.ref p] ∧ H p = some (.ins (He.ga K "Places") dx [("wanted", .ref l)]) ∧ H l = some (.lst (ws.map optV)) ∧ CondW (.plc ws) ∧ ∀ H', Same H H' → Q (.str (tx (condT (.plc ws)))) H'
theorem mp_plc_written : MonP (sp_plc_written K) := fun vs H Q Q' E h ⟨p, dx, l, ws, x1, x2, x3, x4, k⟩ => ⟨p, dx, l, ws, x1, x2, x3, x4, fun H' a => h _ _ (k H' a)⟩
theorem ok_plc_written (T : Env fa fn K mg) : Good P w K mg base CX0 2 ("Places", some "written") ["self"] (sp_plc_written K) := by
  have G_written_state := ok_wst (P := P) (w := w) (base := base) T
  refine good_mk T 9 (d := d_Places_written) (N := ["self", "wish"]) (ps := ["self"]) rfl rfl sc_Places_written (fun _ _ _ _ _ _ us hl => match us, hl with | [_], _ => rfl) (fun vs H Q E h => ?_) (fun f cdv A outer σ0 H vs Q E hr h => ?_)
  · obtain ⟨p, dx, l, ws, rfl, _⟩ := h; rfl
  · obtain ⟨p, dx, l, ws, rfl, hp, hl, ⟨hw8, hwb⟩, k⟩ := h
    have cl := T.cls 5
    have n1 := T.noat 60
    refine ⟨_, (pss_one (ps_ret (pe_join pe_str (pe_lc (own := [("wish", 1)]) (tt := tYes) rfl sc_Places_written.nd (pi_listK K rfl (pe_fldK K rfl (pv 0) rfl)) (blkOk_by (own := [("wish", 1)]) (N := ["self", "wish"]) (sc := defScope st_Places_written) (by decide +kernel)) (fun _ _ _ _ _ => by exact (pg_name (i := 1) sc_Places_written.nd rfl (Or.inl rfl))) (fun _ _ _ _ _ => by exact pts_nil) (fun _ _ _ _ _ => by exact (pe_cgK K rfl G_written_state (hr.mono (by decide)) (T.glo 4) (pa_cons (pv 1) pa_nil))))))), ?_⟩
    walk_at "rd"
    refine rd_m1 ?_
    walk_at "rd"
    refine rd_st ?_
    walk_at "rd"
    refine ⟨l, rfl, ⟨_, SqL.of hl⟩, fun D hD => ?_⟩
    refine lc_list (K := K) (xs := ws.map optV) (fun i H' => H' = upd H D (.lst ((ws.take i).map fun w => V.str (tx [wishT w])))) rfl (fun i H' _ e => SqL.of (by rw [e]; exact (same_upd hD) _ _ hl)) ?_ ?_
    · rintro i x H' hx rfl
      obtain ⟨c, hc, rfl⟩ : ∃ c, ws[i]? = some c ∧ x = optV c := by
        rw [List.getElem?_map] at hx
        cases e : ws[i]? with
        | none => rw [e] at hx; cases hx
        | some c => rw [e] at hx; exact ⟨c, rfl, (Option.some.inj hx).symm⟩
      have hi := (List.getElem?_eq_some_iff.mp hc).1
      walk_at "rd"
      refine ⟨rfl, ?_⟩
      walk_at "rd"
      refine ⟨c, rfl, hwb c (List.mem_of_getElem? hc), ?_⟩
      refine ⟨_, upd_same, ?_, ?_⟩
      · rw [List.length_map, List.length_take]; exact small1000 (by omega)
      · rw [upd_upd, take_snoc hc, List.map_append]; rfl
    rintro H3 rfl
    rw [List.length_map, List.take_length]
    have s3 := same_upd (o := .lst (ws.map fun w => V.str (tx [wishT w]))) hD
    have LD : (upd H D (.lst (ws.map fun w => V.str (tx [wishT w])))) D = some (.lst (((ws.map fun w => [wishT w]).map tx).map V.str)) := by rw [upd_same, List.map_map, List.map_map]; rfl
    generalize upd H D (.lst (ws.map fun w => V.str (tx [wishT w]))) = H3 at s3 LD ⊢
    walk_at "rd"
    refine ⟨_, D, _, rfl, rfl, .inl (SqL.of LD), ?_, ?_⟩
    · have e := sum_tx (B := 1) (ws := ws.map fun w => [wishT w]) fun w hw => by
        obtain ⟨c, hc, rfl⟩ := List.mem_map.mp hw
        exact Nat.le_refl 1
      have e1 : (Str.ofString "").length = 0 := by decide +kernel
      rw [List.length_map] at e
      rw [List.length_map, e1]
      omega
    have e0 : TL.tl (Str.ofString "") = [] := by decide +kernel
    rw [join_tx e0]
    have e2 : TL.joinL [] (ws.map fun w => [wishT w]) = condT (.plc ws) := by
      have := join_ones (ws.map wishT)
      rw [List.map_map] at this
      exact this
    rw [e2]
    exact k _ s3
def sp_cla_written (K : PySem.W.Frag) : Sp := fun vs H Q _ => ∃ (v : V) (c : Cla), vs = [v] ∧ ClaAt K H v c ∧ ClaW c ∧ c.conds.length ≤ 8 ∧ ∀ H', Same H H' → Q (.str (tx (claT c))) H'
theorem mp_cla_written : MonP (sp_cla_written K) := fun vs H Q Q' E h ⟨v, c, x1, x2, x3, x4, k⟩ => ⟨v, c, x1, x2, x3, x4, fun H' a => h _ _ (k H' a)⟩
set_option maxHeartbeats 8000000 in
theorem ok_cla_written (T : Env fa fn K mg) : Good P w K mg base CX0 3 ("Clause", some "written") ["self"] (sp_cla_written K) := by
  have G_written_state := ok_wst (P := P) (w := w) (base := base) T
  have G_Amount_written := ok_amt_written (P := P) (w := w) (base := base) T
  have G_Places_written := ok_plc_written (P := P) (w := w) (base := base) T
  refine good_mk T 13 (d := d_Clause_written) (N := ["self", "words", "condition"]) (ps := ["self"]) rfl rfl sc_Clause_written (fun _ _ _ _ _ _ us hl => match us, hl with | [_], _ => rfl) (fun vs H Q E h => ?_) (fun f cdv A outer σ0 H vs Q E hr h => ?_)
  · obtain ⟨v, c, rfl, _⟩ := h; rfl
  · obtain ⟨v, c, rfl, ⟨p, dx, l, ps, rfl, hp, hl, hall⟩, hcw, h8, k⟩ := h
    have cl := T.cls 16
    have cla := T.cls 7
    have clp := T.cls 5
    have n1 := T.noat 59
    have n2 := T.noat 57
    have n3 := T.noat 58
    refine ⟨_, (pss_cons (ps_set (i := 1) sc_Clause_written.nd rfl (Or.inl rfl) (pe_lst (pa_cons (pe_cgK K rfl G_written_state (hr.mono (by decide)) (T.glo 4) (pa_cons (pe_fldK K rfl (pv 0) rfl) pa_nil)) pa_nil)))
      (pss_cons (ps_for PassesOwn.never rfl (pi_listK K rfl (pe_fldK K rfl (pv 0) rfl)) (pg_name (i := 2) sc_Clause_written.nd rfl (Or.inl rfl)) (pss_one (ps_expr (pe_bm PySem.F.plainAttrs_list PySem.F.slot_list_append PySem.F.type_list_append mt_append (pv 1) (pa_cons (pe_or (pe_mg0K K rfl (pv 2) (T.cls 7) (T.meth 14) G_Amount_written (hr.mono (by decide))) (pe_mg0K K rfl (pv 2) (T.cls 5) (T.meth 13) G_Places_written (hr.mono (by decide)))) pa_nil)))))
      (pss_cons (ps_expr (pe_bm PySem.F.plainAttrs_list PySem.F.slot_list_append PySem.F.type_list_append mt_append (pv 1) (pa_cons (pe_cgK K rfl G_written_state (hr.mono (by decide)) (T.glo 4) (pa_cons (pe_fldK K rfl (pv 0) rfl) pa_nil)) pa_nil)))
      (pss_one (ps_ret (pe_join pe_str (pv 1))))))), ?_⟩
    walk_at "rd"
    refine ⟨c.taken, rfl, hcw.1, ?_⟩
    walk_at "rd"
    refine rd_new (hn := by show 1 ≤ sizeLine; decide) fun q hq => ?_
    have s0 := same_upd (o := .lst [V.str (tx [wishT c.taken])]) hq
    have L0 : (upd H q (.lst [V.str (tx [wishT c.taken])])) q = some (.lst [V.str (tx [wishT c.taken])]) := upd_same
    generalize upd H q (.lst [V.str (tx [wishT c.taken])]) = H0 at s0 L0 ⊢
    have hp0 := s0 _ _ hp
    walk_at "rd"
    refine ⟨l, rfl, ⟨_, SqL.of (s0 _ _ hl)⟩, ?_⟩
    refine for_it (walk_list (xs := ps)) (fun i σ H' => Same H H' ∧ H' q = some (.lst (V.str (tx [wishT c.taken]) :: (c.conds.take i).map fun k => V.str (tx (condT k)))) ∧ ∃ x2 : Option V, σ = [some (.ref p), some (.ref q), x2]) ⟨s0, L0, none, rfl⟩ ?_ ?_ ?_
    · rintro i σ H' _ ⟨s1, _⟩
      exact SqL.of (s1 _ _ hl)
    · rintro i x σ Ha Hb hi ⟨s1, h1, x2, rfl⟩ ⟨rfl, hx⟩
      obtain ⟨kc, hk, hat⟩ := hall.get hx
      have hat1 := hat.same s1
      have hkw := hcw.2.1 kc (List.mem_of_getElem? hk)
      have hi' := (List.getElem?_eq_some_iff.mp hk).1
      have hlt : (V.str (tx [wishT c.taken]) :: (c.conds.take i).map fun k => V.str (tx (condT k))).length < sizeLine := by
        rw [List.length_cons, List.length_map, List.length_take]; exact small1000 (by omega)
      have fin : ∀ H4, Same Hb H4 → (Same H (upd H4 q (.lst ((V.str (tx [wishT c.taken]) :: (c.conds.take i).map fun k => V.str (tx (condT k))) ++ [V.str (tx (condT kc))]))) ∧ (upd H4 q (.lst ((V.str (tx [wishT c.taken]) :: (c.conds.take i).map fun k => V.str (tx (condT k))) ++ [V.str (tx (condT kc))]))) q = some (.lst (V.str (tx [wishT c.taken]) :: (c.conds.take (i + 1)).map fun k => V.str (tx (condT k)))) ∧ ∃ y : Option V, [some (.ref p), some (.ref q), some x] = [some (.ref p), some (.ref q), y]) := fun H4 s4 =>
        ⟨Same.put2 (s1.trans s4) hq, by rw [upd_same, take_snoc hk, List.map_append]; rfl, _, rfl⟩
      walk_at "rd"
      refine rd_tyL h1 ?_
      cases kc with
      | amt s ns =>
        obtain ⟨pa, da, la, rfl, ha, hla⟩ := hat1
        refine .inl ?_
        walk_at "rd"
        refine rd_methR ha (by rfl) ?_
        walk_at "rd"
        refine ⟨pa, da, la, s, ns, rfl, ha, hla, hkw, fun H4 s4 => ?_⟩
        walk_at "rd"
        refine rd_append (s4 _ _ h1) hlt ?_
        walk_at "rd"
        exact fin H4 s4
      | plc ws =>
        obtain ⟨pa, da, la, rfl, ha, hla⟩ := hat1
        refine .inr ?_
        walk_at "rd"
        refine rd_methR ha (by rfl) ?_
        walk_at "rd"
        refine ⟨pa, da, la, ws, rfl, ha, hla, hkw, fun H4 s4 => ?_⟩
        walk_at "rd"
        refine rd_append (s4 _ _ h1) hlt ?_
        walk_at "rd"
        exact fin H4 s4
    · rintro σ H' ⟨s1, h1, x2, rfl⟩
      have hpl : ps.length = c.conds.length := hall.len
      rw [hpl, List.take_length] at h1
      have hp1 := s1 _ _ hp
      walk_at "rd"
      refine rd_tyL h1 ?_
      walk_at "rd"
      refine ⟨some c.made, rfl, hcw.2.2, ?_⟩
      walk_at "rd"
      refine rd_append h1 (by rw [List.length_cons, List.length_map]; exact small1000 (by omega)) ?_
      have eW : (V.str (tx [wishT c.taken]) :: c.conds.map fun k => V.str (tx (condT k))) ++ [V.str (tx [wishT (some c.made)])] = ((claW c).map tx).map V.str := by
        simp [claW, List.map_map, Function.comp_def, wishT]
      rw [eW]
      have L7 : (upd H' q (.lst (((claW c).map tx).map V.str))) q = some (.lst (((claW c).map tx).map V.str)) := upd_same
      have s7 : Same H (upd H' q (.lst (((claW c).map tx).map V.str))) := Same.put2 s1 hq
      generalize upd H' q (.lst (((claW c).map tx).map V.str)) = H7 at s7 L7 ⊢
      walk_at "rd"
      refine rd_m1 ?_
      walk_at "rd"
      refine rd_st ?_
      walk_at "rd"
      refine ⟨_, q, _, rfl, rfl, .inl (SqL.of L7), ?_, ?_⟩
      · have e := sum_tx (len_word hcw h8)
        have e1 : (Str.ofString " ").length = 1 := by decide +kernel
        have hwl : (claW c).length = c.conds.length + 2 := by simp [claW]
        rw [List.length_map, e1]
        omega
      rw [join_tx tl_space]
      exact k _ s7
def sp_shown (K : PySem.W.Frag) : Sp := fun vs H Q _ => ∃ (v : V) (cs : List Cla), vs = [v] ∧ RuleAt K H v cs ∧ (∀ c ∈ cs, ClaW c ∧ c.conds.length ≤ 8) ∧ cs.length ≤ 100 ∧ ∀ H', Same H H' → Q (.str (tx (ruleT cs))) H'
theorem mp_shown : MonP (sp_shown K) := fun vs H Q Q' E h ⟨v, cs, x1, x2, x3, x4, k⟩ => ⟨v, cs, x1, x2, x3, x4, fun H' a => h _ _ (k H' a)⟩
set_option maxHeartbeats 8000000 in
theorem ok_shown (T : Env fa fn K mg) : Good P w K mg base CX0 4 ("shown_rule", none) ["rule"] (sp_shown K) := by
  have G_Clause_written := ok_cla_written (P := P) (w := w) (base := base) T
  refine good_mk T 24 (d := d_shown_rule) (N := ["rule", "clause"]) (ps := ["rule"]) rfl rfl sc_shown_rule (fun _ _ _ _ _ _ us hl => match us, hl with | [_], _ => rfl) (fun vs H Q E h => ?_) (fun f cdv A outer σ0 H vs Q E hr h => ?_)
  · obtain ⟨v, cs, rfl, _⟩ := h; rfl
  · obtain ⟨v, cs, rfl, ⟨p, dx, l, ps, rfl, hp, hl, hall⟩, hw, hcl, k⟩ := h
    have cl := T.cls 62
    have clc := T.cls 16
    have n1 := T.noat 61
    refine ⟨_, (pss_one (ps_ret (pe_join pe_str (pe_lc (own := [("clause", 1)]) (tt := tYes) rfl sc_shown_rule.nd (pi_listK K rfl (pe_fldK K rfl (pv 0) rfl)) (blkOk_by (own := [("clause", 1)]) (N := ["rule", "clause"]) (sc := defScope st_shown_rule) (by decide +kernel)) (fun _ _ _ _ _ => by exact (pg_name (i := 1) sc_shown_rule.nd rfl (Or.inl rfl))) (fun _ _ _ _ _ => by exact pts_nil) (fun _ _ _ _ _ => by exact (pe_mg0K K rfl (pv 1) (T.cls 16) (T.meth 34) G_Clause_written (hr.mono (by decide)))))))), ?_⟩
    walk_at "rd"
    refine rd_m1 ?_
    walk_at "rd"
    refine rd_st ?_
    walk_at "rd"
    refine ⟨l, rfl, ⟨_, SqL.of hl⟩, fun D hD => ?_⟩
    have sD := fun o => same_upd (o := o) hD
    refine lc_list (K := K) (xs := ps) (fun i H' => Same H H' ∧ H' D = some (.lst ((cs.take i).map fun c => V.str (tx (claT c))))) ⟨sD _, upd_same⟩ ?_ ?_ ?_
    · rintro i H' _ ⟨s3, _⟩
      exact SqL.of (s3 _ _ hl)
    · rintro i x H' hx ⟨s3, h3⟩
      obtain ⟨c, hk, hat⟩ := hall.get hx
      have hi := (List.getElem?_eq_some_iff.mp hk).1
      have hat3 := hat.same s3
      obtain ⟨pa, da, la, qa, rfl, ha, _⟩ := id hat3
      walk_at "rd"
      refine ⟨rfl, ?_⟩
      walk_at "rd"
      refine rd_methR ha (by rfl) ?_
      walk_at "rd"
      obtain ⟨hcw, h8⟩ := hw c (List.mem_of_getElem? hk)
      refine ⟨_, c, rfl, hat3, hcw, h8, fun H4 s4 => ?_⟩
      refine ⟨_, s4 _ _ h3, ?_, Same.put2 (s3.trans s4) hD, ?_⟩
      · rw [List.length_map, List.length_take]; exact small1000 (by omega)
      · rw [upd_same, take_snoc hk, List.map_append]; rfl
    rintro H3 ⟨s3, LD⟩
    have hpl : ps.length = cs.length := hall.len
    rw [hpl, List.take_length] at LD
    have e1 : (cs.map fun c => V.str (tx (claT c))) = ((cs.map claT).map tx).map V.str := by simp only [List.map_map, Function.comp_def]
    rw [e1] at LD
    walk_at "rd"
    refine ⟨_, D, _, rfl, rfl, .inl (SqL.of LD), ?_, ?_⟩
    · have e := sum_tx (B := 120) (ws := cs.map claT) fun w hw' => by
        obtain ⟨c, hc, rfl⟩ := List.mem_map.mp hw'
        exact claT_len (hw c hc).1 (hw c hc).2
      have e1 : (Str.ofString "; ").length = 2 := by decide +kernel
      rw [List.length_map] at e
      rw [List.length_map, List.length_map, e1]
      omega
    rw [join_tx tl_semi2]
    exact k _ s3
end
end JF

namespace JF
open PySem PySem.Spec PyProof.Rows L2
theorem LCond.toN {H : Hp} {v : V} {c : Cond} {N : Addr → Prop} (h : LCond H v c) (k : ∀ b xs, H b = some (.lst xs) → N b) : LCondN N H v c := by
  cases c with
  | amt s ns => obtain ⟨t, l, e, h1, h2⟩ := h; exact ⟨t, l, e, h1, h2, k _ _ h2⟩
  | plc ws => obtain ⟨t, l, wv, e, h1, h2, h3⟩ := h; exact ⟨t, l, wv, e, h1, h2, k _ _ h2, h3⟩
theorem LClas.same {H H' : Hp} {us : List V} {cs : List Cla} (h : LClas H us cs) (s : Same H H') : LClas H' us cs := ⟨h.1.imp fun _ _ h => h.same s, h.2⟩
theorem LClas.rule {H : Hp} {us : List V} {cs : List Cla} (h : LClas H us cs) : RuleOk cs := fun c hc k hk => ((h.2.1 c hc).1.2.1 k hk).ok
theorem LClas.sz {H : Hp} {us : List V} {cs : List Cla} (h : LClas H us cs) : Sz cs := ⟨by have := h.2.2; omega, fun c hc => by have := (h.2.1 c hc).2; omega⟩
theorem turn_cw {o : List Nat} (ho : Ord o) {k : Cond} (h : CondW k) : CondW (k.turn o) := by
  cases k with
  | amt s ns => exact h
  | plc ws => exact ⟨pk_len h.1 ho, fun w hw => h.2 w (pk_mem hw)⟩
def AllW (cs : List Cla) : Prop := ∀ c ∈ cs, ClaW c ∧ c.conds.length ≤ 8
theorem turn_w {o : List Nat} (ho : Ord o) {cs : List Cla} (h : AllW cs) : AllW (cs.map (Cla.turn o)) := fun c hc => by
  obtain ⟨c0, hc0, rfl⟩ := List.mem_map.mp hc
  obtain ⟨⟨h1, h2, h3⟩, h4⟩ := h c0 hc0
  refine ⟨⟨h1, fun k hk => ?_, h3⟩, by show (c0.conds.map _).length ≤ 8; rw [List.length_map]; exact h4⟩
  obtain ⟨k0, hk0, rfl⟩ := List.mem_map.mp hk
  exact turn_cw ho (h2 k0 hk0)
theorem glass2 {α : Type} {xs : List α} (h : xs.length = 8) : pk (pk xs GLASS) GLASS = xs := by
  obtain ⟨a, b, c, d, e, f, g, i, rfl⟩ := eight h
  rfl
theorem glass_back {cs : List Cla} (h : RuleOk cs) : (cs.map (Cla.turn GLASS)).map (Cla.turn GLASS) = cs := by
  rw [List.map_map]
  have e : ∀ c ∈ cs, (Cla.turn GLASS ∘ Cla.turn GLASS) c = id c := fun c hc => by
    obtain ⟨t, ks, m⟩ := c
    show (⟨t, (ks.map (Cond.turn GLASS)).map (Cond.turn GLASS), m⟩ : Cla) = ⟨t, ks, m⟩
    congr 1
    rw [List.map_map]
    have e2 : ∀ k ∈ ks, (Cond.turn GLASS ∘ Cond.turn GLASS) k = id k := fun k hk => by
      have := h _ hc k hk
      cases k with
      | amt s ns => rfl
      | plc ws => show Cond.plc (pk (pk ws GLASS) GLASS) = .plc ws; rw [glass2 this]
    rw [List.map_congr_left e2, List.map_id]
  rw [List.map_congr_left e, List.map_id]
theorem rm_cons (d : Cla) (cs : List Cla) (cell : Int) (xs : List Int) : ruleMakes (d :: cs) cell xs = if d.fits cell xs = true then d.made else ruleMakes cs cell xs := by
  unfold ruleMakes
  rw [firstFit]
  by_cases h : d.fits cell xs = true
  · rw [if_pos h, if_pos h]; rfl
  · rw [if_neg h, if_neg h]
    cases firstFit cell xs cs with
    | none => rfl
    | some i => rfl
theorem rm_snoc {c : Cla} {cell : Int} {xs : List Int} : ∀ {cs : List Cla}, (c.fits cell xs = false ∨ c ∈ cs) → ruleMakes (cs ++ [c]) cell xs = ruleMakes cs cell xs
  | [], h => by
    rcases h with h | h
    · show ruleMakes [c] cell xs = _
      rw [rm_cons, if_neg (by rw [h]; decide)]
    · cases h
  | d :: cs, h => by
    rw [List.cons_append, rm_cons, rm_cons]
    by_cases hd : d.fits cell xs = true
    · rw [if_pos hd, if_pos hd]
    · rw [if_neg hd, if_neg hd]
      refine rm_snoc ?_
      rcases h with h | h
      · exact .inl h
      · rcases List.mem_cons.mp h with rfl | h
        · left; simpa using hd
        · exact .inr h
theorem atI_back {us : List V} {v : V} (h : us[us.length - 1]? = some v) : atI us (-1) = some v := by
  rcases List.eq_nil_or_concat us with rfl | ⟨u0, u, rfl⟩
  · simp at h
  · simp only [List.concat_eq_append] at h ⊢
    have : (u0 ++ [u])[(u0 ++ [u]).length - 1]? = some u := by simp
    rw [this] at h
    cases h
    exact atI_last _ _
section
variable {P : Program} {w : World} {K : PySem.W.Frag} {mg : Str → Option Value} {base : Heap}
def sp_reord : Sp := fun vs H Q _ => ∃ (p q : Addr) (us : List V) (cs : List Cla) (o : List Nat), vs = [.ref p, .ref q] ∧ H p = some (.lst us) ∧ LClas H us cs ∧ H q = some (.lst (ordV o)) ∧ Ord o ∧ ∀ H' l us', Same H H' → H' l = some (.lst us') → LClas H' us' (cs.map (Cla.turn o)) → Q (.ref l) H'
theorem mp_reord : MonP sp_reord := fun vs H Q Q' E h ⟨p, q, us, cs, o, x1, x2, x3, x4, x5, k⟩ => ⟨p, q, us, cs, o, x1, x2, x3, x4, x5, fun H' l us' a b c => h _ _ (k H' l us' a b c)⟩
set_option maxHeartbeats 8000000 in
theorem ok_reord (T : Env fa fn K mg) : Good P w K mg base CX0 1 ("_law_reordered", none) ["_law_clauses", "_law_order"] sp_reord := by
  refine good_mk T 38 (d := d_w_reordered) (N := ["_law_clauses", "_law_order", "_law_some", "_law_clause", "_law_conditions", "_law_condition", "_law_k"]) (ps := ["_law_clauses", "_law_order"]) rfl rfl sc_w_reordered (fun _ _ _ _ _ _ us hl => match us, hl with | [_, _], _ => rfl) (fun vs H Q E h => ?_) (fun f cdv A outer σ0 H vs Q E hr h => ?_)
  · obtain ⟨p, q, us, cs, o, rfl, _⟩ := h; rfl
  · obtain ⟨p, q, us, cs, o, rfl, hp, hL, hq, ho, k⟩ := h
    obtain ⟨hall, hw, hcl⟩ := id hL
    obtain ⟨ho8, hob⟩ := ho.lt
    have hlen := hall.len
    refine ⟨_, (pss_cons (ps_set (i := 2) sc_w_reordered.nd rfl (Or.inl rfl) (pe_lst pa_nil))
      (pss_cons (ps_for PassesOwn.never rfl (pi_listK K rfl (pv 0)) (pg_name (i := 3) sc_w_reordered.nd rfl (Or.inl rfl)) (pss_cons (ps_set (i := 4) sc_w_reordered.nd rfl (Or.inl rfl) (pe_lst pa_nil))
      (pss_cons (ps_for PassesOwn.never rfl (pi_listK K rfl (pe_ix (ix_tupK K rfl) (pv 3) pe_int (fun _ _ => rfl))) (pg_name (i := 5) sc_w_reordered.nd rfl (Or.inr rfl)) (pss_one (ps_if (pt_cmpR op_eq (pe_ix (ix_tupK K rfl) (pv 5) pe_int (fun _ _ => rfl)) pe_str (nomark _)) (pss_one (ps_expr (pe_bm PySem.F.plainAttrs_list PySem.F.slot_list_append PySem.F.type_list_append mt_append (pv 4) (pa_cons (pe_tup (pa_cons pe_str (pa_cons (pe_lc (own := [("_law_k", 6)]) (tt := tYes) rfl sc_w_reordered.nd (pi_listK K rfl (pv 1)) (blkOk_by (own := [("_law_k", 6)]) (N := ["_law_clauses", "_law_order", "_law_some", "_law_clause", "_law_conditions", "_law_condition", "_law_k"]) (sc := defScope st_w_reordered) (by decide +kernel)) (fun _ _ _ _ _ => by exact (pg_name (i := 6) sc_w_reordered.nd rfl (Or.inl rfl))) (fun _ _ _ _ _ => by exact pts_nil) (fun _ _ _ _ _ => by exact (pe_ix (ix_listK K rfl) (pe_ix (ix_tupK K rfl) (pv 5) pe_int (fun _ _ => rfl)) (pv 6) (fun _ _ => rfl)))) pa_nil))) pa_nil)))) (pss_one (ps_expr (pe_bm PySem.F.plainAttrs_list PySem.F.slot_list_append PySem.F.type_list_append mt_append (pv 4) (pa_cons (pv 5) pa_nil)))))))
      (pss_one (ps_expr (pe_bm PySem.F.plainAttrs_list PySem.F.slot_list_append PySem.F.type_list_append mt_append (pv 2) (pa_cons (pe_tup (pa_cons (pe_ix (ix_tupK K rfl) (pv 3) pe_int (fun _ _ => rfl)) (pa_cons (pv 4) (pa_cons (pe_ix (ix_tupK K rfl) (pv 3) pe_int (fun _ _ => rfl)) pa_nil)))) pa_nil)))))))
      (pss_one (ps_ret (pv 2))))), ?_⟩
    walk_at "rd"
    refine rd_new (hn := by show 0 ≤ sizeLine; decide) fun l hl => ?_
    have s0 := same_upd (o := .lst []) hl
    have L0 : (upd H l (.lst [])) l = some (.lst []) := upd_same
    generalize upd H l (.lst []) = H0 at s0 L0 ⊢
    walk_at "rd"
    refine ⟨p, rfl, ⟨_, SqL.of (s0 _ _ hp)⟩, ?_⟩
    refine for_it (walk_list (xs := us)) (fun i σ H' => Same H H' ∧ (∃ us', H' l = some (.lst us') ∧ AllV (LClaN (fun b => b ≠ l) H') us' ((cs.map (Cla.turn o)).take i)) ∧ ∃ x3 x4 x5 : Option V, σ = [some (.ref p), some (.ref q), some (.ref l), x3, x4, x5, none]) ⟨s0, ⟨[], L0, trivial⟩, none, none, none, rfl⟩ ?_ ?_ ?_
    · rintro i σ H' _ ⟨s1, _⟩
      exact SqL.of (s1 _ _ hp)
    · rintro i x σ Ha Hb hi ⟨s1, ⟨us', h1, hacc⟩, x3, x4, x5, rfl⟩ ⟨rfl, hx⟩
      obtain ⟨c, hcc, hat⟩ := hall.get hx
      have hcm := List.mem_of_getElem? hcc
      have hct : (cs.map (Cla.turn o))[i]? = some (c.turn o) := map_get (Cla.turn o) hcc
      obtain ⟨t, lc, ps, rfl, ht, hlc, hcs⟩ := hat
      obtain ⟨hcw, h8⟩ := hw c hcm
      have hic := (List.getElem?_eq_some_iff.mp hcc).1
      walk_at "rd"
      refine rd_new (hn := by show 0 ≤ sizeLine; decide) fun d hd => ?_
      have s2 := same_upd (o := .lst []) hd
      have L2 : (upd Hb d (.lst [])) d = some (.lst []) := upd_same
      generalize upd Hb d (.lst []) = H2 at s2 L2 ⊢
      have s12 := s1.trans s2
      have hHd : H d = none := none_of s1 hd
      have hdl : d ≠ l := fun z => by rw [z, h1] at hd; cases hd
      have hcsN : AllV (LCondN (fun b => b ≠ d ∧ b ≠ l) H) ps c.conds := hcs.imp fun _ _ h => h.toN fun b xs e => ⟨ne_of_none e hHd, ne_of_none e hl⟩
      walk_at "rd"
      refine rd_ixT (SqT.of (s12 _ _ ht)) (atI_nat (j := 1) rfl) ?_
      refine ⟨lc, rfl, ⟨_, SqL.of (s12 _ _ hlc)⟩, ?_⟩
      refine for_it (walk_list (xs := ps)) (fun m σ H' => Same Hb H' ∧ (∃ ws, H' d = some (.lst ws) ∧ AllV (LCondN (fun b => b ≠ d ∧ b ≠ l) H') ws ((c.turn o).conds.take m)) ∧ ∃ x5 : Option V, σ = [some (.ref p), some (.ref q), some (.ref l), some (.ref t), some (.ref d), x5, none]) ⟨s2, ⟨[], L2, trivial⟩, x5, rfl⟩ ?_ ?_ ?_
      · rintro m σ H' _ ⟨s3, _⟩
        exact SqL.of (s3 _ _ (s1 _ _ hlc))
      · rintro m x σ Hc Hd' hm ⟨s3, ⟨ws, h3, hac⟩, x5, rfl⟩ ⟨rfl, hx⟩
        have s13 := s1.trans s3
        obtain ⟨kc, hk, hatk⟩ := hcsN.get hx
        have hkt : (c.turn o).conds[m]? = some (kc.turn o) := map_get (Cond.turn o) hk
        have hm' := (List.getElem?_eq_some_iff.mp hk).1
        have hkw := hcw.2.1 kc (List.mem_of_getElem? hk)
        have hlt : ws.length < sizeLine := by
          have := hac.len
          have e : (c.turn o).conds.length = c.conds.length := List.length_map _
          rw [List.length_take, e] at this
          exact small1000 (by omega)
        have fin : ∀ (H4 : Hp) (v x5 : V), Same Hd' H4 → LCondN (fun b => b ≠ d ∧ b ≠ l) H4 v (kc.turn o) → (Same Hb (upd H4 d (.lst (ws ++ [v]))) ∧ (∃ ws', (upd H4 d (.lst (ws ++ [v]))) d = some (.lst ws') ∧ AllV (LCondN (fun b => b ≠ d ∧ b ≠ l) (upd H4 d (.lst (ws ++ [v])))) ws' ((c.turn o).conds.take (m + 1))) ∧ ∃ y : Option V, [some (.ref p), some (.ref q), some (.ref l), some (.ref t), some (.ref d), some x5, none] = [some (.ref p), some (.ref q), some (.ref l), some (.ref t), some (.ref d), y, none]) := fun H4 v x5 s4 hv => by
          refine ⟨Same.put2 (s3.trans s4) hd, ⟨ws ++ [v], upd_same, ?_⟩, _, rfl⟩
          rw [take_snoc hkt]
          exact ((hac.imp fun _ _ h => h.same s4).app hv).imp fun _ _ h => h.upd (s4 _ _ h3) fun b hb => hb.1
        have hat3 := hatk.same s13
        cases kc with
        | amt s ns =>
          obtain ⟨tk, lk, rfl, htk, _⟩ := id hat3
          walk_at "rd"
          refine iteF ?_
          walk_at "rd"
          refine rd_tyL h3 ?_
          walk_at "rd"
          refine rd_append h3 hlt ?_
          walk_at "rd"
          exact fin Hd' _ _ (Same.refl _) hat3
        | plc wo =>
          obtain ⟨tk, lk, wv, rfl, htk, hlk, _, hwo, hwb⟩ := id hat3
          have hwv8 : wv.length = 8 := by
            have z : wo.length = 8 := hkw.1
            rw [hwo, List.length_map] at z; exact z
          walk_at "rd"
          refine iteT ?_
          walk_at "rd"
          refine rd_tyL h3 ?_
          walk_at "rd"
          have hq3 := s13 _ _ hq
          refine ⟨q, rfl, ⟨_, SqL.of hq3⟩, fun D hD => ?_⟩
          refine lc_list (K := K) (xs := ordV o) (fun i H' => H' = upd Hd' D (.lst ((pk wv (o.take i)).map V.int))) rfl (fun i H' _ e => SqL.of (by rw [e]; exact (same_upd hD) _ _ hq3)) ?_ ?_
          · rintro j y H' hy rfl
            obtain ⟨n, hn, rfl⟩ : ∃ n, o[j]? = some n ∧ y = .int (n : Int) := by
              have hx' : (o.map fun n : Nat => V.int (n : Int))[j]? = some y := hy
              rw [List.getElem?_map] at hx'
              cases e : o[j]? with
              | none => rw [e] at hx'; cases hx'
              | some c => rw [e] at hx'; exact ⟨c, rfl, (Option.some.inj hx').symm⟩
            have hn8 : n < wv.length := by have := hob n (List.mem_of_getElem? hn); omega
            have hj := (List.getElem?_eq_some_iff.mp hn).1
            walk_at "rd"
            refine ⟨rfl, ?_⟩
            walk_at "rd"
            refine rd_ixT (SqT.of ((same_upd hD) _ _ htk)) (atI_nat (j := 1) rfl) ?_
            walk_at "rd"
            refine rd_ixL (SqL.of ((same_upd hD) _ _ hlk)) (atI_nat (map_get V.int (at_get hn8))) ?_
            refine ⟨_, upd_same, ?_, ?_⟩
            · have h1 : (pk wv (o.take j)).length ≤ (o.take j).length := List.length_filterMap_le _ _
              rw [List.length_take] at h1
              rw [List.length_map]; exact small1000 (by omega)
            · rw [upd_upd, pk_take hn (at_get hn8), List.map_append]; rfl
          rintro H4 rfl
          have e : o.take (ordV o).length = o := by
            have : (ordV o).length = o.length := by show (o.map _).length = _; rw [List.length_map]
            rw [this, List.take_length]
          rw [e]
          have s4 := same_upd (o := .lst ((pk wv o).map V.int)) hD
          have LD : (upd Hd' D (.lst ((pk wv o).map V.int))) D = some (.lst ((pk wv o).map V.int)) := upd_same
          generalize upd Hd' D (.lst ((pk wv o).map V.int)) = H4 at s4 LD ⊢
          walk_at "rd"
          refine rd_new (hn := by show 2 ≤ sizeLine; decide) fun t2 ht2 => ?_
          have s5 := same_upd (o := .tup [V.str "places", V.ref D]) ht2
          have T2 : (upd H4 t2 (.tup [V.str "places", V.ref D])) t2 = some (.tup [V.str "places", V.ref D]) := upd_same
          generalize upd H4 t2 (.tup [V.str "places", V.ref D]) = H5 at s5 T2 ⊢
          have s45 := s4.trans s5
          walk_at "rd"
          refine rd_append (s45 _ _ h3) hlt ?_
          walk_at "rd"
          refine fin H5 _ _ s45 ⟨t2, D, pk wv o, rfl, T2, s5 _ _ LD, ⟨fun z => ?_, fun z => ?_⟩, ?_, fun w hw => hwb w (pk_mem hw)⟩
          · rw [z, h3] at hD; cases hD
          · rw [z, s3 _ _ h1] at hD; cases hD
          · rw [hwo, pk_map]
      · rintro σ H4 ⟨s3, ⟨ws, h3, hac⟩, x5, rfl⟩
        have e : (c.turn o).conds.take ps.length = (c.turn o).conds := by
          have : ps.length = (c.turn o).conds.length := by rw [hcs.len]; exact (List.length_map _).symm
          rw [this, List.take_length]
        rw [e] at hac
        have s13 := s1.trans s3
        walk_at "rd"
        refine rd_tyL (s3 _ _ h1) ?_
        walk_at "rd"
        refine rd_ixT (SqT.of (s13 _ _ ht)) (atI_nat (j := 0) rfl) ?_
        walk_at "rd"
        refine rd_ixT (SqT.of (s13 _ _ ht)) (atI_nat (j := 2) rfl) ?_
        walk_at "rd"
        refine rd_new (hn := by show 3 ≤ sizeLine; decide) fun t2 ht2 => ?_
        have s5 := same_upd (o := .tup [V.int (takenN c.taken), V.ref d, V.int c.made]) ht2
        have T2 : (upd H4 t2 (.tup [V.int (takenN c.taken), V.ref d, V.int c.made])) t2 = some (.tup [V.int (takenN c.taken), V.ref d, V.int c.made]) := upd_same
        generalize upd H4 t2 (.tup [V.int (takenN c.taken), V.ref d, V.int c.made]) = H5 at s5 T2 ⊢
        have s35 := s3.trans s5
        have h15 := s35 _ _ h1
        walk_at "rd"
        refine rd_append h15 (by have := hacc.len; rw [List.length_take, List.length_map] at this; exact small1000 (by omega)) ?_
        walk_at "rd"
        refine ⟨Same.put2 (s1.trans s35) hl, ⟨us' ++ [.ref t2], upd_same, ?_⟩, _, _, _, rfl⟩
        rw [take_snoc hct]
        have hv : LClaN (fun b => b ≠ l) H5 (.ref t2) (c.turn o) := ⟨t2, d, ws, rfl, T2, s5 _ _ h3, hdl, hac.imp fun _ _ h => (h.same s5).imp fun b hb => hb.2⟩
        exact ((hacc.imp fun _ _ h => h.same s35).app hv).imp fun _ _ h => h.upd h15 fun b hb => hb
    · rintro σ H' ⟨s1, ⟨us', h1, hacc⟩, x3, x4, x5, rfl⟩
      have e : (cs.map (Cla.turn o)).take us.length = cs.map (Cla.turn o) := by
        have : us.length = (cs.map (Cla.turn o)).length := by rw [List.length_map]; exact hlen
        rw [this, List.take_length]
      rw [e] at hacc
      walk_at "rd"
      exact k _ l us' s1 h1 ⟨hacc.imp fun _ _ h => h.at, turn_w ho hw, by rw [List.length_map]; exact hcl⟩
theorem oL : Ord LEFT := .inl rfl
theorem oG : Ord GLASS := .inr rfl
def lawLevel : Nat := 6
set_option maxHeartbeats 16000000 in
theorem ok_law (T : Env fa fn K mg) : Good P w K mg base CX0 lawLevel ("law", none) ["_law_script"] (sp_law K) := by
  have G_w_at := ok_at (P := P) (w := w) (base := base) T
  have G_w_clauses_by := ok_clauses_by (P := P) (w := w) (base := base) T
  have G_w_text := ok_text (P := P) (w := w) (base := base) T
  have G_w_reordered := ok_reord (P := P) (w := w) (base := base) T
  have G_read_rule := ok_read_rule (P := P) (w := w) (base := base) T
  have G_shown_rule := ok_shown (P := P) (w := w) (base := base) T
  have G_turned_rule := ok_turned_rule (P := P) (w := w) (base := base) T
  have G_mirrored_rule := ok_mirrored_rule (P := P) (w := w) (base := base) T
  refine good_mk T 39 (d := d_law) (N := ["_law_script", "_law_many", "_law_clauses", "_law_line", "_law_turned", "_law_mirrored", "_law_rule", "_law_back"]) (ps := ["_law_script"]) rfl rfl sc_law (fun _ _ _ _ _ _ us hl => match us, hl with | [_], _ => rfl) (fun vs H Q E h => ?_) (fun f cdv A outer σ0 H vs Q E hr h => ?_)
  · obtain ⟨a, ns, rfl, _⟩ := h; rfl
  · obtain ⟨a0, ns, rfl, hS, hlen, hO, k⟩ := h
    have mp1 := mp_at (K := K)
    refine ⟨_, (pss_cons (ps_set (i := 1) sc_law.nd rfl (Or.inl rfl) (pe_op op_mod (pe_cgK K rfl G_w_at (hr.mono (by decide)) (T.glo 44) (pa_cons (pv 0) (pa_cons pe_int pa_nil))) pe_int))
      (pss_cons (ps_set (i := 2) sc_law.nd rfl (Or.inl rfl) (pe_cgK K rfl G_w_clauses_by (hr.mono (by decide)) (T.glo 48) (pa_cons (pv 0) (pa_cons pe_int (pa_cons (pv 1) pa_nil)))))
      (pss_cons (ps_if (PW.pt (pw_and (pt_cmpR op_eq (pe_op op_mod (pe_cgK K rfl G_w_at (hr.mono (by decide)) (T.glo 44) (pa_cons (pv 0) (pa_cons pe_int pa_nil))) pe_int) pe_int (nomark _)) (pw_and1 (pt_cmpR op_gt (pv 1) pe_int (nomark _))))) (pss_one (ps_set (i := 2) sc_law.nd rfl (Or.inl rfl) (pe_op op_cat (pv 2) (pe_lst (pa_cons (pe_ix (ix_listK K rfl) (pv 2) (pe_un un_neg pe_int) (fun _ _ => rfl)) pa_nil))))) pss_nil)
      (pss_cons (ps_set (i := 3) sc_law.nd rfl (Or.inl rfl) (pe_cgK K rfl G_w_text (hr.mono (by decide)) (T.glo 49) (pa_cons (pv 2) pa_nil)))
      (pss_cons (ps_set (i := 4) sc_law.nd rfl (Or.inl rfl) (pe_cgK K rfl G_w_text (hr.mono (by decide)) (T.glo 49) (pa_cons (pe_cgK K rfl G_w_reordered (hr.mono (by decide)) (T.glo 50) (pa_cons (pv 2) (pa_cons (pe_lst (pa_cons pe_int (pa_cons pe_int (pa_cons pe_int (pa_cons pe_int (pa_cons pe_int (pa_cons pe_int (pa_cons pe_int (pa_cons pe_int pa_nil))))))))) pa_nil))) pa_nil)))
      (pss_cons (ps_set (i := 5) sc_law.nd rfl (Or.inl rfl) (pe_cgK K rfl G_w_text (hr.mono (by decide)) (T.glo 49) (pa_cons (pe_cgK K rfl G_w_reordered (hr.mono (by decide)) (T.glo 50) (pa_cons (pv 2) (pa_cons (pe_lst (pa_cons pe_int (pa_cons pe_int (pa_cons pe_int (pa_cons pe_int (pa_cons pe_int (pa_cons pe_int (pa_cons pe_int (pa_cons pe_int pa_nil))))))))) pa_nil))) pa_nil)))
      (pss_cons (ps_set (i := 6) sc_law.nd rfl (Or.inl rfl) (pe_cgK K rfl G_read_rule (hr.mono (by decide)) (T.glo 51) (pa_cons (pv 3) pa_nil)))
      (pss_cons (ps_if (PW.pt (pw_or (pt_cmpR op_ne (pe_cgK K rfl G_shown_rule (hr.mono (by decide)) (T.glo 52) (pa_cons (pv 6) pa_nil)) (pv 3) (nomark _)) (pw_or1 (pt_cmpR op_ne (pe_cgK K rfl G_shown_rule (hr.mono (by decide)) (T.glo 52) (pa_cons (pe_cgK K rfl G_turned_rule (hr.mono (by decide)) (T.glo 53) (pa_cons (pv 6) pa_nil)) pa_nil)) (pv 4) (nomark _))))) (pss_one (ps_ret pe_bl)) pss_nil)
      (pss_cons (ps_if (PW.pt (pw_or (pt_cmpR op_ne (pe_cgK K rfl G_shown_rule (hr.mono (by decide)) (T.glo 52) (pa_cons (pe_cgK K rfl G_mirrored_rule (hr.mono (by decide)) (T.glo 54) (pa_cons (pv 6) pa_nil)) pa_nil)) (pv 5) (nomark _)) (pw_or1 (pt_cmpR op_ne (pe_cgK K rfl G_shown_rule (hr.mono (by decide)) (T.glo 52) (pa_cons (pv 6) pa_nil)) (pv 3) (nomark _))))) (pss_one (ps_ret pe_bl)) pss_nil)
      (pss_cons (ps_set (i := 7) sc_law.nd rfl (Or.inl rfl) (pe_cgK K rfl G_shown_rule (hr.mono (by decide)) (T.glo 52) (pa_cons (pe_cgK K rfl G_mirrored_rule (hr.mono (by decide)) (T.glo 54) (pa_cons (pe_cgK K rfl G_read_rule (hr.mono (by decide)) (T.glo 51) (pa_cons (pv 5) pa_nil)) pa_nil)) pa_nil)))
      (pss_one (ps_ret (pe_and (pe_callB (call_isiK K rfl) (by rfl) (T.free 29) (by decide +kernel) (pa_cons (pv 7) (pa_cons (pe_bltn (v := V.ty "str") rfl (T.free 0) (by decide +kernel) rfl) pa_nil))) (pe_one (pe_cmpR op_eq (pv 7) (pv 3) (nomark _)))))))))))))))), ?_⟩
    walk_at "rd"
    refine rd_at hS (by decide) ?_
    walk_at "rd"
    have mn0 : 0 ≤ atN ns (Int.toNat 0) % 21 := by omega
    have mn1 : atN ns (Int.toNat 0) % 21 ≤ 20 := by omega
    generalize atN ns (Int.toNat 0) % 21 = mn at mn0 mn1 ⊢
    refine ⟨a0, ns, 1, mn, rfl, hS, by decide, mn0, mn1, fun H1 p1 us cs s1 L1 hL1 hz1 hc1 => ?_⟩
    walk_at "rhi"
    refine rd_cut (fun σ Hq => Same H1 Hq ∧ ∃ (p : Addr) (us : List V) (cs : List Cla), σ = [some (.ref a0), some (.int mn), some (.ref p), none, none, none, none, none] ∧ Hq p = some (.lst us) ∧ LClas Hq us cs ∧ ruleMakes cs 0 eights = 0) (by walk_at "mono") ?_ ?_
    · walk_at "rd"
      refine rd_at (sqL_on hS fun o e => s1 _ _ e) (by decide) ?_
      walk_at "rd"
      have same_out : LClas H1 us cs ∧ ruleMakes cs 0 eights = 0 := ⟨hL1, hz1⟩
      refine ite_d (fun c1 => ?_) (fun c1 => ?_)
      · walk_at "rd"
        refine ite_d (fun c2 => ?_) (fun c2 => ?_)
        · have hne : cs.length - 1 < cs.length := by omega
          obtain ⟨v, hv, hvc⟩ := hL1.1.at (at_get hne)
          have hmem : cs[cs.length - 1] ∈ cs := List.getElem_mem hne
          generalize cs[cs.length - 1] = c at hvc hmem
          rw [← hL1.1.len] at hv
          walk_at "rd"
          refine rd_ixL (SqL.of L1) (atI_back hv) ?_
          walk_at "rd"
          refine rd_new (hn := by show 1 ≤ sizeLine; decide) fun p2 hp2 => ?_
          have s2 := same_upd (o := .lst [v]) hp2
          have L2 : (upd H1 p2 (.lst [v])) p2 = some (.lst [v]) := upd_same
          generalize upd H1 p2 (.lst [v]) = H2 at s2 L2 ⊢
          walk_at "rd"
          refine ⟨p1, p2, _, _, rfl, rfl, s2 _ _ L1, L2, ?_, fun p3 hp3 => ?_⟩
          · rw [hL1.1.len]; exact small_len (by simp only [List.length_cons, List.length_nil]; have := hL1.2.2; omega)
          have s3 := same_upd (o := .lst (us ++ [v])) hp3
          walk_at "rd"
          refine ⟨s2.trans s3, p3, us ++ [v], cs ++ [c], rfl, upd_same, ⟨((hL1.same (s2.trans s3)).1).app (hvc.same (s2.trans s3)), fun d hd => ?_, ?_⟩, ?_⟩
          · rcases List.mem_append.mp hd with hd | hd
            · exact hL1.2.1 d hd
            · rw [List.mem_singleton] at hd; subst hd; exact hL1.2.1 _ hmem
          · rw [List.length_append]; simp only [List.length_cons, List.length_nil]; omega
          · rw [rm_snoc (.inr hmem)]; exact hz1
        · walk_at "rd"
          exact ⟨Same.refl _, p1, us, cs, rfl, L1, hL1, hz1⟩
      · walk_at "rd"
        exact ⟨Same.refl _, p1, us, cs, rfl, L1, hL1, hz1⟩
    rintro σ H2 ⟨s2, p1, us, cs, rfl, L1, hL1, hz1⟩
    have hok := hL1.rule
    have hsz := hL1.sz
    have hw := hL1.2.1
    have hcl := hL1.2.2
    have hzG : ruleMakes (cs.map (Cla.turn GLASS)) 0 eights = 0 := by
      have e := turn_makes (cell := 0) (xs := eights) rfl oG hok
      rw [hz1] at e
      exact e
    walk_at "rd"
    refine ⟨p1, us, cs, rfl, L1, hL1, fun H3 s3 => ?_⟩
    walk_at "rd"
    refine rd_new (hn := by show 8 ≤ sizeLine; decide) fun q1 hq1 => ?_
    have t1 : Same H3 (upd H3 q1 (.lst (ordV LEFT))) := same_upd hq1
    have Q1 : (upd H3 q1 (.lst (ordV LEFT))) q1 = some (.lst (ordV LEFT)) := upd_same
    refine ⟨p1, q1, us, cs, LEFT, rfl, t1 _ _ (s3 _ _ L1), hL1.same (s3.trans t1), Q1, oL, fun H4 l4 us4 s4 L4 hL4 => ?_⟩
    walk_at "rd"
    refine ⟨l4, us4, _, rfl, L4, hL4, fun H5 s5 => ?_⟩
    walk_at "rd"
    refine rd_new (hn := by show 8 ≤ sizeLine; decide) fun q2 hq2 => ?_
    have t2 : Same H5 (upd H5 q2 (.lst (ordV GLASS))) := same_upd hq2
    have Q2 : (upd H5 q2 (.lst (ordV GLASS))) q2 = some (.lst (ordV GLASS)) := upd_same
    have s35 := (((s3.trans t1).trans s4).trans s5).trans t2
    refine ⟨p1, q2, us, cs, GLASS, rfl, s35 _ _ L1, hL1.same s35, Q2, oG, fun H6 l6 us6 s6 L6 hL6 => ?_⟩
    walk_at "rd"
    refine ⟨l6, us6, _, rfl, L6, hL6, fun H7 s7 => ?_⟩
    walk_at "rd"
    refine ⟨cs, rfl, rule_w hw (by omega) hz1, fun H8 v8 s8 hR8 => ?_⟩
    walk_at "rd"
    refine ⟨v8, cs, rfl, hR8, hw, hcl, fun H9 s9 => ?_⟩
    walk_at "rd"
    rw [decide_eq_true rfl]
    walk_at "rd"
    refine ⟨v8, cs, rfl, hR8.same s9, hok, hsz, fun H10 v10 s10 hR10 => ?_⟩
    walk_at "rd"
    refine ⟨v10, _, rfl, hR10, turn_w oL hw, by rw [List.length_map]; exact hcl, fun H11 s11 => ?_⟩
    walk_at "rd"
    rw [decide_eq_true rfl]
    walk_at "rd"
    have s810 := s9.trans (s10.trans s11)
    refine ⟨v8, cs, rfl, hR8.same s810, hok, hsz, fun H12 v12 s12 hR12 => ?_⟩
    walk_at "rd"
    refine ⟨v12, _, rfl, hR12, turn_w oG hw, by rw [List.length_map]; exact hcl, fun H13 s13 => ?_⟩
    walk_at "rd"
    rw [decide_eq_true rfl]
    walk_at "rd"
    refine ⟨v8, cs, rfl, hR8.same (s810.trans (s12.trans s13)), hw, hcl, fun H14 s14 => ?_⟩
    walk_at "rd"
    rw [decide_eq_true rfl]
    walk_at "rd"
    refine ⟨_, rfl, rule_w (turn_w oG hw) (by rw [List.length_map]; omega) hzG, fun H15 v15 s15 hR15 => ?_⟩
    walk_at "rd"
    refine ⟨v15, _, rfl, hR15, turn_ok oG hok, hsz.turn, fun H16 v16 s16 hR16 => ?_⟩
    rw [glass_back hok] at hR16
    walk_at "rd"
    refine ⟨v16, cs, rfl, hR16, hw, hcl, fun H17 s17 => ?_⟩
    walk_at "rd"
    refine isi_str ?_
    walk_at "rd"
    skip
    rw [decide_eq_true rfl]
    exact k _
end
end JF

namespace JF
open PySem PySem.Spec PyProof.Rows L2
/-! ### the head: facts by names, the run; the end -/
theorem fn_ofE {P : Program} {w : World} {K : PySem.W.Frag} {mg : Str → Option Value} {k : Nat} {sp : Sp} {f : Addr} (hfa : mg ("law" : Str) = some (.ref f)) (T : Env fa fn K mg)
    (ok : ∀ base : Heap, K.In base → base.Ns mainGlobals mg → Good P w K mg base CX0 k ("law", none) ["_law_script"] sp) :
    ∃ fd : FuncData, (∀ (s : Shared) (v : Value), BindsTo s fd ⟨[v], []⟩ [("_law_script", v)]) ∧ ∀ base : Heap, K.In base → base.Ns mainGlobals mg → FnOk P w K mg base CX0 k f fd ["_law_script"] sp := by
  obtain ⟨fd, F⟩ := T.c.def_ (d := d_law) 39 rfl
  have e := hfa.symm.trans (T.glo 63)
  cases e
  have b := FunD.bindsA (ps := ["_law_script"]) F fun _ _ _ _ _ _ us hl => match us, hl with | [_], _ => rfl
  refine ⟨fd, fun s v => b s [v] rfl, fun base h1 h2 => ?_⟩
  obtain ⟨fd2, F2, _, _, l2⟩ := ok base h1 h2
  cases (fdAt_of (p := ("law", none)) F).eq l2
  exact F2
abbrev Rr : PySem.W.OpenRow := PySem.W.OpenLaw.row PySem.Challenge.rw_jumpfield_k04_a_rule_written_again
abbrev AlE : Type := Bool × He.AlD
def obsE (K : PySem.W.Frag) : AlE := (tbB K, He.obsD fa fn K)
def valE : AlE := (true, He.valD fn)
def obsEG (g : Addr → Option Obj) : AlE := obsE (He.frG g (He.asD g 4))
def hk : PySem.W.Hook where
  α := AlE
  obs := fun s => obsEG s.heap.get?
  val := fun _ => valE
  says := fun _ h => ∃ K : PySem.W.Frag, K.In h ∧ obsE K = valE
  of := fun _ _ e => ⟨_, He.frG_in, e⟩
  keeps := fun _ _ _ ⟨K, hK, c⟩ k => ⟨K, PySem.W.Frag.In.keeps hK k, c⟩
def ob (s : PySem.W.SharedT) : hk.α := obsEG (HandSHeadRun.getT s)
theorem ob_eq (s : PySem.W.SharedT) : ob s = hk.obs s.abs := by
  have e : HandSHeadRun.getT s = s.abs.heap.get? := funext (HandSHeadRun.getT_eq s)
  show obsEG (HandSHeadRun.getT s) = obsEG s.abs.heap.get?
  rw [e]
theorem run (w : World) : HandSHeadRun.RunEq Rr (PySem.W.view Rr.prog [40]) hk ob 100000 looseN w := by
  intro os
  kernel_rfl
end JF
open PySem PySem.W PySem.Calls PyProof.Rows
theorem PySem.Challenge.cw_jumpfield_k04_a_rule_written_again_holds : PySem.Challenge.rw_jumpfield_k04_a_rule_written_again.Holds := by
  w_on; o_law
  refine HandSHeadRun.head_any (r := OpenLaw.row PySem.Challenge.rw_jumpfield_k04_a_rule_written_again) (q := view (OpenLaw.row PySem.Challenge.rw_jumpfield_k04_a_rule_written_again).prog [40]) (H := JF.hk) (ob := JF.ob) (M := 100000) (loose := JF.looseN) (d := HandSHeadRun.topDef (OpenLaw.row PySem.Challenge.rw_jumpfield_k04_a_rule_written_again).prog 40) (kwd := []) JF.ob_eq
    (by kernel_rfl) (fun s => by kernel_rfl) JF.run (by kernel_rfl) (by kernel_rfl) (by kernel_rfl) (by rfl) (by first | assumption | decide +kernel) (by decide +kernel) ⟨rfl, rfl, rfl, rfl, rfl, by decide +kernel⟩ ?hw ?hc
  case hw => w_witness2
  case hc =>
    refine L2.walk_ofE (l := PySem.Challenge.rw_jumpfield_k04_a_rule_written_again) (n := 63) (k := JF.lawLevel) (x := "_law_script") (CX := L2.CX0) rfl (by decide) (by kernel_rfl) ⟨rfl, by decide, by decide⟩ ?F (fun _ _ _ _ z => z)
    intro w mg fa h Y G hmg0
    obtain ⟨K, KX, c⟩ := Y
    have hmg : mg ("law" : PySem.Str) = some (.ref fa) := by
      have e : (HandSHeadRun.topDef (OpenLaw.row PySem.Challenge.rw_jumpfield_k04_a_rule_written_again).prog 40).name = ("law" : PySem.Str) := by kernel_rfl
      rw [← e]
      exact hmg0
    have T : JF.Env JF.fa JF.fn K mg := ⟨congrArg (fun z : JF.AlE => z.2) c, ⟨h, KX, G⟩, congrArg (fun z : JF.AlE => z.1) c⟩
    obtain ⟨fd, hb, hF⟩ := JF.fn_ofE (P := (PySem.Challenge.rw_jumpfield_k04_a_rule_written_again).prog) (w := w) hmg T (fun base h1 h2 => JF.ok_law T)
    exact ⟨K, fd, JF.sp_law K, KX, hb, fun H a ns hl hO hS => JF.sp_law_in H a ns hl hO hS, hF⟩
#print axioms PySem.Challenge.cw_jumpfield_k04_a_rule_written_again_holds

