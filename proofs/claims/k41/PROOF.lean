import PyProof.Rows.All
import Wide.All
import OpenK.AllK
import Wide.FinOn
import KE.KStateDown
import KE.GoesMore
import KE.GoesZip
import PyProof.EnumMake
import HandS.ForMost
import HandS.ForExc
import HandS.Flow
import HandS.Wide
import HandS.WideMore
import HandS.IsInst
import HandS.SetKeys
import HandS.Style
import HandS.TupLe
import HandS.Zip
import HandS.Defaults
import HandS.Head0
import HandS.Head1
import HandS.Head2
import HandS.HeadEnd
import HandS.HeadHook1
import HandS.HeadHook2
import HandS.Walk
import PyProof.DictMoreH
import HandS.SetFor
import HandS.ExcCtx
import HandS.ExcIs
import HandS.HotCalls
import HandS.Conv
import KE.KDictSum
import KE.KDictCopyH
import HandS.SortOrd
import HandS.DictTup
import KE.SortUse
import HandS.SortKw
import HandS.Rev
import KE.KDictList
import HandS.TupLen
import PySem.Challenge.RW_jumpfield_k41_a_plain_step
set_option Elab.async false
set_option linter.all false
set_option maxRecDepth 100000
set_option maxHeartbeats 4000000
/-! ### the frame: facts of the top, defs by their places, calls -/
namespace JF
open PySem PySem.Spec PyProof.Rows L2

/-! ### what the top has left, by facts with numbers -/
/-- the module's tuples of numbers -/
def tb : List (Str × List He.Dv) := []
/-- the module's tuples of tuples of numbers -/
def tb2 : List (Str × List (List Int)) := [("OFFSETS", [[-1, -1], [0, -1], [1, -1], [-1, 0], [1, 0], [-1, 1], [0, 1], [1, 1]])]
def tup2L (K : PySem.W.Frag) : List (List Int) → List Value → Bool
  | [], [] => true
  | x :: xs, .ref p :: us => (match K.lookup p with
    | some ⟨.type c, _, .seq its _, _⟩ => decide (c = "tuple") && (decide (its.size ≤ sizeLine) && He.relAll (x.map V.int) its.toList)
    | _ => false) && tup2L K xs us
  | _, _ => false
def tup2B (K : PySem.W.Frag) (x : Str) (xs : List (List Int)) : Bool := match K.lookup (He.ga K x) with
  | some ⟨.type c, _, .seq its _, _⟩ => decide (c = "tuple") && (decide (its.size ≤ sizeLine) && tup2L K xs its.toList)
  | _ => false
theorem tup2L_ok {K : PySem.W.Frag} : ∀ {xs : List (List Int)} {us : List Value}, tup2L K xs us = true → ∃ rs : List Addr, Vals (rs.map V.ref) us ∧ rs.length = xs.length ∧ ∀ (i : Nat) (r : Addr) (x : List Int), rs[i]? = some r → xs[i]? = some x → ∀ H : Hp, SqT K H r (x.map V.int)
  | [], [], _ => ⟨[], .nil, rfl, fun i r x h _ => by cases h⟩
  | [], _ :: _, h => by cases h
  | x :: xs, [], h => by cases h
  | x :: xs, u :: us, h => by
    cases u with
    | ref p =>
      obtain ⟨h1, h2⟩ := Bool.and_eq_true_iff.mp (show ((match K.lookup p with
        | some ⟨.type c, _, .seq its _, _⟩ => decide (c = "tuple") && (decide (its.size ≤ sizeLine) && He.relAll (x.map V.int) its.toList)
        | _ => false) && tup2L K xs us) = true from h)
      obtain ⟨rs, v, e, k⟩ := tup2L_ok h2
      refine ⟨p :: rs, .cons rfl v, by rw [List.length_cons, List.length_cons, e], fun i r y hi hy H => ?_⟩
      cases i with
      | succ i => exact k i r y hi hy H
      | zero =>
        cases hi; cases hy
        cases q : K.lookup p with
        | none => rw [q] at h1; cases h1
        | some o =>
          obtain ⟨oc, od, dt, osl⟩ := o
          rw [q] at h1
          cases oc with
          | type c =>
            cases dt with
            | seq its n =>
              obtain ⟨a1, a2⟩ := Bool.and_eq_true_iff.mp (show (decide (c = "tuple") && (decide (its.size ≤ sizeLine) && He.relAll (x.map V.int) its.toList)) = true from h1)
              obtain ⟨a3, a4⟩ := Bool.and_eq_true_iff.mp a2
              exact .inr ⟨_, its, n, q, congrArg Value.type (of_decide_eq_true a1), rfl, of_decide_eq_true a3, He.relAll_ok a4⟩
            | _ => cases h1
          | _ => cases dt <;> cases h1
    | _ => cases h
theorem tup2B_ok {K : PySem.W.Frag} {x : Str} {xs : List (List Int)} (h : tup2B K x xs = true) : ∃ rs : List Addr, (∀ H : Hp, SqT K H (He.ga K x) (rs.map V.ref)) ∧ rs.length = xs.length ∧ ∀ (i : Nat) (r : Addr) (y : List Int), rs[i]? = some r → xs[i]? = some y → ∀ H : Hp, SqT K H r (y.map V.int) := by
  unfold tup2B at h
  cases q : K.lookup (He.ga K x) with
  | none => rw [q] at h; cases h
  | some o =>
    obtain ⟨oc, od, dt, osl⟩ := o
    rw [q] at h
    cases oc with
    | type c =>
      cases dt with
      | seq its n =>
        obtain ⟨a1, a2⟩ := Bool.and_eq_true_iff.mp (show (decide (c = "tuple") && (decide (its.size ≤ sizeLine) && tup2L K xs its.toList)) = true from h)
        obtain ⟨a3, a4⟩ := Bool.and_eq_true_iff.mp a2
        obtain ⟨rs, v, e, k⟩ := tup2L_ok a4
        exact ⟨rs, fun H => .inr ⟨_, its, n, q, congrArg Value.type (of_decide_eq_true a1), rfl, of_decide_eq_true a3, v⟩, e, k⟩
      | _ => cases h
    | _ => cases dt <;> cases h
/-- the module's own exceptions that are raised; how each stands to the classes that are asked for -/
def exN : List Str := []
def exP : List (Str × Sum Str String × Bool) := []
def veT : List Value := [.type "ValueError", .type "Exception", .type "BaseException", .type "object"]
def exV (K : PySem.W.Frag) : Sum Str String → Value
  | .inl y => .ref (He.ga K y)
  | .inr t => .type t
def exB1 (K : PySem.W.Frag) (x : Str) : Bool :=
  PySem.W.excIn K (He.ga K x) veT "ValueError.__new__" && PySem.W.keepIn K (.ref (He.ga K x)) && (PySem.W.subIn K (.ref (He.ga K x)) (.type "BaseException") == some true) && (PySem.W.typeIn K (.ref (He.ga K x)) == some (.type "type")) &&
  (PySem.W.findIn K (.ref (He.ga K x)) "__getattribute__" == some (some (.builtin "BaseException.__getattribute__"))) && (PySem.W.findIn K (.ref (He.ga K x)) "__getattr__" == some none) && PySem.W.hasDictIn K (He.ga K x) &&
  (PySem.W.findIn K (.ref (He.ga K x)) "__class__" == some (some (.builtin "object.__class__"))) && (PySem.W.specialIn K (.builtin "object.__class__") "__get__" == some (some (.builtin "getset_descriptor.__get__"))) &&
  (PySem.W.takesIn K (.builtin "object.__class__") == some true) && (PySem.W.mroIn K (He.ga K x) (.type "object") == some true)
def exB2 (K : PySem.W.Frag) (t : Str × Sum Str String × Bool) : Bool :=
  (PySem.W.exmOne K (.ref (He.ga K t.1)) (exV K t.2.1) == some t.2.2) && (PySem.W.kitOne K (.ref (He.ga K t.1)) (exV K t.2.1) == some t.2.2)
def tbB (K : PySem.W.Frag) : Bool := (tb.all fun t => He.tupB K t.1 t.2) && (exN.all (exB1 K) && (exP.all (exB2 K) && tb2.all fun t => tup2B K t.1 t.2))
structure Env (fa : List He.Fa) (fn : List He.DefD) (K : PySem.W.Frag) (mg : Str → Option Value) : Prop where
  c : He.SaysD fa fn K
  ex : ∃ h : Heap, K.In h ∧ h.Ns mainGlobals mg
  tb : tbB K = true
section
variable {fa : List He.Fa} {fn : List He.DefD} {K : PySem.W.Frag} {mg : Str → Option Value}
theorem Env.glo (T : Env fa fn K mg) (i : Nat) {x : Str} (h : fa[i]? = some (.glo x) := by rfl) : mg x = some (.ref (He.ga K x)) := by
  obtain ⟨hp, X, G⟩ := T.ex
  exact He.glo_ok X G (T.c.fact i h)
theorem Env.tup (T : Env fa fn K mg) (i : Nat) {x : Str} {vs : List He.Dv} (H : Hp) (h : JF.tb[i]? = some (x, vs) := by rfl) : SqT K H (He.ga K x) (vs.map (He.Dv.v K)) :=
  He.tupB_ok (List.all_eq_true.mp (Bool.and_eq_true_iff.mp T.tb).1 _ (List.mem_of_getElem? h)) H
theorem Env.ex1 (T : Env fa fn K mg) {x : Str} (h : x ∈ JF.exN) : exB1 K x = true := List.all_eq_true.mp (Bool.and_eq_true_iff.mp (Bool.and_eq_true_iff.mp T.tb).2).1 _ h
theorem Env.ex2 (T : Env fa fn K mg) {t : Str × Sum Str String × Bool} (h : t ∈ JF.exP) : exB2 K t = true := List.all_eq_true.mp (Bool.and_eq_true_iff.mp (Bool.and_eq_true_iff.mp (Bool.and_eq_true_iff.mp T.tb).2).2).1 _ h
theorem Env.tup2 (T : Env fa fn K mg) (i : Nat) {x : Str} {xs : List (List Int)} (h : JF.tb2[i]? = some (x, xs) := by rfl) : ∃ rs : List Addr, (∀ H : Hp, SqT K H (He.ga K x) (rs.map V.ref)) ∧ rs.length = xs.length ∧ ∀ (i : Nat) (r : Addr) (y : List Int), rs[i]? = some r → xs[i]? = some y → ∀ H : Hp, SqT K H r (y.map V.int) :=
  tup2B_ok (List.all_eq_true.mp (Bool.and_eq_true_iff.mp (Bool.and_eq_true_iff.mp (Bool.and_eq_true_iff.mp T.tb).2).2).2 _ (List.mem_of_getElem? h))
theorem Env.free (T : Env fa fn K mg) (i : Nat) {x : Str} (h : fa[i]? = some (.free x) := by rfl) : mg x = none := by
  obtain ⟨hp, X, G⟩ := T.ex
  exact He.free_ok X G (T.c.fact i h)
theorem Env.int (T : Env fa fn K mg) (i : Nat) {x : Str} {n : Int} (h : fa[i]? = some (.int x n) := by rfl) : ∃ t, mg x = some (.int n t) := by
  obtain ⟨hp, X, G⟩ := T.ex
  exact He.int_ok X G (T.c.fact i h)
theorem Env.str (T : Env fa fn K mg) (i : Nat) {x z : Str} (h : fa[i]? = some (.str x z) := by rfl) : ∃ t, mg x = some (.str z t) := by
  obtain ⟨hp, X, G⟩ := T.ex
  exact He.str_ok X G (T.c.fact i h)
theorem Env.cls (T : Env fa fn K mg) (i : Nat) {x : Str} (h : fa[i]? = some (.cls x) := by rfl) : Cls K (He.ga K x) := He.cls_ok (T.c.fact i h)
theorem Env.noat (T : Env fa fn K mg) (i : Nat) {x f : Str} (h : fa[i]? = some (.noat x f) := by rfl) : NoAttr K (He.ga K x) f := He.noat_ok (T.c.fact i h)
theorem Env.meth (T : Env fa fn K mg) (i : Nat) {x m : Str} (h : fa[i]? = some (.meth x m) := by rfl) : Meth K (He.ga K x) m (He.ma K (He.ga K x) m) := He.meth_ok (T.c.fact i h)
theorem Env.mkr (T : Env fa fn K mg) (i : Nat) {x : Str} (h : fa[i]? = some (.mkr x) := by rfl) : Mk K (He.ga K x) (He.ma K (He.ga K x) "__init__") := He.mkr_ok (T.c.fact i h)
end

/-! ### a def that keeps its promise, by its place -/
/-- the def's datum stands there -/
def FdAt (K : PySem.W.Frag) (p : Str × Option Str) (fd : FuncData) : Prop := ∃ oc od osl, K.lookup (He.fAd K p) = some ⟨oc, od, .func fd, osl⟩
theorem FdAt.eq {K : PySem.W.Frag} {p : Str × Option Str} {fd fd' : FuncData} (h : FdAt K p fd) (h' : FdAt K p fd') : fd = fd' := by
  obtain ⟨a, b, c, e⟩ := h
  obtain ⟨a', b', c', e'⟩ := h'
  rw [e] at e'
  cases e'
  rfl
theorem fdAt_of {K : PySem.W.Frag} {x qual : Str} {params : Arguments} {body : List Stmt} {scope : Scope} {dvs : List V} {kws : List (Str × V)} {p : Str × Option Str} {fd : FuncData} (F : FunD K x qual params body scope dvs kws (He.fAd K p) fd) : FdAt K p fd := by
  obtain ⟨oc, od, dV, kV, doc, pm, an, cdv, ct, osl, e, lk, hcd, _, _⟩ := F.ex
  exact ⟨oc, od, osl, lk⟩
def Good (P : Program) (w : World) (K : PySem.W.Frag) (mg : Str → Option Value) (base : Heap) (CX : CXT) (k : Nat) (p : Str × Option Str) (ps : List Str) (sp : Sp) : Prop :=
  ∃ fd, FnOk P w K mg base CX k (He.fAd K p) fd ps sp ∧ Binds K fd ps [] ∧ PySem.W.keepIn K (.ref (He.fAd K p)) = true ∧ FdAt K p fd
section
variable {P : Program} {w : World} {K : PySem.W.Frag} {mg : Str → Option Value} {base : Heap} {fa : List He.Fa} {fn : List He.DefD}
theorem Good.mono {CX : CXT} {j k : Nat} {p : Str × Option Str} {ps : List Str} {sp : Sp} (G : Good P w K mg base CX j p ps sp) (h : j ≤ k) : Good P w K mg base CX k p ps sp := by
  obtain ⟨fd, F, b, kp, lk⟩ := G
  exact ⟨fd, F.mono h, b, kp, lk⟩
theorem Good.imp {CX : CXT} {k : Nat} {p : Str × Option Str} {ps : List Str} {sp sp' : Sp} (G : Good P w K mg base CX k p ps sp) (h : ∀ vs H Q E, sp' vs H Q E → sp vs H Q E) : Good P w K mg base CX k p ps sp' := by
  obtain ⟨fd, F, b, kp, lk⟩ := G
  exact ⟨fd, F.imp h, b, kp, lk⟩
/-- THE RULE of a def: nothing leaves it but by return -/
theorem good_mk (T : Env fa fn K mg) (i : Nat) {d : He.DefD} {k : Nat} {N ps : List Str} {sp : Sp} {x qual : Str} {st : Stmt} {at_ : Str × Option Str} (hi : fn[i]? = some d) (hd : d = ⟨at_, x, qual, defArgs st, defBody st, defScope st, [], []⟩) (S : FnScope N ps (defScope st))
    (hb : ∀ (kV doc pm : Value) (an : Option Addr) (cdv ct : Value) (us : List Value), us.length = ps.length → bindArgs (PySem.W.fnOf x qual (defArgs st) (defBody st) (defScope st) .none kV doc pm an cdv ct) ⟨us, []⟩ = pure (ps.zip us))
    (len : ∀ vs H Q E, sp vs H Q E → vs.length = ps.length)
    (hbody : ∀ (f : Addr) (cdv : Value) (A : Around) (outer : List PySem.Env) (s : Shared) (H : Hp) (vs : List V) (Q : VK) (E : XK), Room k (A.deeper (envOfC qual (defScope st) s.heap.objs.size f cdv)) → sp vs H Q E →
      ∃ t, PSs (cxOf CX0 P w K mg base N qual (defScope st) f cdv A outer s H E).nox (defBody st) t ∧ t { nx := fun _ H' => Q .non H', rt := Q } (start N vs) H) : Good P w K mg base CX0 (k + 1) at_ ps sp := by
  subst hd
  obtain ⟨fd, F⟩ := T.c.def_ i hi
  refine ⟨fd, ?_, FunD.bindsN F hb, F.kp, fdAt_of F⟩
  refine FunD.ok F S len fun cdv A outer s H vs Q E hr h => ?_
  obtain ⟨t, h1, h2⟩ := hbody _ cdv A outer s H vs Q E hr h
  exact ⟨t, h1.nox, h2⟩
end

/-! ### calls -/
section
variable {X : Cx} {k : Nat} {x m : Str} {ps : List Str} {sp : Sp} {p pos apos : Pos} {e o : Expr} {es : List Expr} {ta : TE} {t : TA} {C : Addr}
theorem pe_cg (G : Good X.prog X.w X.K X.mg X.base CX0 k (x, none) ps sp) (hr : Room k X.A) (hm : X.mg x = some (.ref (He.ga X.K x))) (ha : PA X (e :: es) t) (hg : Gl X x := by rfl)
    (hdb : (x == ("__debug__" : Str)) = false := by decide) (he : starEach (e :: es) X.env = (false, eval e X.env) :: starEach es X.env := by rfl) (hpl : (backTo pos (starEach es X.env)).any (·.1) = false := by rfl) :
    PE X (.Call (.Name x p) (e :: es) [] pos) (tCall sp [] E0 t) := by
  obtain ⟨fd, F, b, kp, lk⟩ := G
  exact pe_call F hr hg hm kp b .nil pass0 ha hdb he hpl
theorem pe_cg0 (G : Good X.prog X.w X.K X.mg X.base CX0 k (x, none) ps sp) (hr : Room k X.A) (hm : X.mg x = some (.ref (He.ga X.K x))) (hg : Gl X x := by rfl) (hdb : (x == ("__debug__" : Str)) = false := by decide) :
    PE X (.Call (.Name x p) [] [] pos) (tCall sp [] E0 tNil) := by
  obtain ⟨fd, F, b, kp, lk⟩ := G
  exact pe_call0 F hr hg hm kp b .nil pass0 hdb
theorem pe_mg {cn : Str} {pl : Sem Bool} (he : PE X o ta) (c : Cls X.K (He.ga X.K cn)) (hm : Meth X.K (He.ga X.K cn) m (He.ma X.K (He.ga X.K cn) m)) (G : Good X.prog X.w X.K X.mg X.base CX0 k (cn, some m) ps sp) (hr : Room k X.A) (ha : PA X (e :: es) t)
    (hst : starEach (e :: es) X.env = (false, eval e X.env) :: starEach es X.env := by rfl) (hpl : (backTo pos (starEach es X.env)).any (·.1) = false := by rfl)
    (ht : eval (.Call (.Attribute o m apos) (e :: es) [] pos) X.env = (do
      let ov ← eval o X.env
      standAt apos.atName
      let (f, first) ← holding [ov] (getMethod ov m pl)
      callWith pos f first (backTo pos (starEach (e :: es) X.env)) (backToKw pos (keywordEach [] X.env))) := by rfl) :
    PE X (.Call (.Attribute o m apos) (e :: es) [] pos) (tMeth (He.ga X.K cn) m sp [] E0 ta t) := by
  obtain ⟨fd, F, b, kp, lk⟩ := G
  exact pe_meth he c hm F hr b .nil pass0 ha hst hpl ht
theorem pe_mg0 {cn : Str} {pl : Sem Bool} (he : PE X o ta) (c : Cls X.K (He.ga X.K cn)) (hm : Meth X.K (He.ga X.K cn) m (He.ma X.K (He.ga X.K cn) m)) (G : Good X.prog X.w X.K X.mg X.base CX0 k (cn, some m) ps sp) (hr : Room k X.A)
    (ht : eval (.Call (.Attribute o m apos) [] [] pos) X.env = (do
      let ov ← eval o X.env
      standAt apos.atName
      let (f, first) ← holding [ov] (getMethod ov m pl)
      callWith pos f first (backTo pos (starEach [] X.env)) (backToKw pos (keywordEach [] X.env))) := by rfl) :
    PE X (.Call (.Attribute o m apos) [] [] pos) (tMeth (He.ga X.K cn) m sp [] E0 ta tNil) := by
  obtain ⟨fd, F, b, kp, lk⟩ := G
  exact pe_meth0 he c hm F hr b .nil pass0 ht
theorem pe_mk0 (M : Mk X.K (He.ga X.K x) (He.ma X.K (He.ga X.K x) "__init__")) (G : Good X.prog X.w X.K X.mg X.base CX0 k (x, some "__init__") ps sp) (hr : Room (k + 1) X.A) (hm : X.mg x = some (.ref (He.ga X.K x))) (hg : Gl X x := by rfl)
    (hdb : (x == ("__debug__" : Str)) = false := by decide) : PE X (.Call (.Name x p) [] [] pos) (tMake (He.ga X.K x) sp [] E0 tNil) := by
  obtain ⟨fd, F, b, kp, lk⟩ := G
  exact pe_make0 M F hr hg hm b .nil pass0 hdb
theorem pe_gint {i : Int} (h : ∃ t, X.mg x = some (.int i t)) (hg : Gl X x) (hd : (x == ("__debug__" : Str)) = false := by decide) : PE X (.Name x pos) (tC (.int i)) := by
  obtain ⟨t, e⟩ := h
  exact pe_glob hg e ⟨_, rfl⟩ hd
theorem pe_gstr {z : Str} (h : ∃ t, X.mg x = some (.str z t)) (hg : Gl X x) (hd : (x == ("__debug__" : Str)) = false := by decide) : PE X (.Name x pos) (tC (.str z)) := by
  obtain ⟨t, e⟩ := h
  exact pe_glob hg e ⟨_, rfl⟩ hd
theorem pe_gref (h : X.mg x = some (.ref (He.ga X.K x))) (hg : Gl X x) (hd : (x == ("__debug__" : Str)) = false := by decide) : PE X (.Name x pos) (tC (.ref (He.ga X.K x))) :=
  pe_glob hg h rfl hd
theorem pe_mk0K (K : PySem.W.Frag) (hK : X.K = K) (M : Mk K (He.ga K x) (He.ma K (He.ga K x) "__init__")) (G : Good X.prog X.w K X.mg X.base CX0 k (x, some "__init__") ps sp) (hr : Room (k + 1) X.A) (hm : X.mg x = some (.ref (He.ga K x))) (hg : Gl X x := by rfl)
    (hdb : (x == ("__debug__" : Str)) = false := by decide) : PE X (.Call (.Name x p) [] [] pos) (tMake (He.ga K x) sp [] E0 tNil) := by subst hK; exact pe_mk0 M G hr hm hg hdb
theorem pe_mkgK (K : PySem.W.Frag) (hK : X.K = K) (M : Mk K (He.ga K x) (He.ma K (He.ga K x) "__init__")) (G : Good X.prog X.w K X.mg X.base CX0 k (x, some "__init__") ps sp) (hr : Room (k + 1) X.A) (hm : X.mg x = some (.ref (He.ga K x))) (ha : PA X (e :: es) t) (hg : Gl X x := by rfl)
    (hdb : (x == ("__debug__" : Str)) = false := by decide) (hst : starEach (e :: es) X.env = (false, eval e X.env) :: starEach es X.env := by rfl) (hpl : (backTo pos (starEach es X.env)).any (·.1) = false := by rfl) : PE X (.Call (.Name x p) (e :: es) [] pos) (tMake (He.ga K x) sp [] E0 t) := by
  subst hK
  obtain ⟨fd, F, b, kp, lk⟩ := G
  exact pe_make M F hr hg hm b .nil pass0 ha hdb hst hpl
/-- one of two readings -/
theorem pe_or {t1 t2 : TE} (h1 : PE X e t1) (h2 : PE X e t2) : PE X e (fun σ H Q => t1 σ H Q ∨ t2 σ H Q) := ⟨fun pins s σ H Q I h => h.elim (h1.run pins s σ H Q I) (h2.run pins s σ H Q I)⟩
/-! the written part said outright (in a comprehension's block it is another word for the same) -/
variable {K : PySem.W.Frag} {f : Str} {a b i : Expr} {tb : TE}
theorem pe_fldK (K : PySem.W.Frag) (hK : X.K = K) (he : PE X e ta) (hb : attributeBase e f X.env (eval e X.env) = eval e X.env) : PE X (.Attribute e f pos) (tFld K ta f) := by subst hK; exact pe_fld he hb
theorem ix_listK (K : PySem.W.Frag) (hK : X.K = K) : IxR X (rIxL K) := by subst hK; exact ix_list
theorem ix_tupK (K : PySem.W.Frag) (hK : X.K = K) : IxR X (rIxT K) := by subst hK; exact ix_tup
theorem sl_listK (K : PySem.W.Frag) (hK : X.K = K) : SlR X (rSlL K) := by subst hK; exact sl_list
theorem sl_tupK (K : PySem.W.Frag) (hK : X.K = K) : SlR X (rSlT K) := by subst hK; exact sl_tup
theorem op_inK (K : PySem.W.Frag) (hK : X.K = K) : OpR X (compareOp .In) (rIn K false) := by subst hK; exact op_in_seq
theorem op_notInK (K : PySem.W.Frag) (hK : X.K = K) : OpR X (compareOp .NotIn) (rIn K true) := by subst hK; exact op_notIn_seq
theorem op_eqDK (K : PySem.W.Frag) (hK : X.K = K) (hu : X.A.units + 64 < cLine) : OpR X (compareOp .Eq) (rEqD K) := by subst hK; exact op_eqD hu
theorem op_neDK (K : PySem.W.Frag) (hK : X.K = K) (hu : X.A.units + 64 < cLine) : OpR X (compareOp .NotEq) (rNeD K) := by subst hK; exact op_neD hu
theorem op_catTK (K : PySem.W.Frag) (hK : X.K = K) : OpR X (binaryOp .Add) (rCatT K) := by subst hK; exact op_catT
theorem call_isiK (K : PySem.W.Frag) (hK : X.K = K) : CallR X (.builtin "isinstance") (rIsi K) := by subst hK; exact call_isi
def rLenS (K : PySem.W.Frag) : List V → Hp → VK → Prop := fun xs H Q => ∃ p ys, xs = [.ref p] ∧ (SqL K H p ys ∨ SqT K H p ys) ∧ Q (.int ys.length) H
theorem call_lenK (K : PySem.W.Frag) (hK : X.K = K) : CallR X (.builtin "len") (rLenS K) := by subst hK; exact call_len_seq
def rListOf (K : PySem.W.Frag) : List V → Hp → VK → Prop := fun xs H Q => ∃ p ys, xs = [.ref p] ∧ (SqL K H p ys ∨ SqT K H p ys) ∧ ∀ l, H l = none → Q (.ref l) (upd H l (.lst ys))
theorem call_listK (K : PySem.W.Frag) (hK : X.K = K) : CallR X (.type "list") (rListOf K) := by subst hK; exact call_list_of
theorem cr_sumK (K : PySem.W.Frag) (hK : X.K = K) (hc : X.calm = true) : CallR X (.builtin "sum") (rSum K) := by subst hK; exact cr_sum hc
theorem cr_maxK (K : PySem.W.Frag) (hK : X.K = K) (hc : X.calm = true) : CallR X (.builtin "max") (rMax K) := by subst hK; exact cr_max hc
theorem cr_minK (K : PySem.W.Frag) (hK : X.K = K) (hc : X.calm = true) : CallR X (.builtin "min") (rMin K) := by subst hK; exact cr_min hc
theorem pi_listK (K : PySem.W.Frag) (hK : X.K = K) {tg l : Expr} {tl : TE} (hl : PE X l tl) : PI X tg l (iList K tl) := by subst hK; exact pi_list hl
theorem pi_tupK (K : PySem.W.Frag) (hK : X.K = K) {tg l : Expr} {tl : TE} (hl : PE X l tl) : PI X tg l (iTup K tl) := by subst hK; exact pi_tup hl
theorem pe_mgK (K : PySem.W.Frag) (hK : X.K = K) {cn : Str} {pl : Sem Bool} (he : PE X o ta) (c : Cls K (He.ga K cn)) (hm : Meth K (He.ga K cn) m (He.ma K (He.ga K cn) m)) (G : Good X.prog X.w K X.mg X.base CX0 k (cn, some m) ps sp) (hr : Room k X.A) (ha : PA X (e :: es) t)
    (hst : starEach (e :: es) X.env = (false, eval e X.env) :: starEach es X.env := by rfl) (hpl : (backTo pos (starEach es X.env)).any (·.1) = false := by rfl)
    (ht : eval (.Call (.Attribute o m apos) (e :: es) [] pos) X.env = (do
      let ov ← eval o X.env
      standAt apos.atName
      let (f, first) ← holding [ov] (getMethod ov m pl)
      callWith pos f first (backTo pos (starEach (e :: es) X.env)) (backToKw pos (keywordEach [] X.env))) := by rfl) :
    PE X (.Call (.Attribute o m apos) (e :: es) [] pos) (tMeth (He.ga K cn) m sp [] E0 ta t) := by subst hK; exact pe_mg he c hm G hr ha hst hpl ht
theorem pe_mg0K (K : PySem.W.Frag) (hK : X.K = K) {cn : Str} {pl : Sem Bool} (he : PE X o ta) (c : Cls K (He.ga K cn)) (hm : Meth K (He.ga K cn) m (He.ma K (He.ga K cn) m)) (G : Good X.prog X.w K X.mg X.base CX0 k (cn, some m) ps sp) (hr : Room k X.A)
    (ht : eval (.Call (.Attribute o m apos) [] [] pos) X.env = (do
      let ov ← eval o X.env
      standAt apos.atName
      let (f, first) ← holding [ov] (getMethod ov m pl)
      callWith pos f first (backTo pos (starEach [] X.env)) (backToKw pos (keywordEach [] X.env))) := by rfl) :
    PE X (.Call (.Attribute o m apos) [] [] pos) (tMeth (He.ga K cn) m sp [] E0 ta tNil) := by subst hK; exact pe_mg0 he c hm G hr ht
theorem pe_cgK (K : PySem.W.Frag) (hK : X.K = K) (G : Good X.prog X.w K X.mg X.base CX0 k (x, none) ps sp) (hr : Room k X.A) (hm : X.mg x = some (.ref (He.ga K x))) (ha : PA X (e :: es) t) (hg : Gl X x := by rfl)
    (hdb : (x == ("__debug__" : Str)) = false := by decide) (he : starEach (e :: es) X.env = (false, eval e X.env) :: starEach es X.env := by rfl) (hpl : (backTo pos (starEach es X.env)).any (·.1) = false := by rfl) :
    PE X (.Call (.Name x p) (e :: es) [] pos) (tCall sp [] E0 t) := by subst hK; exact pe_cg G hr hm ha hg hdb he hpl
theorem pe_grefK (K : PySem.W.Frag) (hK : X.K = K) (h : X.mg x = some (.ref (He.ga K x))) (hg : Gl X x) (hd : (x == ("__debug__" : Str)) = false := by decide) : PE X (.Name x pos) (tC (.ref (He.ga K x))) := by subst hK; exact pe_gref h hg hd
end
end JF

/-! ### squares as trees: the mathematics of a grove, no program in sight -/
namespace JF
open PySem PySem.Spec PyProof.Rows L2

inductive Sq where
  | leaf (s : Int)
  | node (a b c d : Sq)
  deriving DecidableEq
abbrev Box := Int × Int × Int × Int
def rb : Option Box → Box → Box
  | none, o => o
  | some b, o => (min b.1 o.1, min b.2.1 o.2.1, max (b.1 + b.2.2.1) (o.1 + o.2.2.1) - min b.1 o.1, max (b.2.1 + b.2.2.2) (o.2.1 + o.2.2.2) - min b.2.1 o.2.1)
def r4step (half : Int) (at_ : Int) (f : Option Box) : Option Box → Option Box
  | none => f
  | some b => some (rb f (b.1 + half * (at_ % 2), b.2.1 + half * (at_ / 2), b.2.2.1, b.2.2.2))
def r4 (half : Int) (a b c d : Option Box) : Option Box := r4step half 3 (r4step half 2 (r4step half 1 (r4step half 0 none a) b) c) d
namespace Sq
def level : Sq → Nat
  | leaf _ => 0
  | node a _ _ _ => a.level + 1
def lives : Sq → Int
  | leaf s => if s = 0 then 0 else 1
  | node a b c d => a.lives + b.lives + c.lives + d.lives
def span : Sq → Option Box
  | leaf s => if s = 0 then none else some (0, 0, 1, 1)
  | node a b c d => r4 (2 ^ a.level : Int) a.span b.span c.span d.span
def wf : Sq → Prop
  | leaf s => 0 ≤ s ∧ s ≤ 7
  | node a b c d => a.wf ∧ b.wf ∧ c.wf ∧ d.wf ∧ b.level = a.level ∧ c.level = a.level ∧ d.level = a.level
def even : Nat → Int → Sq
  | 0, s => leaf s
  | k + 1, s => node (even k s) (even k s) (even k s) (even k s)
theorem level_even (k : Nat) (s : Int) : (even k s).level = k := by
  induction k with
  | zero => rfl
  | succ k ih => show (even k s).level + 1 = k + 1; rw [ih]
theorem wf_even {s : Int} (h0 : 0 ≤ s) (h1 : s ≤ 7) (k : Nat) : (even k s).wf := by
  induction k with
  | zero => exact ⟨h0, h1⟩
  | succ k ih => exact ⟨ih, ih, ih, ih, rfl, rfl, rfl⟩
theorem lives_nonneg : ∀ S : Sq, 0 ≤ S.lives
  | leaf s => by unfold lives; split <;> omega
  | node a b c d => by
    have h1 := lives_nonneg a; have h2 := lives_nonneg b; have h3 := lives_nonneg c; have h4 := lives_nonneg d
    unfold lives; omega
end Sq

/-! ### the dict of a grove: what was made, by numbers -/
def kvsOf : List (List Int) → Nat → List (List Key × V)
  | [], _ => []
  | m :: r, i => (m.map Sum.inl, V.int (i : Int)) :: kvsOf r (i + 1)
def lookI : List (List Int) → List Int → Nat → Option Nat
  | [], _, _ => none
  | m :: r, k, i => if m = k then some i else lookI r k (i + 1)
theorem inl_inj : ∀ {a b : List Int}, a.map (Sum.inl : Int → Key) = b.map Sum.inl → a = b
  | [], [], _ => rfl
  | [], _ :: _, h => by cases h
  | _ :: _, [], h => by cases h
  | x :: a, y :: b, h => by
    simp only [List.map_cons, List.cons.injEq, Sum.inl.injEq] at h
    rw [h.1, inl_inj h.2]
theorem kvsOf_len : ∀ (mk : List (List Int)) (i : Nat), (kvsOf mk i).length = mk.length
  | [], _ => rfl
  | _ :: r, i => by show (kvsOf r (i + 1)).length + 1 = r.length + 1; rw [kvsOf_len r]
theorem kvsOf_app : ∀ (mk : List (List Int)) (m : List Int) (i : Nat), kvsOf (mk ++ [m]) i = kvsOf mk i ++ [(m.map Sum.inl, V.int ((i + mk.length : Nat) : Int))]
  | [], m, i => rfl
  | x :: r, m, i => by
    show _ :: kvsOf (r ++ [m]) (i + 1) = _ :: (kvsOf r (i + 1) ++ _)
    rw [kvsOf_app r m (i + 1)]
    have e : i + 1 + r.length = i + (x :: r).length := by simp; omega
    rw [e]
theorem valV_kvsOf : ∀ (mk : List (List Int)) (k : List Int) (i : Nat), valV (kvsOf mk i) (k.map Sum.inl) = (lookI mk k i).map fun n : Nat => V.int (n : Int)
  | [], _, _ => rfl
  | m :: r, k, i => by
    by_cases h : m = k
    · subst h
      simp [kvsOf, lookI, valV]
    · have h' : ¬ (m.map (Sum.inl : Int → Key) = k.map Sum.inl) := fun e => h (inl_inj e)
      have ih := valV_kvsOf r k (i + 1)
      simp only [kvsOf, lookI, valV, List.find?_cons, h, h', decide_false, if_false] at ih ⊢
      exact ih
theorem lookI_some : ∀ {mk : List (List Int)} {k : List Int} {i n : Nat}, lookI mk k i = some n → i ≤ n ∧ mk[n - i]? = some k
  | [], _, _, _, h => by cases h
  | m :: r, k, i, n, h => by
    by_cases e : m = k
    · simp only [lookI, e, if_true, Option.some.injEq] at h
      subst h
      simp [e]
    · simp only [lookI, e, if_false] at h
      obtain ⟨h1, h2⟩ := lookI_some h
      refine ⟨by omega, ?_⟩
      have e2 : n - i = (n - (i + 1)) + 1 := by omega
      rw [e2, List.getElem?_cons_succ]
      exact h2
theorem lookI_none : ∀ {mk : List (List Int)} {k : List Int} {i : Nat}, lookI mk k i = none → k ∉ mk
  | [], _, _, _ => by simp
  | m :: r, k, i, h => by
    by_cases e : m = k
    · simp [lookI, e] at h
    · simp only [lookI, e, if_false] at h
      have := lookI_none h
      simp only [List.mem_cons, not_or]
      exact ⟨fun z => e z.symm, this⟩

/-- what a square is made of, by the numbers of its quarters -/
def Made (q : List Sq) : Sq → List Int → Prop
  | .leaf s, m => m = [s]
  | .node A B C D, m => ∃ a b c d : Nat, m = [(a : Int), (b : Int), (c : Int), (d : Int)] ∧ q[a]? = some A ∧ q[b]? = some B ∧ q[c]? = some C ∧ q[d]? = some D
theorem getElem?_app {α : Type} {q : List α} {i : Nat} {x : α} (h : q[i]? = some x) (t : List α) : (q ++ t)[i]? = some x := by
  rw [List.getElem?_append_left (List.getElem?_eq_some_iff.mp h).1]
  exact h
theorem Made.app {q : List Sq} {S : Sq} {m : List Int} (h : Made q S m) (t : List Sq) : Made (q ++ t) S m := by
  cases S with
  | leaf s => exact h
  | node A B C D =>
    obtain ⟨a, b, c, d, e, h1, h2, h3, h4⟩ := h
    exact ⟨a, b, c, d, e, getElem?_app h1 t, getElem?_app h2 t, getElem?_app h3 t, getElem?_app h4 t⟩
theorem nodup_at {q : List Sq} (hq : q.Nodup) {i j : Nat} {S : Sq} (a : q[i]? = some S) (b : q[j]? = some S) : i = j := by
  obtain ⟨h1, e1⟩ := List.getElem?_eq_some_iff.mp a
  obtain ⟨h2, e2⟩ := List.getElem?_eq_some_iff.mp b
  exact (List.getElem_inj hq).mp (e1.trans e2.symm)
theorem made_inj {q : List Sq} (hq : q.Nodup) {S : Sq} {m m' : List Int} (a : Made q S m) (b : Made q S m') : m = m' := by
  cases S with
  | leaf s => exact (show m = [s] from a).trans (show m' = [s] from b).symm
  | node A B C D =>
    obtain ⟨a1, b1, c1, d1, rfl, h1, h2, h3, h4⟩ := a
    obtain ⟨a2, b2, c2, d2, rfl, k1, k2, k3, k4⟩ := b
    rw [nodup_at hq h1 k1, nodup_at hq h2 k2, nodup_at hq h3 k3, nodup_at hq h4 k4]
theorem made_same {q : List Sq} {S S' : Sq} {m : List Int} (a : Made q S m) (b : Made q S' m) : S = S' := by
  cases S with
  | leaf s =>
    cases S' with
    | leaf s' =>
      have e : [s] = [s'] := (show m = [s] from a).symm.trans (show m = [s'] from b)
      simp only [List.cons.injEq, and_true] at e
      rw [e]
    | node A B C D =>
      obtain ⟨a2, b2, c2, d2, e, _⟩ := b
      have e1 : m = [s] := a
      rw [e1] at e
      simp at e
  | node A B C D =>
    obtain ⟨a1, b1, c1, d1, e1, h1, h2, h3, h4⟩ := a
    cases S' with
    | leaf s' =>
      have e2 : m = [s'] := b
      rw [e1] at e2
      simp at e2
    | node A' B' C' D' =>
      obtain ⟨a2, b2, c2, d2, e2, k1, k2, k3, k4⟩ := b
      rw [e1] at e2
      simp only [List.cons.injEq, Int.ofNat_inj, and_true] at e2
      obtain ⟨rfl, rfl, rfl, rfl⟩ := e2
      rw [h1] at k1; rw [h2] at k2; rw [h3] at k3; rw [h4] at k4
      cases k1; cases k2; cases k3; cases k4
      rfl
end JF

namespace JF
open PySem PySem.Spec PyProof.Rows L2
def top (i : Nat) : Stmt := PySem.Challenge.pw_jumpfield_k41_a_plain_step.main.body.getD i (.Pass ⟨0, 0, 0, 0⟩)
abbrev st_x_wall : Stmt := top 0
theorem sc_x_wall : FnScope ["k"] ["k"] (defScope st_x_wall) := ⟨rfl, rfl, rfl, by decide +kernel, rfl, by decide +kernel, by decide +kernel⟩
def d_x_wall : He.DefD := ⟨("_wall", none), "_wall", "_wall", defArgs (top 0), defBody (top 0), defScope (top 0), [], []⟩
abbrev st_by_rows : Stmt := top 6
theorem sc_by_rows : FnScope ["cell"] ["cell"] (defScope st_by_rows) := ⟨rfl, rfl, rfl, by decide +kernel, rfl, by decide +kernel, by decide +kernel⟩
def d_by_rows : He.DefD := ⟨("by_rows", none), "by_rows", "by_rows", defArgs (top 6), defBody (top 6), defScope (top 6), [], []⟩
abbrev st_Condition_holds : Stmt := inClass (top 8) 0
theorem sc_Condition_holds : FnScope ["self", "around"] ["self", "around"] (defScope st_Condition_holds) := ⟨rfl, rfl, rfl, by decide +kernel, rfl, by decide +kernel, by decide +kernel⟩
def d_Condition_holds : He.DefD := ⟨("Condition", some "holds"), "holds", "Condition.holds", defArgs (inClass (top 8) 0), defBody (inClass (top 8) 0), defScope (inClass (top 8) 0), [], []⟩
abbrev st_Condition_reordered : Stmt := inClass (top 8) 1
theorem sc_Condition_reordered : FnScope ["self", "order"] ["self", "order"] (defScope st_Condition_reordered) := ⟨rfl, rfl, rfl, by decide +kernel, rfl, by decide +kernel, by decide +kernel⟩
def d_Condition_reordered : He.DefD := ⟨("Condition", some "reordered"), "reordered", "Condition.reordered", defArgs (inClass (top 8) 1), defBody (inClass (top 8) 1), defScope (inClass (top 8) 1), [], []⟩
abbrev st_Condition_written : Stmt := inClass (top 8) 2
theorem sc_Condition_written : FnScope ["self"] ["self"] (defScope st_Condition_written) := ⟨rfl, rfl, rfl, by decide +kernel, rfl, by decide +kernel, by decide +kernel⟩
def d_Condition_written : He.DefD := ⟨("Condition", some "written"), "written", "Condition.written", defArgs (inClass (top 8) 2), defBody (inClass (top 8) 2), defScope (inClass (top 8) 2), [], []⟩
abbrev st_Amount_init : Stmt := inClass (top 9) 0
theorem sc_Amount_init : FnScope ["self", "state", "numbers"] ["self", "state", "numbers"] (defScope st_Amount_init) := ⟨rfl, rfl, rfl, by decide +kernel, rfl, by decide +kernel, by decide +kernel⟩
def d_Amount_init : He.DefD := ⟨("Amount", some "__init__"), "__init__", "Amount.__init__", defArgs (inClass (top 9) 0), defBody (inClass (top 9) 0), defScope (inClass (top 9) 0), [], []⟩
abbrev st_Amount_holds : Stmt := inClass (top 9) 1
theorem sc_Amount_holds : FnScope ["self", "around"] ["self", "around"] (defScope st_Amount_holds) := ⟨rfl, rfl, rfl, by decide +kernel, rfl, by decide +kernel, by decide +kernel⟩
def d_Amount_holds : He.DefD := ⟨("Amount", some "holds"), "holds", "Amount.holds", defArgs (inClass (top 9) 1), defBody (inClass (top 9) 1), defScope (inClass (top 9) 1), [], []⟩
abbrev st_Amount_written : Stmt := inClass (top 9) 2
theorem sc_Amount_written : FnScope ["self"] ["self"] (defScope st_Amount_written) := ⟨rfl, rfl, rfl, by decide +kernel, rfl, by decide +kernel, by decide +kernel⟩
def d_Amount_written : He.DefD := ⟨("Amount", some "written"), "written", "Amount.written", defArgs (inClass (top 9) 2), defBody (inClass (top 9) 2), defScope (inClass (top 9) 2), [], []⟩
abbrev st_Places_init : Stmt := inClass (top 10) 0
theorem sc_Places_init : FnScope ["self", "wanted"] ["self", "wanted"] (defScope st_Places_init) := ⟨rfl, rfl, rfl, by decide +kernel, rfl, by decide +kernel, by decide +kernel⟩
def d_Places_init : He.DefD := ⟨("Places", some "__init__"), "__init__", "Places.__init__", defArgs (inClass (top 10) 0), defBody (inClass (top 10) 0), defScope (inClass (top 10) 0), [], []⟩
abbrev st_Places_holds : Stmt := inClass (top 10) 1
theorem sc_Places_holds : FnScope ["self", "around", "wish", "state"] ["self", "around"] (defScope st_Places_holds) := ⟨rfl, rfl, rfl, by decide +kernel, rfl, by decide +kernel, by decide +kernel⟩
def d_Places_holds : He.DefD := ⟨("Places", some "holds"), "holds", "Places.holds", defArgs (inClass (top 10) 1), defBody (inClass (top 10) 1), defScope (inClass (top 10) 1), [], []⟩
abbrev st_Places_reordered : Stmt := inClass (top 10) 2
theorem sc_Places_reordered : FnScope ["self", "order"] ["self", "order"] (defScope st_Places_reordered) := ⟨rfl, rfl, rfl, by decide +kernel, rfl, by decide +kernel, by decide +kernel⟩
def d_Places_reordered : He.DefD := ⟨("Places", some "reordered"), "reordered", "Places.reordered", defArgs (inClass (top 10) 2), defBody (inClass (top 10) 2), defScope (inClass (top 10) 2), [], []⟩
abbrev st_Places_written : Stmt := inClass (top 10) 3
theorem sc_Places_written : FnScope ["self"] ["self"] (defScope st_Places_written) := ⟨rfl, rfl, rfl, by decide +kernel, rfl, by decide +kernel, by decide +kernel⟩
def d_Places_written : He.DefD := ⟨("Places", some "written"), "written", "Places.written", defArgs (inClass (top 10) 3), defBody (inClass (top 10) 3), defScope (inClass (top 10) 3), [], []⟩
abbrev st_Clause_init : Stmt := inClass (top 11) 0
theorem sc_Clause_init : FnScope ["self", "taken", "conditions", "made"] ["self", "taken", "conditions", "made"] (defScope st_Clause_init) := ⟨rfl, rfl, rfl, by decide +kernel, rfl, by decide +kernel, by decide +kernel⟩
def d_Clause_init : He.DefD := ⟨("Clause", some "__init__"), "__init__", "Clause.__init__", defArgs (inClass (top 11) 0), defBody (inClass (top 11) 0), defScope (inClass (top 11) 0), [], []⟩
abbrev st_Clause_fits : Stmt := inClass (top 11) 1
theorem sc_Clause_fits : FnScope ["self", "cell", "around", "condition"] ["self", "cell", "around"] (defScope st_Clause_fits) := ⟨rfl, rfl, rfl, by decide +kernel, rfl, by decide +kernel, by decide +kernel⟩
def d_Clause_fits : He.DefD := ⟨("Clause", some "fits"), "fits", "Clause.fits", defArgs (inClass (top 11) 1), defBody (inClass (top 11) 1), defScope (inClass (top 11) 1), [], []⟩
abbrev st_Clause_reordered : Stmt := inClass (top 11) 2
theorem sc_Clause_reordered : FnScope ["self", "order"] ["self", "order"] (defScope st_Clause_reordered) := ⟨rfl, rfl, rfl, by decide +kernel, rfl, by decide +kernel, by decide +kernel⟩
def d_Clause_reordered : He.DefD := ⟨("Clause", some "reordered"), "reordered", "Clause.reordered", defArgs (inClass (top 11) 2), defBody (inClass (top 11) 2), defScope (inClass (top 11) 2), [], []⟩
abbrev st_Clause_written : Stmt := inClass (top 11) 3
theorem sc_Clause_written : FnScope ["self"] ["self"] (defScope st_Clause_written) := ⟨rfl, rfl, rfl, by decide +kernel, rfl, by decide +kernel, by decide +kernel⟩
def d_Clause_written : He.DefD := ⟨("Clause", some "written"), "written", "Clause.written", defArgs (inClass (top 11) 3), defBody (inClass (top 11) 3), defScope (inClass (top 11) 3), [], []⟩
abbrev st_Rule_init : Stmt := inClass (top 15) 0
theorem sc_Rule_init : FnScope ["self", "clauses"] ["self", "clauses"] (defScope st_Rule_init) := ⟨rfl, rfl, rfl, by decide +kernel, rfl, by decide +kernel, by decide +kernel⟩
def d_Rule_init : He.DefD := ⟨("Rule", some "__init__"), "__init__", "Rule.__init__", defArgs (inClass (top 15) 0), defBody (inClass (top 15) 0), defScope (inClass (top 15) 0), [], []⟩
abbrev st_deciding : Stmt := top 16
theorem sc_deciding : FnScope ["rule", "cell", "around", "at", "clause"] ["rule", "cell", "around"] (defScope st_deciding) := ⟨rfl, rfl, rfl, by decide +kernel, rfl, by decide +kernel, by decide +kernel⟩
def d_deciding : He.DefD := ⟨("deciding", none), "deciding", "deciding", defArgs (top 16), defBody (top 16), defScope (top 16), [], []⟩
abbrev st_becomes : Stmt := top 17
theorem sc_becomes : FnScope ["rule", "cell", "around", "at"] ["rule", "cell", "around"] (defScope st_becomes) := ⟨rfl, rfl, rfl, by decide +kernel, rfl, by decide +kernel, by decide +kernel⟩
def d_becomes : He.DefD := ⟨("becomes", none), "becomes", "becomes", defArgs (top 17), defBody (top 17), defScope (top 17), [], []⟩
abbrev st_read_state : Stmt := top 18
theorem sc_read_state : FnScope ["word"] ["word"] (defScope st_read_state) := ⟨rfl, rfl, rfl, by decide +kernel, rfl, by decide +kernel, by decide +kernel⟩
def d_read_state : He.DefD := ⟨("read_state", none), "read_state", "read_state", defArgs (top 18), defBody (top 18), defScope (top 18), [], []⟩
abbrev st_read_wish : Stmt := top 19
theorem sc_read_wish : FnScope ["word"] ["word"] (defScope st_read_wish) := ⟨rfl, rfl, rfl, by decide +kernel, rfl, by decide +kernel, by decide +kernel⟩
def d_read_wish : He.DefD := ⟨("read_wish", none), "read_wish", "read_wish", defArgs (top 19), defBody (top 19), defScope (top 19), [], []⟩
abbrev st_read_numbers : Stmt := top 20
theorem sc_read_numbers : FnScope ["word", "numbers", "sign", "number"] ["word"] (defScope st_read_numbers) := ⟨rfl, rfl, rfl, by decide +kernel, rfl, by decide +kernel, by decide +kernel⟩
def d_read_numbers : He.DefD := ⟨("read_numbers", none), "read_numbers", "read_numbers", defArgs (top 20), defBody (top 20), defScope (top 20), [], []⟩
abbrev st_read_condition : Stmt := top 21
theorem sc_read_condition : FnScope ["word", "sign"] ["word"] (defScope st_read_condition) := ⟨rfl, rfl, rfl, by decide +kernel, rfl, by decide +kernel, by decide +kernel⟩
def d_read_condition : He.DefD := ⟨("read_condition", none), "read_condition", "read_condition", defArgs (top 21), defBody (top 21), defScope (top 21), [], []⟩
abbrev st_read_clause : Stmt := top 22
theorem sc_read_clause : FnScope ["part", "words", "conditions", "word"] ["part"] (defScope st_read_clause) := ⟨rfl, rfl, rfl, by decide +kernel, rfl, by decide +kernel, by decide +kernel⟩
def d_read_clause : He.DefD := ⟨("read_clause", none), "read_clause", "read_clause", defArgs (top 22), defBody (top 22), defScope (top 22), [], []⟩
abbrev st_read_rule : Stmt := top 23
theorem sc_read_rule : FnScope ["text", "clauses", "rule", "part"] ["text"] (defScope st_read_rule) := ⟨rfl, rfl, rfl, by decide +kernel, rfl, by decide +kernel, by decide +kernel⟩
def d_read_rule : He.DefD := ⟨("read_rule", none), "read_rule", "read_rule", defArgs (top 23), defBody (top 23), defScope (top 23), [], []⟩
abbrev st_around_at : Stmt := top 26
theorem sc_around_at : FnScope ["states", "x", "y", "dx", "dy"] ["states", "x", "y"] (defScope st_around_at) := ⟨rfl, rfl, rfl, by decide +kernel, rfl, by decide +kernel, by decide +kernel⟩
def d_around_at : He.DefD := ⟨("around_at", none), "around_at", "around_at", defArgs (top 26), defBody (top 26), defScope (top 26), [], []⟩
abbrev st_near : Stmt := top 27
theorem sc_near : FnScope ["cells", "places", "x", "y", "state", "dx", "dy"] ["cells"] (defScope st_near) := ⟨rfl, rfl, rfl, by decide +kernel, rfl, by decide +kernel, by decide +kernel⟩
def d_near : He.DefD := ⟨("near", none), "near", "near", defArgs (top 27), defBody (top 27), defScope (top 27), [], []⟩
abbrev st_stepped : Stmt := top 28
theorem sc_stepped : FnScope ["rule", "cells", "states", "x", "y", "state", "found"] ["rule", "cells"] (defScope st_stepped) := ⟨rfl, rfl, rfl, by decide +kernel, rfl, by decide +kernel, by decide +kernel⟩
def d_stepped : He.DefD := ⟨("stepped", none), "stepped", "stepped", defArgs (top 28), defBody (top 28), defScope (top 28), [], []⟩
abbrev st_w_at : Stmt := top 30
theorem sc_w_at : FnScope ["_law_script", "_law_k"] ["_law_script", "_law_k"] (defScope st_w_at) := ⟨rfl, rfl, rfl, by decide +kernel, rfl, by decide +kernel, by decide +kernel⟩
def d_w_at : He.DefD := ⟨("_law_at", none), "_law_at", "_law_at", defArgs (top 30), defBody (top 30), defScope (top 30), [], []⟩
abbrev st_w_mix : Stmt := top 31
theorem sc_w_mix : FnScope ["_law_cell", "_law_k", "_law_value"] ["_law_cell", "_law_k"] (defScope st_w_mix) := ⟨rfl, rfl, rfl, by decide +kernel, rfl, by decide +kernel, by decide +kernel⟩
def d_w_mix : He.DefD := ⟨("_law_mix", none), "_law_mix", "_law_mix", defArgs (top 31), defBody (top 31), defScope (top 31), [], []⟩
abbrev st_w_state_by : Stmt := top 32
theorem sc_w_state_by : FnScope ["_law_mains", "_law_value"] ["_law_mains", "_law_value"] (defScope st_w_state_by) := ⟨rfl, rfl, rfl, by decide +kernel, rfl, by decide +kernel, by decide +kernel⟩
def d_w_state_by : He.DefD := ⟨("_law_state_by", none), "_law_state_by", "_law_state_by", defArgs (top 32), defBody (top 32), defScope (top 32), [], []⟩
abbrev st_w_condition_by : Stmt := top 33
theorem sc_w_condition_by : FnScope ["_law_mains", "_law_seed", "_law_j", "_law_wanted", "_law_k", "_law_value", "_law_mask"] ["_law_mains", "_law_seed", "_law_j"] (defScope st_w_condition_by) := ⟨rfl, rfl, rfl, by decide +kernel, rfl, by decide +kernel, by decide +kernel⟩
def d_w_condition_by : He.DefD := ⟨("_law_condition_by", none), "_law_condition_by", "_law_condition_by", defArgs (top 33), defBody (top 33), defScope (top 33), [], []⟩
abbrev st_w_clause_by : Stmt := top 34
theorem sc_w_clause_by : FnScope ["_law_mains", "_law_seed", "_law_j", "_law_taken", "_law_conditions", "_law_k"] ["_law_mains", "_law_seed", "_law_j"] (defScope st_w_clause_by) := ⟨rfl, rfl, rfl, by decide +kernel, rfl, by decide +kernel, by decide +kernel⟩
def d_w_clause_by : He.DefD := ⟨("_law_clause_by", none), "_law_clause_by", "_law_clause_by", defArgs (top 34), defBody (top 34), defScope (top 34), [], []⟩
abbrev st_w_holds : Stmt := top 35
theorem sc_w_holds : FnScope ["_law_condition", "_law_around", "_law_k", "_law_many", "_law_state"] ["_law_condition", "_law_around"] (defScope st_w_holds) := ⟨rfl, rfl, rfl, by decide +kernel, rfl, by decide +kernel, by decide +kernel⟩
def d_w_holds : He.DefD := ⟨("_law_holds", none), "_law_holds", "_law_holds", defArgs (top 35), defBody (top 35), defScope (top 35), [], []⟩
abbrev st_w_decides : Stmt := top 36
theorem sc_w_decides : FnScope ["_law_clauses", "_law_cell", "_law_around", "_law_at_here", "_law_fits", "_law_condition"] ["_law_clauses", "_law_cell", "_law_around"] (defScope st_w_decides) := ⟨rfl, rfl, rfl, by decide +kernel, rfl, by decide +kernel, by decide +kernel⟩
def d_w_decides : He.DefD := ⟨("_law_decides", none), "_law_decides", "_law_decides", defArgs (top 36), defBody (top 36), defScope (top 36), [], []⟩
abbrev st_w_becomes : Stmt := top 37
theorem sc_w_becomes : FnScope ["_law_clauses", "_law_cell", "_law_around", "_law_at_here"] ["_law_clauses", "_law_cell", "_law_around"] (defScope st_w_becomes) := ⟨rfl, rfl, rfl, by decide +kernel, rfl, by decide +kernel, by decide +kernel⟩
def d_w_becomes : He.DefD := ⟨("_law_becomes", none), "_law_becomes", "_law_becomes", defArgs (top 37), defBody (top 37), defScope (top 37), [], []⟩
abbrev st_w_clauses_by : Stmt := top 38
theorem sc_w_clauses_by : FnScope ["_law_script", "_law_first", "_law_many", "_law_mains", "_law_clauses", "_law_k"] ["_law_script", "_law_first", "_law_many"] (defScope st_w_clauses_by) := ⟨rfl, rfl, rfl, by decide +kernel, rfl, by decide +kernel, by decide +kernel⟩
def d_w_clauses_by : He.DefD := ⟨("_law_clauses_by", none), "_law_clauses_by", "_law_clauses_by", defArgs (top 38), defBody (top 38), defScope (top 38), [], []⟩
abbrev st_w_word : Stmt := top 39
theorem sc_w_word : FnScope ["_law_condition", "_law_state", "_law_k"] ["_law_condition"] (defScope st_w_word) := ⟨rfl, rfl, rfl, by decide +kernel, rfl, by decide +kernel, by decide +kernel⟩
def d_w_word : He.DefD := ⟨("_law_word", none), "_law_word", "_law_word", defArgs (top 39), defBody (top 39), defScope (top 39), [], []⟩
abbrev st_w_text : Stmt := top 40
theorem sc_w_text : FnScope ["_law_clauses", "_law_parts", "_law_clause", "_law_words", "_law_condition"] ["_law_clauses"] (defScope st_w_text) := ⟨rfl, rfl, rfl, by decide +kernel, rfl, by decide +kernel, by decide +kernel⟩
def d_w_text : He.DefD := ⟨("_law_text", none), "_law_text", "_law_text", defArgs (top 40), defBody (top 40), defScope (top 40), [], []⟩
abbrev st_w_by_rows : Stmt := top 41
theorem sc_w_by_rows : FnScope ["_law_cell"] ["_law_cell"] (defScope st_w_by_rows) := ⟨rfl, rfl, rfl, by decide +kernel, rfl, by decide +kernel, by decide +kernel⟩
def d_w_by_rows : He.DefD := ⟨("_law_by_rows", none), "_law_by_rows", "_law_by_rows", defArgs (top 41), defBody (top 41), defScope (top 41), [], []⟩
abbrev st_w_whole : Stmt := top 42
theorem sc_w_whole : FnScope ["_law_found"] ["_law_found"] (defScope st_w_whole) := ⟨rfl, rfl, rfl, by decide +kernel, rfl, by decide +kernel, by decide +kernel⟩
def d_w_whole : He.DefD := ⟨("_law_whole", none), "_law_whole", "_law_whole", defArgs (top 42), defBody (top 42), defScope (top 42), [], []⟩
abbrev st_w_right : Stmt := top 43
theorem sc_w_right : FnScope ["_law_found", "_law_due_here", "_law_k"] ["_law_found", "_law_due_here"] (defScope st_w_right) := ⟨rfl, rfl, rfl, by decide +kernel, rfl, by decide +kernel, by decide +kernel⟩
def d_w_right : He.DefD := ⟨("_law_right", none), "_law_right", "_law_right", defArgs (top 43), defBody (top 43), defScope (top 43), [], []⟩
abbrev st_w_heap : Stmt := top 44
theorem sc_w_heap : FnScope ["_law_script", "_law_first", "_law_left", "_law_top", "_law_states", "_law_mains", "_law_k", "_law_value"] ["_law_script", "_law_first", "_law_left", "_law_top", "_law_states"] (defScope st_w_heap) := ⟨rfl, rfl, rfl, by decide +kernel, rfl, by decide +kernel, by decide +kernel⟩
def d_w_heap : He.DefD := ⟨("_law_heap", none), "_law_heap", "_law_heap", defArgs (top 44), defBody (top 44), defScope (top 44), [], []⟩
abbrev st_w_due : Stmt := top 45
theorem sc_w_due : FnScope ["_law_clauses", "_law_states", "_law_offsets", "_law_places", "_law_x", "_law_y", "_law_dx", "_law_dy", "_law_found", "_law_around", "_law_state"] ["_law_clauses", "_law_states"] (defScope st_w_due) := ⟨rfl, rfl, rfl, by decide +kernel, rfl, by decide +kernel, by decide +kernel⟩
def d_w_due : He.DefD := ⟨("_law_due", none), "_law_due", "_law_due", defArgs (top 45), defBody (top 45), defScope (top 45), [], []⟩
abbrev st_w_number : Stmt := top 46
theorem sc_w_number : FnScope ["_law_cell"] ["_law_cell"] (defScope st_w_number) := ⟨rfl, rfl, rfl, by decide +kernel, rfl, by decide +kernel, by decide +kernel⟩
def d_w_number : He.DefD := ⟨("_law_number", none), "_law_number", "_law_number", defArgs (top 46), defBody (top 46), defScope (top 46), [], []⟩
abbrev st_law : Stmt := top 47
theorem sc_law : FnScope ["_law_script", "_law_clauses", "_law_left", "_law_top", "_law_states", "_law_cells", "_law_due_here", "_law_rule", "_law_handed", "_law_found", "_law_place"] ["_law_script"] (defScope st_law) := ⟨rfl, rfl, rfl, by decide +kernel, rfl, by decide +kernel, by decide +kernel⟩
def d_law : He.DefD := ⟨("law", none), "law", "law", defArgs (top 47), defBody (top 47), defScope (top 47), [], []⟩
def fn : List He.DefD := [d_x_wall, d_by_rows, d_Condition_holds, d_Condition_reordered, d_Condition_written, d_Amount_init, d_Amount_holds, d_Amount_written, d_Places_init, d_Places_holds, d_Places_reordered, d_Places_written, d_Clause_init, d_Clause_fits, d_Clause_reordered, d_Clause_written, d_Rule_init, d_deciding, d_becomes, d_read_state, d_read_wish, d_read_numbers, d_read_condition, d_read_clause, d_read_rule, d_around_at, d_near, d_stepped, d_w_at, d_w_mix, d_w_state_by, d_w_condition_by, d_w_clause_by, d_w_holds, d_w_decides, d_w_becomes, d_w_clauses_by, d_w_word, d_w_text, d_w_by_rows, d_w_whole, d_w_right, d_w_heap, d_w_due, d_w_number, d_law]
def fa : List He.Fa := [(.glo "_wall"), (.free "zip"), (.cls "Places"), (.meth "Places" "holds"), (.cls "Amount"), (.meth "Amount" "holds"), (.free "enumerate"), (.cls "Clause"), (.meth "Clause" "fits"), (.glo "deciding"), (.str "STATES" "01234567"), (.free "len"), (.free "int"), (.glo "read_state"), (.str "NUMBERS" "012345678"), (.mkr "Amount"), (.glo "Amount"), (.glo "read_numbers"), (.mkr "Places"), (.glo "Places"), (.glo "read_wish"), (.glo "read_condition"), (.mkr "Clause"), (.glo "Clause"), (.free "str"), (.free "isinstance"), (.glo "read_clause"), (.mkr "Rule"), (.glo "Rule"), (.glo "becomes"), (.glo "OFFSETS"), (.glo "near"), (.glo "around_at"), (.free "sorted"), (.glo "by_rows"), (.glo "_law_mix"), (.free "range"), (.glo "_law_state_by"), (.glo "_law_condition_by"), (.glo "_law_holds"), (.glo "_law_decides"), (.glo "_law_at"), (.glo "_law_clause_by"), (.glo "_law_becomes"), (.glo "_law_word"), (.free "bool"), (.free "list"), (.free "tuple"), (.glo "_law_whole"), (.free "max"), (.glo "_law_by_rows"), (.glo "_law_clauses_by"), (.glo "_law_number"), (.glo "_law_heap"), (.free "reversed"), (.glo "_law_due"), (.glo "read_rule"), (.glo "_law_text"), (.glo "stepped"), (.glo "_law_right"), (.noat "Amount" "numbers"), (.noat "Amount" "state"), (.noat "Clause" "conditions"), (.noat "Clause" "made"), (.noat "Clause" "taken"), (.noat "Places" "wanted"), (.noat "Rule" "clauses"), (.cls "Rule"), (.glo "law")]
def loose0 : List Str := ["_wall", "FieldError", "NoRule", "Restless", "by_rows", "Condition", "Amount", "Places", "Clause", "STATES", "NUMBERS", "Rule", "deciding", "becomes", "read_state", "read_wish", "read_numbers", "read_condition", "read_clause", "read_rule", "OFFSETS", "around_at", "near", "stepped", "_law_at", "_law_mix", "_law_state_by", "_law_condition_by", "_law_clause_by", "_law_holds"]
def loose1 : List Str := ["_law_decides", "_law_becomes", "_law_clauses_by", "_law_word", "_law_text", "_law_by_rows", "_law_whole", "_law_right", "_law_heap", "_law_due", "_law_number"]
def looseN : List Str := loose0 ++ loose1
end JF

/-! ### the head's run, early in the text: it wants much room -/
namespace JF
open PySem PySem.Spec PyProof.Rows L2
abbrev Rr : PySem.W.OpenRow := PySem.W.OpenLaw.row PySem.Challenge.rw_jumpfield_k41_a_plain_step
abbrev AlE : Type := Bool × He.AlD
def obsE (K : PySem.W.Frag) : AlE := (tbB K, He.obsD fa fn K)
def valE : AlE := (true, He.valD fn)
def obsEG (g : Addr → Option Obj) : AlE := obsE (He.frG g (He.asD g 4))
def hk : PySem.W.Hook where
  α := AlE
  obs := fun s => obsEG s.heap.get?
  val := fun _ => valE
  says := fun _ h => ∃ K : PySem.W.Frag, K.In h ∧ obsE K = valE
  of := fun _ _ e => ⟨_, He.frG_in, e⟩
  keeps := fun _ _ _ ⟨K, hK, c⟩ k => ⟨K, PySem.W.Frag.In.keeps hK k, c⟩
def ob (s : PySem.W.SharedT) : hk.α := obsEG (HandSHeadRun.getT s)
theorem ob_eq (s : PySem.W.SharedT) : ob s = hk.obs s.abs := by
  have e : HandSHeadRun.getT s = s.abs.heap.get? := funext (HandSHeadRun.getT_eq s)
  show obsEG (HandSHeadRun.getT s) = obsEG s.abs.heap.get?
  rw [e]
theorem run (w : World) : HandSHeadRun.RunEq Rr (PySem.W.view Rr.prog [47]) hk ob 100000 looseN w := by
  intro os
  kernel_rfl
end JF

/-! ### readings step by step: a rule for each construct, tried by «walk_at "rd"» -/
namespace JF
open PySem PySem.Spec PyProof.Rows L2
section
variable {D : Ends} {σ : L2.St} {H : Hp} {Q : VK} {QB : Bool → Hp → Prop} {QA : List V → Hp → Prop} {t u : TS} {te ta tb tc : TE} {g : TG} {c c' : TT} {v : V} {i : Nat} {K : PySem.W.Frag}
theorem rd_seq (h : t { D with nx := u D } σ H) : tSeq t u D σ H := h
/-- the walk halts ahead of a loop -/
def Halt (p : Prop) : Prop := p
theorem rd_seqF {wi : TI} (h : Halt (tSeq (tFor wi g t) u D σ H)) : tSeq (tFor wi g t) u D σ H := h
theorem rd_seqW (h : Halt (tSeq (tWhile c t) u D σ H)) : tSeq (tWhile c t) u D σ H := h
theorem rd_seqI {t' : TS} (h : Halt (tSeq (tIfS c t t') u D σ H)) : tSeq (tIfS c t t') u D σ H := h
theorem rd_next (h : D.nx σ H) : tNext D σ H := h
theorem rd_asg (h : te σ H fun x H1 => g x σ H1 D.nx) : tAsg te g D σ H := h
theorem rd_gname {R : L2.St → Hp → Prop} (h : R (σ.set i (some v)) H) : gName i v σ H R := h
theorem rd_ret (h : te σ H D.rt) : tRet te D σ H := h
theorem rd_retN (h : D.rt .non H) : tRetN D σ H := h
theorem rd_drop (h : te σ H fun _ H1 => D.nx σ H1) : tDrop te D σ H := h
theorem rd_if (h : c σ H fun b H1 => if b = true then t D σ H1 else u D σ H1) : tIfS c t u D σ H := h
theorem rd_ifE (h : c σ H fun b H1 => if b = true then ta σ H1 Q else tb σ H1 Q) : tIf c ta tb σ H Q := h
theorem rd_brk (h : D.bk σ H) : tBreak D σ H := h
theorem rd_cont (h : D.ct σ H) : tCont D σ H := h
theorem rd_var (h : σ[i]? = some (some v)) (q : Q v H) : tVar i σ H Q := ⟨v, h, q⟩
theorem rd_c (q : Q v H) : tC v σ H Q := q
theorem rd_op {r : R2} (h : ta σ H fun x H1 => tb σ H1 fun y H2 => r x y H2 Q) : tOp r ta tb σ H Q := h
theorem rd_un {r : V → Hp → VK → Prop} (h : ta σ H fun x H1 => r x H1 Q) : tUn r ta σ H Q := h
theorem rd_I0 {f : Int → Int → V} {a b : Int} (q : Q (f a b) H) : rI0 f (.int a) (.int b) H Q := ⟨a, b, rfl, rfl, q⟩
theorem rd_U {f : Int → V} {a : Int} (q : Q (f a) H) : rU f (.int a) H Q := ⟨a, rfl, q⟩
theorem rd_test (h : te σ H fun x H' => ∃ k, x = .bl k ∧ QB k H') : tTest te σ H QB := h
theorem rd_B (h : te σ H fun x H' => ∃ k, x = .bl k ∧ QB k H') : tB te σ H QB := h
theorem rd_bl {b : Bool} {R : Bool → Prop} (q : R b) : ∃ k, V.bl b = .bl k ∧ R k := ⟨b, rfl, q⟩
theorem iteT' {A B : Prop} (h : A) : if true = true then A else B := iteT h
theorem iteF' {A B : Prop} (h : B) : if false = true then A else B := iteF h
theorem iteNT {A B : Prop} (h : B) : if (!true) = true then A else B := iteF h
theorem iteNF {A B : Prop} (h : A) : if (!false) = true then A else B := iteT h
theorem rd_for {wi : TI} (h : wi σ H fun J H1 => ∃ W : Nat → Nat → L2.St → Hp → Prop, (∃ m, W 0 m σ H1) ∧ ∀ i m σ H, W i m σ H →
  (J.stop i H ∧ D.nx σ H) ∨ (J.go i H ∧ ∃ N : L2.St → Hp → Prop, (∀ σ' H', N σ' H' → ∃ m', m' < m ∧ W (i + 1) m' σ' H') ∧ ∀ x H', J.yld i H x H' → g x σ H' fun σ2 H2 => t { D with nx := N, ct := N, bk := D.nx } σ2 H2)) : tFor wi g t D σ H := h
theorem rd_and (h : c σ H fun b H1 => if b = true then c' σ H1 QB else QB false H1) : tAnd c c' σ H QB := h
theorem rd_or (h : c σ H fun b H1 => if b = true then QB true H1 else c' σ H1 QB) : tOr c c' σ H QB := h
theorem rd_not (h : c σ H fun b H1 => QB (!b) H1) : tNot c σ H QB := h
theorem rd_andV (h : ta σ H fun x H1 => ∃ k, x = .bl k ∧ if k = true then tb σ H1 Q else Q (.bl false) H1) : tAndV ta tb σ H Q := h
theorem rd_orV (h : ta σ H fun x H1 => ∃ k, x = .bl k ∧ if k = true then Q (.bl true) H1 else tb σ H1 Q) : tOrV ta tb σ H Q := h
theorem rd_notV (h : ta σ H fun x H1 => ∃ k, x = .bl k ∧ Q (.bl (!k)) H1) : tNotV ta σ H Q := h
theorem rd_eqI {a b : Int} (q : Q (.bl (decide (a = b))) H) : rEq (.int a) (.int b) H Q := ⟨rfl, by
  have e : decide (V.int a = V.int b) = decide (a = b) := by by_cases z : a = b <;> simp [z]
  rw [e]; exact q⟩
theorem rd_neI {a b : Int} (q : Q (.bl (!decide (a = b))) H) : rNe (.int a) (.int b) H Q := ⟨rfl, by
  have e : decide (V.int a = V.int b) = decide (a = b) := by by_cases z : a = b <;> simp [z]
  rw [e]; exact q⟩
theorem rd_eqS {a b : Str} (q : Q (.bl (decide (a = b))) H) : rEq (.str a) (.str b) H Q := ⟨rfl, by
  have e : decide (V.str a = V.str b) = decide (a = b) := by by_cases z : a = b <;> simp [z]
  rw [e]; exact q⟩
theorem rd_neS {a b : Str} (q : Q (.bl (!decide (a = b))) H) : rNe (.str a) (.str b) H Q := ⟨rfl, by
  have e : decide (V.str a = V.str b) = decide (a = b) := by by_cases z : a = b <;> simp [z]
  rw [e]; exact q⟩
theorem rd_nil (q : QA [] H) : tNil σ H QA := q
theorem rd_cons {tr : TA} (h : ta σ H fun x H1 => tr σ H1 fun xs H2 => QA (x :: xs) H2) : tCons ta tr σ H QA := h
theorem rd_call {sp : Sp} {dvs : List V} {E : XK} {tr : TA} (h : tr σ H fun vs H1 => sp (vs ++ dvs) H1 Q E) : tCall sp dvs E tr σ H Q := h
theorem rd_CB {r : List V → Hp → VK → Prop} {tr : TA} (h : tr σ H fun vs H1 => r vs H1 Q) : tCB r tr σ H Q := h
theorem rd_meth {C : Addr} {m : Str} {sp : Sp} {dvs : List V} {E : XK} {tr : TA} (h : ta σ H fun x H1 => ∃ a dx fs, x = .ref a ∧ H1 a = some (.ins C dx fs) ∧ fs.lookup m = none ∧ tr σ H1 fun vs H2 => sp (x :: (vs ++ dvs)) H2 Q E) : tMeth C m sp dvs E ta tr σ H Q := h
theorem rd_methR {a dx : Addr} {fs : List (Str × V)} {C : Addr} {m : Str} {R : Prop} (h1 : H a = some (.ins C dx fs)) (h2 : fs.lookup m = none) (q : R) : ∃ a' dx fs, V.ref a = .ref a' ∧ H a' = some (.ins C dx fs) ∧ fs.lookup m = none ∧ R := ⟨a, dx, fs, rfl, h1, h2, q⟩
theorem rd_fld {f : Str} (h : ta σ H fun x H1 => ∃ a C dx fs v, x = .ref a ∧ H1 a = some (.ins C dx fs) ∧ Cls K C ∧ NoAttr K C f ∧ fs.lookup f = some v ∧ Q v H1) : tFld K ta f σ H Q := h
theorem rd_fldR {a C dx : Addr} {fs : List (Str × V)} {f : Str} {R : V → Prop} (h1 : H a = some (.ins C dx fs)) (h2 : Cls K C) (h3 : NoAttr K C f) (h4 : fs.lookup f = some v) (q : R v) : ∃ a' C dx fs v, V.ref a = .ref a' ∧ H a' = some (.ins C dx fs) ∧ Cls K C ∧ NoAttr K C f ∧ fs.lookup f = some v ∧ R v := ⟨a, C, dx, fs, v, rfl, h1, h2, h3, h4, q⟩
theorem rd_chain {r r' : R2} (h : ta σ H fun x H1 => tb σ H1 fun y H2 => r x y H2 fun z H3 => ∃ k, z = .bl k ∧ (if k = true then tc σ H3 fun w' H4 => r' y w' H4 Q else Q (.bl false) H3)) : tChain r r' ta tb tc σ H Q := h
theorem rd_tup {tr : TA} (h : tr σ H fun xs H1 => xs.length ≤ sizeLine ∧ ∀ p, H1 p = none → Q (.ref p) (upd H1 p (.tup xs))) : tTup tr σ H Q := h
theorem rd_lst {tr : TA} (h : tr σ H fun xs H1 => xs.length ≤ sizeLine ∧ ∀ p, H1 p = none → Q (.ref p) (upd H1 p (.lst xs))) : tLst tr σ H Q := h
theorem rd_new {n : Nat} {R : Addr → Prop} (hn : n ≤ sizeLine := by (first | (show _ ≤ sizeLine; decide) | omega)) (h : ∀ p, H p = none → R p) : n ≤ sizeLine ∧ ∀ p, H p = none → R p := ⟨hn, h⟩
theorem rd_bm {T : String} {r : V → List V → Hp → VK → Prop} {tr : TA} (h : ta σ H fun x H1 => tyV K T x H1 ∧ tr σ H1 fun xs H2 => r x xs H2 Q) : tBM K T r ta tr σ H Q := h
theorem rd_bm0 {T : String} {r : V → List V → Hp → VK → Prop} (h : ta σ H fun x H1 => tyV K T x H1 ∧ r x [] H1 Q) : tBM0 K T r ta σ H Q := h
theorem rd_ixL {p : Addr} {xs : List V} {k : Int} (h1 : SqL K H p xs) (h2 : atI xs k = some v) (q : Q v H) : rIxL K (.ref p) (.int k) H Q := ⟨p, xs, k, v, rfl, rfl, h1, h2, q⟩
theorem rd_ixT {p : Addr} {xs : List V} {k : Int} (h1 : SqT K H p xs) (h2 : atI xs k = some v) (q : Q v H) : rIxT K (.ref p) (.int k) H Q := ⟨p, xs, k, v, rfl, rfl, h1, h2, q⟩
theorem rd_tyL {l : Addr} {xs : List V} {R : Prop} (h1 : H l = some (.lst xs)) (q : R) : tyV K "list" (.ref l) H ∧ R := ⟨Or.inl ⟨rfl, _, Or.inl (Or.inl h1)⟩, q⟩
theorem rd_append {l : Addr} {xs : List V} {y : V} (h1 : H l = some (.lst xs)) (h2 : xs.length < sizeLine) (q : Q .non (upd H l (.lst (xs ++ [y])))) : rAppend (.ref l) [y] H Q :=
  ⟨l, xs, y, rfl, rfl, h1, h2, q⟩
theorem rd_dget {td ty : TE} (h : td σ H fun x H1 => ty σ H1 fun y H2 => ∃ a v, x = .ref a ∧ DGet H2 a y (some v) ∧ Q v H2) : tDGet td ty σ H Q := h
theorem rd_din {td ty : TE} (h : ty σ H fun y H1 => td σ H1 fun x H2 => ∃ a o, x = .ref a ∧ DGet H2 a y o ∧ Q (.bl o.isSome) H2) : tDIn ty td σ H Q := h
theorem rd_dput {td ty tv : TE} (h : tv σ H fun v H1 => td σ H1 fun x H2 => ty σ H2 fun y H3 => ∃ a H4, x = .ref a ∧ DPut H3 a y v H4 ∧ D.nx σ H4) : sDPut td ty tv D σ H := h
theorem rd_2I {a b : Int} {R : Int → Int → Prop} (h : R a b) : ∃ i j, [V.int a, V.int b] = [V.int i, V.int j] ∧ R i j := ⟨a, b, rfl, h⟩
theorem rd_I {C : Int → Int → Prop} {f : Int → Int → V} {a b : Int} (hc : C a b) (q : Q (f a b) H) : rI C f (.int a) (.int b) H Q := ⟨a, b, rfl, rfl, hc, q⟩
theorem rd_mod {f : Int → Int → V} {a b : Int} (hc : 0 < b) (q : Q (f a b) H) : rI (fun _ j => 0 < j) f (.int a) (.int b) H Q := ⟨a, b, rfl, rfl, hc, q⟩
theorem rd_fdiv {f : Int → Int → V} {a b : Int} (h1 : 0 < b) (h2 : b < 2 ^ 100) (q : Q (f a b) H) : rI CDivW f (.int a) (.int b) H Q :=
  ⟨a, b, rfl, rfl, wide_div h1 (b := 100) (by have h3 : (b.natAbs : Int) = b := by omega
                                              have h4 : (b.natAbs : Int) < ((2 ^ 100 : Nat) : Int) := by rw [h3]; exact h2
                                              exact Int.ofNat_lt.mp h4) (by decide) (by decide), q⟩
theorem mulW_of {a b : Int} (h1 : -(2 ^ 2000) < a) (h2 : a < 2 ^ 2000) (h3 : -(2 ^ 2000) < b) (h4 : b < 2 ^ 2000) : CMulW a b := by
  have e : ∀ x : Int, -(2 ^ 2000) < x → x < 2 ^ 2000 → x.natAbs < 2 ^ 2000 := fun x p q => by
    have e1 : ((2 ^ 2000 : Nat) : Int) = (2 : Int) ^ 2000 := by norm_cast
    have h : (x.natAbs : Int) < ((2 ^ 2000 : Nat) : Int) := by rw [e1]; omega
    exact Int.ofNat_lt.mp h
  exact wide_mul (e a h1 h2) (e b h3 h4) (by decide) (by decide) (by decide)
theorem rd_nn {R : Prop} (h : R) : V.non = V.non ∧ R := ⟨rfl, h⟩
theorem rd_len {p : Addr} {ys : List V} {R : List V → Prop} (h : SqL K H p ys) (q : R ys) : ∃ p' ys, [V.ref p] = [V.ref p'] ∧ (SqL K H p' ys ∨ SqT K H p' ys) ∧ R ys := ⟨p, ys, rfl, .inl h, q⟩
theorem rd_lenT {p : Addr} {ys : List V} {R : List V → Prop} (h : SqT K H p ys) (q : R ys) : ∃ p' ys, [V.ref p] = [V.ref p'] ∧ (SqL K H p' ys ∨ SqT K H p' ys) ∧ R ys := ⟨p, ys, rfl, .inr h, q⟩
theorem rd_iE {tr : TA} {R : It → Hp → Prop} (h : tr σ H fun vs H1 => ∃ a xs, vs = [.ref a] ∧ SqL K H1 a xs ∧ R (Ite K a) H1) : iEnum K tr σ H R := h
theorem rd_iL {R : It → Hp → Prop} (h : te σ H fun x H1 => ∃ a, x = .ref a ∧ (∃ xs, SqL K H1 a xs) ∧ R (Itl K a) H1) : iList K te σ H R := h
theorem rd_iT {R : It → Hp → Prop} (h : te σ H fun x H1 => ∃ a, x = .ref a ∧ (∃ xs, SqT K H1 a xs) ∧ R (Itt K a) H1) : iTup K te σ H R := h
theorem rd_iR1 {tr : TA} {R : It → Hp → Prop} (h : tr σ H fun vs H1 => ∃ j : Int, vs = [.int j] ∧ -(2 ^ 62) ≤ j ∧ j < 2 ^ 62 ∧ R (Itr 0 j.toNat) H1) : iRng1 tr σ H R := h
theorem rd_iR2 {tr : TA} {R : It → Hp → Prop} (h : tr σ H fun vs H1 => ∃ i j : Int, vs = [.int i, .int j] ∧ (-(2 ^ 62) ≤ i ∧ i < 2 ^ 62 ∧ -(2 ^ 62) ≤ j ∧ j < 2 ^ 62) ∧ R (Itr i (j - i).toNat) H1) : iRng2 tr σ H R := h
theorem rd_iR3 {tr : TA} {R : It → Hp → Prop} (h : tr σ H fun vs H1 => ∃ (i j c : Int) (n : Nat), vs = [.int i, .int j, .int c] ∧ RgC i j c n ∧ R (Itc i c n) H1) : iRng3 tr σ H R := h
theorem rd_iS {R : It → Hp → Prop} (h : te σ H fun v H1 => ∃ x, v = .str x ∧ R (Its x) H1) : iStr te σ H R := h
theorem rd_iZ {tr : TA} {R : It → Hp → Prop} (h : tr σ H fun vs H1 => ∃ a b xs ys, vs = [.ref a, .ref b] ∧ SqL K H1 a xs ∧ SqL K H1 b ys ∧ R (Itz K a b) H1) : iZip K tr σ H R := h
theorem rd_sl {r : V → Option Int → Option Int → Hp → VK → Prop} {tl th : TO} (h : te σ H fun x H1 => tl σ H1 fun l H2 => th σ H2 fun u H3 => r x l u H3 Q) : tSl r te tl th σ H Q := h
theorem rd_np {R : Option Int → Hp → Prop} (h : R none H) : tNoPart σ H R := h
theorem rd_pt {R : Option Int → Hp → Prop} (h : te σ H fun x H1 => ∃ i, x = .int i ∧ R (some i) H1) : tPart te σ H R := h
theorem rd_int {a : Int} {R : Int → Prop} (h : R a) : ∃ i, V.int a = .int i ∧ R i := ⟨a, rfl, h⟩
theorem rd_gtup {n : Nat} {tt : TGs} {a : Addr} {xs : List V} {R : L2.St → Hp → Prop} (h1 : SqT K H a xs) (h2 : xs.length = n) (q : tt xs σ H R) : gTup K n tt (.ref a) σ H R := ⟨a, xs, rfl, h1, h2, q⟩
theorem rd_gcons {tt : TGs} {r : List V} {R : L2.St → Hp → Prop} (q : g v σ H fun σ' H' => tt r σ' H' R) : gCons g tt (v :: r) σ H R := ⟨v, r, rfl, q⟩
theorem rd_gsub {to ti : TE} {ts : TSet} {R : L2.St → Hp → Prop} (h : to σ H fun o H1 => ti σ H1 fun i H2 => ts o i v H2 fun H3 => R σ H3) : gSub to ti ts v σ H R := h
theorem rd_gnil {R : L2.St → Hp → Prop} (q : R σ H) : gNil [] σ H R := ⟨rfl, q⟩
theorem rd_lc {wi : TI} {vs : List Nat} (h : wi σ H fun J H1 => ∀ D, H1 D = none → ∃ W : Nat → Nat → Hp → Prop, (∃ m, W 0 m (upd H1 D (.lst []))) ∧ ∀ i m H, W i m H →
  (J.stop i H ∧ Q (.ref D) H) ∨ (J.go i H ∧ ∃ Nx : Hp → Prop, (∀ H', Nx H' → ∃ m', m' < m ∧ W (i + 1) m' H') ∧ ∀ x H', J.yld i H x H' → g x (wipe σ vs) H' fun σ2 H2 => wipe σ2 vs = wipe σ vs ∧ c σ2 H2 fun b H3 =>
    if b = true then te σ2 H3 fun y H4 => ∃ acc, H4 D = some (.lst acc) ∧ acc.length < sizeLine ∧ Nx (upd H4 D (.lst (acc ++ [y]))) else Nx H3)) : tLc wi g c te vs σ H Q := h
theorem rd_yes (h : QB true H) : tYes σ H QB := h
theorem rd_dsetd {td ty tx : TE} (h : td σ H fun x H1 => ∃ a, x = .ref a ∧ IsD H1 a ∧ ty σ H1 fun y H2 => tx σ H2 fun z H3 => ∃ (kvs : List (Key × V)) (k : Key), H3 a = some (.dK kvs) ∧ y = kV k ∧ kvs.length < sizeLine ∧
  (∀ v, valV kvs k = some v → Q v H3) ∧ (valV kvs k = none → Q z (upd H3 a (.dK (putK kvs k z))))) : tDSetd td ty tx σ H Q := h
theorem rd_isD {a : Addr} {kvs : List (Key × V)} {R : Addr → Prop} (h : H a = some (.dK kvs)) (q : R a) : ∃ b, V.ref a = .ref b ∧ IsD H b ∧ R b := ⟨a, rfl, .inl ⟨kvs, .inl h⟩, q⟩
theorem rd_fldS {ta tv : TE} {f : Str} (h : tv σ H fun y H1 => ta σ H1 fun x H2 => ∃ a C dx fs, x = .ref a ∧ H2 a = some (.ins C dx fs) ∧ Cls K C ∧ NoAttr K C f ∧ fs.length < 1000 ∧ D.nx σ (upd H2 a (.ins C dx (putF f y fs)))) : sFld K ta tv f D σ H := h
theorem rd_newK {R : Addr → Prop} (h : ∀ p, H p = none → R p) : ∀ p, H p = none → R p := h
theorem dp_ints {ns : List Int} : DpAll K H (ns.map V.int) (ns.map PyData.int) := by
  induction ns with
  | nil => exact .nil
  | cons n r ih => exact .cons (.int n) ih
theorem rd_eqDI {p p' : Addr} {ns ms : List Int} (h1 : SqL K H p (ns.map V.int)) (h2 : SqL K H p' (ms.map V.int)) (s1 : SeqAt.shaped (.list (ns.map PyData.int)) = true) (s2 : SeqAt.shaped (.list (ms.map PyData.int)) = true)
    (q : Q (.bl (PyData.eqv (.list (ns.map PyData.int)) (.list (ms.map PyData.int)))) H) : rEqD K (.ref p) (.ref p') H Q := ⟨_, _, .lst h1 dp_ints, .lst h2 dp_ints, s1, s2, q⟩
theorem rd_neDI {p p' : Addr} {ns ms : List Int} (h1 : SqL K H p (ns.map V.int)) (h2 : SqL K H p' (ms.map V.int)) (s1 : SeqAt.shaped (.list (ns.map PyData.int)) = true) (s2 : SeqAt.shaped (.list (ms.map PyData.int)) = true)
    (q : Q (.bl (!PyData.eqv (.list (ns.map PyData.int)) (.list (ms.map PyData.int)))) H) : rNeD K (.ref p) (.ref p') H Q := ⟨_, _, .lst h1 dp_ints, .lst h2 dp_ints, s1, s2, q⟩
theorem rd_rep {l : Addr} {k : Int} {xs : List V} (h1 : H l = some (.lst xs)) (h2 : -(2 ^ 63) ≤ k) (h3 : k < 2 ^ 63) (h4 : xs.length * k.toNat ≤ sizeLine) (q : ∀ p, H p = none → Q (.ref p) (upd H p (.lst (List.replicate k.toNat xs).flatten))) : rRep (.ref l) (.int k) H Q :=
  ⟨l, k, xs, rfl, rfl, h1, h2, h3, h4, q⟩
theorem ite_d {p : Prop} [Decidable p] {A B : Prop} (h1 : p → A) (h2 : ¬ p → B) : if decide p = true then A else B := by
  by_cases h : p
  · rw [decide_eq_true h, if_pos rfl]; exact h1 h
  · rw [decide_eq_false h, if_neg Bool.false_ne_true]; exact h2 h
theorem ite_nd {p : Prop} [Decidable p] {A B : Prop} (h1 : ¬ p → A) (h2 : p → B) : if (!decide p) = true then A else B := by
  by_cases h : p
  · rw [decide_eq_true h]; exact iteF (h2 h)
  · rw [decide_eq_false h]; exact iteT (h1 h)
theorem ite_b {b : Bool} {A B : Prop} (h1 : b = true → A) (h2 : b = false → B) : if b = true then A else B := by
  cases b
  · exact iteF (h2 rfl)
  · exact iteT (h1 rfl)
theorem ite_nb {b : Bool} {A B : Prop} (h1 : b = false → A) (h2 : b = true → B) : if (!b) = true then A else B := by
  cases b
  · exact iteT (h1 rfl)
  · exact iteF (h2 rfl)
end
end JF

local macro_rules | `(tactic| walk_at "rs1") => `(tactic| first
  | with_reducible refine JF.rd_seq ?_ | with_reducible refine JF.rd_asg ?_ | with_reducible refine JF.rd_gname ?_
  | with_reducible refine JF.rd_var rfl ?_ | with_reducible refine JF.rd_c ?_ | with_reducible refine JF.rd_op ?_ | with_reducible refine JF.rd_I0 ?_
  | with_reducible refine JF.rd_if ?_ | with_reducible refine JF.rd_test ?_ | with_reducible refine JF.rd_bl ?_
  | with_reducible refine JF.rd_eqI ?_ | with_reducible refine JF.rd_neI ?_ | with_reducible refine JF.rd_eqS ?_ | with_reducible refine JF.rd_neS ?_
  | with_reducible refine JF.rd_cons ?_ | with_reducible refine JF.rd_nil ?_ | with_reducible refine JF.rd_call ?_ | with_reducible refine JF.rd_meth ?_ | with_reducible refine JF.rd_fld ?_ | with_reducible refine JF.rd_CB ?_
  | with_reducible refine JF.rd_ret ?_ | with_reducible refine JF.rd_drop ?_ | with_reducible refine JF.rd_next ?_ | with_reducible refine JF.rd_and ?_ | with_reducible refine JF.rd_or ?_ | with_reducible refine JF.rd_not ?_
  | with_reducible refine JF.rd_andV ?_ | with_reducible refine JF.rd_orV ?_ | with_reducible refine JF.rd_notV ?_ | with_reducible refine JF.rd_B ?_ | with_reducible refine JF.rd_un ?_ | with_reducible refine JF.rd_U ?_
  | with_reducible refine JF.rd_chain ?_ | with_reducible refine JF.rd_tup ?_ | with_reducible refine JF.rd_lst ?_ | with_reducible refine JF.rd_bm ?_ | with_reducible refine JF.rd_bm0 ?_
  | with_reducible refine JF.rd_dget ?_ | with_reducible refine JF.rd_din ?_ | with_reducible refine JF.rd_dput ?_ | with_reducible refine JF.rd_ifE ?_ | with_reducible refine JF.rd_retN ?_ | with_reducible refine JF.rd_brk ?_ | with_reducible refine JF.rd_cont ?_
  | with_reducible refine JF.iteT' ?_ | with_reducible refine JF.iteF' ?_ | with_reducible refine JF.iteNT ?_ | with_reducible refine JF.iteNF ?_ | ((with_reducible refine' JF.rd_fldR ?h1 ?h2 ?h3 ?h4 ?q); (case h1 => assumption); (case h2 => assumption); (case h3 => assumption); (case h4 => exact rfl))
  | with_reducible refine JF.rd_dsetd ?_ | with_reducible refine JF.rd_fldS ?_
  | with_reducible refine JF.rd_yes ?_ | with_reducible refine JF.rd_iE ?_ | with_reducible refine JF.rd_iL ?_ | with_reducible refine JF.rd_iT ?_ | with_reducible refine JF.rd_iR1 ?_ | with_reducible refine JF.rd_iR2 ?_ | with_reducible refine JF.rd_iR3 ?_ | with_reducible refine JF.rd_iS ?_ | with_reducible refine JF.rd_iZ ?_ | with_reducible refine JF.rd_sl ?_ | with_reducible refine JF.rd_np ?_ | with_reducible refine JF.rd_pt ?_ | with_reducible refine JF.rd_int ?_
  | ((with_reducible refine' JF.rd_gtup ?h1 ?h2 ?q); (case h1 => exact L2.SqT.of (by assumption)); (case h2 => exact rfl)) | with_reducible refine JF.rd_gcons ?_ | with_reducible refine JF.rd_gnil ?_ | with_reducible refine JF.rd_gsub ?_
  | with_reducible refine JF.rd_2I ?_ | ((with_reducible refine' JF.rd_ixT ?h1 ?h2 ?q); (case h1 => exact L2.SqT.of (by assumption)); (case h2 => exact rfl)) | ((with_reducible refine JF.rd_mod ?_ ?_); · decide) | ((with_reducible refine JF.rd_fdiv ?h1 ?h2 ?_); (case h1 => decide); (case h2 => decide)) | with_reducible refine JF.rd_nn ?_)
local macro_rules | `(tactic| walk_at "rd1") => `(tactic| first | walk_at "rs1" | with_reducible refine JF.rd_for ?_ | with_reducible refine JF.rd_lc ?_)
local macro_rules | `(tactic| walk_at "rh") => `(tactic| repeat (first | with_reducible refine JF.rd_seqF ?_ | with_reducible refine JF.rd_seqW ?_ | walk_at "rs1"))
local macro_rules | `(tactic| walk_at "rhi") => `(tactic| repeat (first | with_reducible refine JF.rd_seqF ?_ | with_reducible refine JF.rd_seqW ?_ | with_reducible refine JF.rd_seqI ?_ | walk_at "rs1"))
local macro_rules | `(tactic| walk_at "rs") => `(tactic| repeat walk_at "rs1")
local macro_rules | `(tactic| walk_at "rd") => `(tactic| repeat walk_at "rd1")
local macro_rules | `(tactic| walk_at "ne") => `(tactic| first | assumption | (apply Ne.symm; assumption))
local macro_rules | `(tactic| walk_at "hp") => `(tactic| first | assumption | exact L2.upd_same | ((with_reducible refine (L2.upd_ne ?h1).trans ?h2); (case h1 => walk_at "ne"); (case h2 => walk_at "hp")))

/-! ### readings are monotone in what is wanted; a cut between two statements -/
namespace JF
open PySem PySem.Spec PyProof.Rows L2
def MonE (t : TE) : Prop := ∀ σ H (Q Q' : VK), (∀ v H, Q v H → Q' v H) → t σ H Q → t σ H Q'
def MonT (t : TT) : Prop := ∀ σ H (Q Q' : Bool → Hp → Prop), (∀ v H, Q v H → Q' v H) → t σ H Q → t σ H Q'
def MonA (t : TA) : Prop := ∀ σ H (Q Q' : List V → Hp → Prop), (∀ v H, Q v H → Q' v H) → t σ H Q → t σ H Q'
def MonO (t : TO) : Prop := ∀ σ H (Q Q' : Option Int → Hp → Prop), (∀ v H, Q v H → Q' v H) → t σ H Q → t σ H Q'
def MonR (r : R2) : Prop := ∀ x y H (Q Q' : VK), (∀ v H, Q v H → Q' v H) → r x y H Q → r x y H Q'
def MonU (r : V → Hp → VK → Prop) : Prop := ∀ x H (Q Q' : VK), (∀ v H, Q v H → Q' v H) → r x H Q → r x H Q'
def MonC (r : List V → Hp → VK → Prop) : Prop := ∀ x H (Q Q' : VK), (∀ v H, Q v H → Q' v H) → r x H Q → r x H Q'
def MonM (r : V → List V → Hp → VK → Prop) : Prop := ∀ x y H (Q Q' : VK), (∀ v H, Q v H → Q' v H) → r x y H Q → r x y H Q'
def MonL (r : V → Option Int → Option Int → Hp → VK → Prop) : Prop := ∀ x y z H (Q Q' : VK), (∀ v H, Q v H → Q' v H) → r x y z H Q → r x y z H Q'
def MonG (g : TG) : Prop := ∀ v σ H (Q Q' : L2.St → Hp → Prop), (∀ σ H, Q σ H → Q' σ H) → g v σ H Q → g v σ H Q'
def MonGs (g : TGs) : Prop := ∀ v σ H (Q Q' : L2.St → Hp → Prop), (∀ σ H, Q σ H → Q' σ H) → g v σ H Q → g v σ H Q'
def MonI (t : TI) : Prop := ∀ σ H (Q Q' : It → Hp → Prop), (∀ v H, Q v H → Q' v H) → t σ H Q → t σ H Q'
def MonP (sp : Sp) : Prop := ∀ vs H (Q Q' : VK) E, (∀ v H, Q v H → Q' v H) → sp vs H Q E → sp vs H Q' E
def EndsLe (D D' : Ends) : Prop := (∀ σ H, D.nx σ H → D'.nx σ H) ∧ (∀ v H, D.rt v H → D'.rt v H) ∧ (∀ σ H, D.bk σ H → D'.bk σ H) ∧ (∀ σ H, D.ct σ H → D'.ct σ H)
def MonS (t : TS) : Prop := ∀ D D' σ H, EndsLe D D' → t D σ H → t D' σ H
section
variable {t u : TS} {te ta tb tc : TE} {c c' : TT} {g : TG} {gs : TGs} {tr : TA} {r r' : R2} {wi : TI}
/-- THE CUT: P holds between both -/
theorem rd_cut {D : Ends} {σ : L2.St} {H : Hp} (P : L2.St → Hp → Prop) (m : MonS t) (h1 : t { D with nx := P } σ H) (h2 : ∀ σ H, P σ H → u D σ H) : tSeq t u D σ H :=
  m { D with nx := P } { D with nx := u D } σ H ⟨h2, fun _ _ h => h, fun _ _ h => h, fun _ _ h => h⟩ h1
theorem rd_cutE {σ : L2.St} {H : Hp} {Q : VK} (P : VK) (m : MonE te) (h1 : te σ H P) (h2 : ∀ v H, P v H → Q v H) : te σ H Q := m _ _ _ _ h2 h1
theorem me_var {i : Nat} : MonE (tVar i) := fun σ H Q Q' h ⟨v, e, q⟩ => ⟨v, e, h _ _ q⟩
theorem me_c {v : V} : MonE (tC v) := fun σ H Q Q' h q => h _ _ q
theorem me_op (m : MonR r) (a : MonE ta) (b : MonE tb) : MonE (tOp r ta tb) := fun σ H Q Q' h q => a _ _ _ _ (fun _ _ z => b _ _ _ _ (fun _ _ z' => m _ _ _ _ _ h z') z) q
theorem me_un {r : V → Hp → VK → Prop} (m : MonU r) (a : MonE ta) : MonE (tUn r ta) := fun σ H Q Q' h q => a _ _ _ _ (fun _ _ z => m _ _ _ _ h z) q
theorem me_fld {K : PySem.W.Frag} {f : Str} (a : MonE ta) : MonE (tFld K ta f) := fun σ H Q Q' h q => a _ _ _ _ (fun _ _ ⟨x, C, dx, fs, v, e1, e2, e3, e4, e5, z⟩ => ⟨x, C, dx, fs, v, e1, e2, e3, e4, e5, h _ _ z⟩) q
theorem me_tup (a : MonA tr) : MonE (tTup tr) := fun σ H Q Q' h q => a _ _ _ _ (fun _ _ ⟨l, z⟩ => ⟨l, fun p hp => h _ _ (z p hp)⟩) q
theorem me_lst (a : MonA tr) : MonE (tLst tr) := fun σ H Q Q' h q => a _ _ _ _ (fun _ _ ⟨l, z⟩ => ⟨l, fun p hp => h _ _ (z p hp)⟩) q
theorem me_call {sp : Sp} {dvs : List V} {E : XK} (m : MonP sp) (a : MonA tr) : MonE (tCall sp dvs E tr) := fun σ H Q Q' h q => a _ _ _ _ (fun _ _ z => m _ _ _ _ _ h z) q
theorem me_meth {C : Addr} {n : Str} {sp : Sp} {dvs : List V} {E : XK} (m : MonP sp) (a : MonE ta) (b : MonA tr) : MonE (tMeth C n sp dvs E ta tr) := fun σ H Q Q' h q => a _ _ _ _ (fun _ _ ⟨x, dx, fs, e1, e2, e3, z⟩ => ⟨x, dx, fs, e1, e2, e3, b _ _ _ _ (fun _ _ y => m _ _ _ _ _ h y) z⟩) q
theorem me_cb {r : List V → Hp → VK → Prop} (m : MonC r) (a : MonA tr) : MonE (tCB r tr) := fun σ H Q Q' h q => a _ _ _ _ (fun _ _ z => m _ _ _ _ h z) q
theorem me_bm {K : PySem.W.Frag} {T : String} {r : V → List V → Hp → VK → Prop} (m : MonM r) (a : MonE ta) (b : MonA tr) : MonE (tBM K T r ta tr) := fun σ H Q Q' h q => a _ _ _ _ (fun _ _ ⟨y, z⟩ => ⟨y, b _ _ _ _ (fun _ _ z' => m _ _ _ _ _ h z') z⟩) q
theorem me_bm0 {K : PySem.W.Frag} {T : String} {r : V → List V → Hp → VK → Prop} (m : MonM r) (a : MonE ta) : MonE (tBM0 K T r ta) := fun σ H Q Q' h q => a _ _ _ _ (fun _ _ ⟨y, z⟩ => ⟨y, m _ _ _ _ _ h z⟩) q
theorem me_andV (a : MonE ta) (b : MonE tb) : MonE (tAndV ta tb) := fun σ H Q Q' h q => a _ _ _ _ (fun _ _ ⟨k, e, z⟩ => ⟨k, e, by cases k; exact h _ _ z; exact b _ _ _ _ h z⟩) q
theorem me_orV (a : MonE ta) (b : MonE tb) : MonE (tOrV ta tb) := fun σ H Q Q' h q => a _ _ _ _ (fun _ _ ⟨k, e, z⟩ => ⟨k, e, by cases k; exact b _ _ _ _ h z; exact h _ _ z⟩) q
theorem me_notV (a : MonE ta) : MonE (tNotV ta) := fun σ H Q Q' h q => a _ _ _ _ (fun _ _ ⟨k, e, z⟩ => ⟨k, e, h _ _ z⟩) q
theorem me_if (m : MonT c) (a : MonE ta) (b : MonE tb) : MonE (tIf c ta tb) := fun σ H Q Q' h q => m _ _ _ _ (fun k _ z => by cases k; exact b _ _ _ _ h z; exact a _ _ _ _ h z) q
theorem me_chain (m : MonR r) (m' : MonR r') (a : MonE ta) (b : MonE tb) (d : MonE tc) : MonE (tChain r r' ta tb tc) := fun σ H Q Q' h q =>
  a _ _ _ _ (fun _ _ z => b _ _ _ _ (fun _ _ z' => m _ _ _ _ _ (fun _ _ ⟨k, e, y⟩ => ⟨k, e, by cases k; exact h _ _ y; exact d _ _ _ _ (fun _ _ y' => m' _ _ _ _ _ h y') y⟩) z') z) q
theorem me_sl {rl : V → Option Int → Option Int → Hp → VK → Prop} {tl th : TO} (m : MonL rl) (a : MonE te) (b : MonO tl) (d : MonO th) : MonE (tSl rl te tl th) := fun σ H Q Q' h q => a _ _ _ _ (fun _ _ z => b _ _ _ _ (fun _ _ z => d _ _ _ _ (fun _ _ z => m _ _ _ _ _ _ h z) z) z) q
theorem me_dget {td ty : TE} (a : MonE td) (b : MonE ty) : MonE (tDGet td ty) := fun σ H Q Q' h q => a _ _ _ _ (fun _ _ z => b _ _ _ _ (fun _ _ ⟨x, v, e1, e2, z⟩ => ⟨x, v, e1, e2, h _ _ z⟩) z) q
theorem me_dget2 {td ty tx : TE} (a : MonE td) (b : MonE ty) (d : MonE tx) : MonE (tDGet2 td ty tx) := fun σ H Q Q' h q => a _ _ _ _ (fun _ _ ⟨x, e1, e2, z⟩ => ⟨x, e1, e2, b _ _ _ _ (fun _ _ z => d _ _ _ _ (fun _ _ ⟨o, e3, z⟩ => ⟨o, e3, h _ _ z⟩) z) z⟩) q
theorem me_din {td ty : TE} (a : MonE td) (b : MonE ty) : MonE (tDIn ty td) := fun σ H Q Q' h q => b _ _ _ _ (fun _ _ z => a _ _ _ _ (fun _ _ ⟨x, v, e1, e2, z⟩ => ⟨x, v, e1, e2, h _ _ z⟩) z) q
theorem me_dnotin {td ty : TE} (a : MonE td) (b : MonE ty) : MonE (tDNotIn ty td) := fun σ H Q Q' h q => b _ _ _ _ (fun _ _ z => a _ _ _ _ (fun _ _ ⟨x, v, e1, e2, z⟩ => ⟨x, v, e1, e2, h _ _ z⟩) z) q
theorem me_dsetd {td ty tx : TE} (a : MonE td) (b : MonE ty) (d : MonE tx) : MonE (tDSetd td ty tx) := fun σ H Q Q' h q =>
  a _ _ _ _ (fun _ _ ⟨x, e1, e2, z⟩ => ⟨x, e1, e2, b _ _ _ _ (fun _ _ z => d _ _ _ _ (fun _ _ ⟨kvs, k, e3, e4, e5, z1, z2⟩ => ⟨kvs, k, e3, e4, e5, fun v hv => h _ _ (z1 v hv), fun hv => h _ _ (z2 hv)⟩) z) z⟩) q
theorem mt_test' (a : MonE te) : MonT (tTest te) := fun σ H Q Q' h q => a _ _ _ _ (fun _ _ ⟨k, e, z⟩ => ⟨k, e, h _ _ z⟩) q
theorem mt_B (a : MonE te) : MonT (tB te) := fun σ H Q Q' h q => a _ _ _ _ (fun _ _ ⟨k, e, z⟩ => ⟨k, e, h _ _ z⟩) q
theorem mt_and (a : MonT c) (b : MonT c') : MonT (tAnd c c') := fun σ H Q Q' h q => a _ _ _ _ (fun k _ z => by cases k; exact h _ _ z; exact b _ _ _ _ h z) q
theorem mt_or (a : MonT c) (b : MonT c') : MonT (tOr c c') := fun σ H Q Q' h q => a _ _ _ _ (fun k _ z => by cases k; exact b _ _ _ _ h z; exact h _ _ z) q
theorem mt_not (a : MonT c) : MonT (tNot c) := fun σ H Q Q' h q => a _ _ _ _ (fun k _ z => h _ _ z) q
theorem ma_nil : MonA tNil := fun σ H Q Q' h q => h _ _ q
theorem ma_cons (a : MonE ta) (b : MonA tr) : MonA (tCons ta tr) := fun σ H Q Q' h q => a _ _ _ _ (fun _ _ z => b _ _ _ _ (fun _ _ y => h _ _ y) z) q
theorem mo_none : MonO tNoPart := fun σ H Q Q' h q => h _ _ q
theorem mo_some (a : MonE te) : MonO (tPart te) := fun σ H Q Q' h q => a _ _ _ _ (fun _ _ ⟨i, e, z⟩ => ⟨i, e, h _ _ z⟩) q
theorem mr_I0 {f : Int → Int → V} : MonR (rI0 f) := fun x y H Q Q' h ⟨i, j, a, b, q⟩ => ⟨i, j, a, b, h _ _ q⟩
theorem mr_I {C : Int → Int → Prop} {f : Int → Int → V} : MonR (rI C f) := fun x y H Q Q' h ⟨i, j, a, b, d, q⟩ => ⟨i, j, a, b, d, h _ _ q⟩
theorem mr_eq : MonR rEq := fun x y H Q Q' h ⟨a, q⟩ => ⟨a, h _ _ q⟩
theorem mr_ne : MonR rNe := fun x y H Q Q' h ⟨a, q⟩ => ⟨a, h _ _ q⟩
theorem mr_ixL {K : PySem.W.Frag} : MonR (rIxL K) := fun x y H Q Q' h ⟨p, xs, i, v, a, b, c, d, q⟩ => ⟨p, xs, i, v, a, b, c, d, h _ _ q⟩
theorem mr_ixT {K : PySem.W.Frag} : MonR (rIxT K) := fun x y H Q Q' h ⟨p, xs, i, v, a, b, c, d, q⟩ => ⟨p, xs, i, v, a, b, c, d, h _ _ q⟩
theorem mr_ixS : MonR rIxS := fun x y H Q Q' h ⟨p, xs, i, a, b, c, d, q⟩ => ⟨p, xs, i, a, b, c, d, h _ _ q⟩
theorem mr_cat : MonR rCat := fun x y H Q Q' h ⟨l, b, xs, zs, e1, e2, e3, e4, e5, q⟩ => ⟨l, b, xs, zs, e1, e2, e3, e4, e5, fun p hp => h _ _ (q p hp)⟩
theorem mr_in {K : PySem.W.Frag} {neg : Bool} : MonR (rIn K neg) := fun x y H Q Q' h ⟨p, xs, e1, e2, e3, e4, q⟩ => ⟨p, xs, e1, e2, e3, e4, h _ _ q⟩
theorem mr_isN : MonR (fun x y H Q => y = V.non ∧ Q (.bl (decide (x = .non))) H) := fun x y H Q Q' h ⟨a, q⟩ => ⟨a, h _ _ q⟩
theorem mr_notN : MonR (fun x y H Q => y = V.non ∧ Q (.bl (!decide (x = .non))) H) := fun x y H Q Q' h ⟨a, q⟩ => ⟨a, h _ _ q⟩
theorem mu_U {f : Int → V} : MonU (rU f) := fun x H Q Q' h ⟨i, a, q⟩ => ⟨i, a, h _ _ q⟩
theorem mc_len {K : PySem.W.Frag} : MonC (rLenS K) := fun x H Q Q' h ⟨p, ys, a, b, q⟩ => ⟨p, ys, a, b, h _ _ q⟩
theorem mc_isi {K : PySem.W.Frag} : MonC (rIsi K) := fun x H Q Q' h ⟨x', c, t, u, b, a1, a2, a3, a4, q⟩ => ⟨x', c, t, u, b, a1, a2, a3, a4, h _ _ q⟩
theorem mm_append : MonM rAppend := fun x y H Q Q' h ⟨l, xs, z, a, b, c, d, q⟩ => ⟨l, xs, z, a, b, c, d, h _ _ q⟩
theorem mg_name {i : Nat} : MonG (gName i) := fun v σ H Q Q' h q => h _ _ q
theorem mg_tup {K : PySem.W.Frag} {n : Nat} (m : MonGs gs) : MonG (gTup K n gs) := fun v σ H Q Q' h ⟨a, xs, e1, e2, e3, q⟩ => ⟨a, xs, e1, e2, e3, m _ _ _ _ _ h q⟩
theorem mgs_nil : MonGs gNil := fun v σ H Q Q' h ⟨e, q⟩ => ⟨e, h _ _ q⟩
theorem mgs_cons (a : MonG g) (b : MonGs gs) : MonGs (gCons g gs) := fun v σ H Q Q' h ⟨x, r, e, q⟩ => ⟨x, r, e, a _ _ _ _ _ (fun _ _ z => b _ _ _ _ _ h z) q⟩
theorem mi_L {K : PySem.W.Frag} (a : MonE te) : MonI (iList K te) := fun σ H Q Q' h q => a _ _ _ _ (fun _ _ ⟨x, e1, e2, z⟩ => ⟨x, e1, e2, h _ _ z⟩) q
theorem mi_T {K : PySem.W.Frag} (a : MonE te) : MonI (iTup K te) := fun σ H Q Q' h q => a _ _ _ _ (fun _ _ ⟨x, e1, e2, z⟩ => ⟨x, e1, e2, h _ _ z⟩) q
theorem mi_R1 (a : MonA tr) : MonI (iRng1 tr) := fun σ H Q Q' h q => a _ _ _ _ (fun _ _ ⟨j, e1, e2, e3, z⟩ => ⟨j, e1, e2, e3, h _ _ z⟩) q
theorem mi_R2 (a : MonA tr) : MonI (iRng2 tr) := fun σ H Q Q' h q => a _ _ _ _ (fun _ _ ⟨i, j, e1, e2, z⟩ => ⟨i, j, e1, e2, h _ _ z⟩) q
theorem mi_R3 (a : MonA tr) : MonI (iRng3 tr) := fun σ H Q Q' h q => a _ _ _ _ (fun _ _ ⟨i, j, c, n, e1, e2, z⟩ => ⟨i, j, c, n, e1, e2, h _ _ z⟩) q
theorem mi_E {K : PySem.W.Frag} (a : MonA tr) : MonI (iEnum K tr) := fun σ H Q Q' h q => a _ _ _ _ (fun _ _ ⟨x, xs, e1, e2, z⟩ => ⟨x, xs, e1, e2, h _ _ z⟩) q
theorem mi_S (a : MonE te) : MonI (iStr te) := fun σ H Q Q' h q => a _ _ _ _ (fun _ _ ⟨x, e1, z⟩ => ⟨x, e1, h _ _ z⟩) q
theorem mi_Z {K : PySem.W.Frag} (a : MonA tr) : MonI (iZip K tr) := fun σ H Q Q' h q => a _ _ _ _ (fun _ _ ⟨x, y, xs, ys, e1, e2, e3, z⟩ => ⟨x, y, xs, ys, e1, e2, e3, h _ _ z⟩) q
theorem EndsLe.seq {D D' : Ends} (h : EndsLe D D') {P P' : L2.St → Hp → Prop} (hp : ∀ σ H, P σ H → P' σ H) : EndsLe { D with nx := P } { D' with nx := P' } := ⟨hp, h.2.1, h.2.2.1, h.2.2.2⟩
theorem ms_next : MonS tNext := fun D D' σ H h q => h.1 _ _ q
theorem ms_seq (a : MonS t) (b : MonS u) : MonS (tSeq t u) := fun D D' σ H h q => a _ _ _ _ (h.seq fun _ _ z => b _ _ _ _ h z) q
theorem ms_asg (a : MonE te) (b : MonG g) : MonS (tAsg te g) := fun D D' σ H h q => a _ _ _ _ (fun _ _ z => b _ _ _ _ _ h.1 z) q
theorem ms_drop (a : MonE te) : MonS (tDrop te) := fun D D' σ H h q => a _ _ _ _ (fun _ _ z => h.1 _ _ z) q
theorem ms_ret (a : MonE te) : MonS (tRet te) := fun D D' σ H h q => a _ _ _ _ h.2.1 q
theorem ms_retN : MonS tRetN := fun D D' σ H h q => h.2.1 _ _ q
theorem ms_if (a : MonT c) (b : MonS t) (d : MonS u) : MonS (tIfS c t u) := fun D D' σ H h q => a _ _ _ _ (fun k _ z => by cases k; exact d _ _ _ _ h z; exact b _ _ _ _ h z) q
theorem ms_brk : MonS tBreak := fun D D' σ H h q => h.2.2.1 _ _ q
theorem ms_cont : MonS tCont := fun D D' σ H h q => h.2.2.2 _ _ q
theorem ms_never : MonS tNever := fun D D' σ H h q => q
theorem ms_dput {td ty tv : TE} (a : MonE td) (b : MonE ty) (d : MonE tv) : MonS (sDPut td ty tv) := fun D D' σ H h q => d _ _ _ _ (fun _ _ z => a _ _ _ _ (fun _ _ z => b _ _ _ _ (fun _ _ ⟨x, H4, e1, e2, z⟩ => ⟨x, H4, e1, e2, h.1 _ _ z⟩) z) z) q
theorem ms_fldS {K : PySem.W.Frag} {f : Str} (a : MonE ta) (b : MonE tb) : MonS (sFld K ta tb f) := fun D D' σ H h q => b _ _ _ _ (fun _ _ z => a _ _ _ _ (fun _ _ ⟨x, C, dx, fs, e1, e2, e3, e4, e5, z⟩ => ⟨x, C, dx, fs, e1, e2, e3, e4, e5, h.1 _ _ z⟩) z) q
theorem ms_for (a : MonI wi) (b : MonG g) (d : MonS t) : MonS (tFor wi g t) := fun D D' σ H h q =>
  a _ _ _ _ (fun J H1 ⟨W, w0, z⟩ => ⟨W, w0, fun i m σ H hw => by
    rcases z i m σ H hw with ⟨s, y⟩ | ⟨s, N, hN, y⟩
    · exact .inl ⟨s, h.1 _ _ y⟩
    · exact .inr ⟨s, N, hN, fun x H' hy => b _ _ _ _ _ (fun _ _ y' => d { D with nx := N, ct := N, bk := D.nx } { D' with nx := N, ct := N, bk := D'.nx } _ _ ⟨fun _ _ z => z, h.2.1, h.1, fun _ _ z => z⟩ y') (y x H' hy)⟩⟩) q
theorem ms_while (a : MonT c) (b : MonS t) : MonS (tWhile c t) := fun D D' σ H h ⟨W, w0, z⟩ => ⟨W, w0, fun m σ H hw => a _ _ _ _ (fun k H1 y => by
  cases k
  · exact h.1 _ _ y
  · obtain ⟨N, hN, y⟩ := y
    exact ⟨N, hN, b { D with nx := N, ct := N, bk := D.nx } { D' with nx := N, ct := N, bk := D'.nx } _ _ ⟨fun _ _ z => z, h.2.1, h.1, fun _ _ z => z⟩ y⟩) (z m σ H hw)⟩
theorem me_lc {te' : TE} {tt' : TT} {g' : TG} {vs : List Nat} (a : MonI wi) : MonE (tLc wi g' tt' te' vs) := fun σ H Q Q' h q => a _ _ _ _ (fun J H1 z D hD => by
  obtain ⟨W, w0, z⟩ := z D hD
  exact ⟨W, w0, fun i m H hw => (z i m H hw).imp (fun ⟨s, y⟩ => ⟨s, h _ _ y⟩) id⟩) q
theorem me_m1 {rm : V → List V → Hp → VK → Prop} (m : MonM rm) (a : MonE ta) (b : MonE tb) : MonE (tM1 rm ta tb) := fun σ H Q Q' h q => a _ _ _ _ (fun _ _ ⟨e, z⟩ => ⟨e, b _ _ _ _ (fun _ _ z' => m _ _ _ _ _ h z') z⟩) q
theorem mm_split : MonM (fun x xs H Q => ∃ a b, x = .str a ∧ xs = [.str b] ∧ (b.length == 0) = false ∧ a.length + 2 ≤ sizeLine ∧ rNewStrs (Txt.split a b) H Q) := fun x y H Q Q' h ⟨a, b, e1, e2, e3, e4, q⟩ => ⟨a, b, e1, e2, e3, e4, fun p hp => h _ _ (q p hp)⟩
end
end JF

local macro_rules | `(tactic| walk_at "mono1") => `(tactic| first | assumption | (with_reducible apply JF.me_var) | (with_reducible apply JF.me_c) | (with_reducible apply JF.me_op) | (with_reducible apply JF.me_un) | (with_reducible apply JF.me_fld) | (with_reducible apply JF.me_tup) | (with_reducible apply JF.me_lst) | (with_reducible apply JF.me_call) | (with_reducible apply JF.me_meth) | (with_reducible apply JF.me_cb) | (with_reducible apply JF.me_bm) | (with_reducible apply JF.me_bm0) | (with_reducible apply JF.me_andV) | (with_reducible apply JF.me_orV) | (with_reducible apply JF.me_notV) | (with_reducible apply JF.me_if) | (with_reducible apply JF.me_chain) | (with_reducible apply JF.me_sl) | (with_reducible apply JF.me_dget) | (with_reducible apply JF.me_dget2) | (with_reducible apply JF.me_din) | (with_reducible apply JF.me_dnotin) | (with_reducible apply JF.me_dsetd) | (with_reducible apply JF.me_lc) | (with_reducible apply JF.me_m1) | (with_reducible exact JF.mm_split) | (with_reducible apply JF.mt_test') | (with_reducible apply JF.mt_B) | (with_reducible apply JF.mt_and) | (with_reducible apply JF.mt_or) | (with_reducible apply JF.mt_not) | (with_reducible apply JF.ma_nil) | (with_reducible apply JF.ma_cons) | (with_reducible apply JF.mo_none) | (with_reducible apply JF.mo_some) | (with_reducible apply JF.mr_I0) | (with_reducible apply JF.mr_I) | (with_reducible apply JF.mr_eq) | (with_reducible apply JF.mr_ne) | (with_reducible apply JF.mr_ixL) | (with_reducible apply JF.mr_ixT) | (with_reducible apply JF.mr_ixS) | (with_reducible apply JF.mr_cat) | (with_reducible apply JF.mr_in) | (with_reducible apply JF.mr_isN) | (with_reducible apply JF.mr_notN) | (with_reducible apply JF.mu_U) | (with_reducible apply JF.mc_len) | (with_reducible apply JF.mc_isi) | (with_reducible apply JF.mm_append) | (with_reducible apply JF.mg_name) | (with_reducible apply JF.mg_tup) | (with_reducible apply JF.mgs_nil) | (with_reducible apply JF.mgs_cons) | (with_reducible apply JF.mi_L) | (with_reducible apply JF.mi_T) | (with_reducible apply JF.mi_R1) | (with_reducible apply JF.mi_R2) | (with_reducible apply JF.mi_R3) | (with_reducible apply JF.mi_E) | (with_reducible apply JF.mi_S) | (with_reducible apply JF.mi_Z) | (with_reducible apply JF.ms_next) | (with_reducible apply JF.ms_seq) | (with_reducible apply JF.ms_asg) | (with_reducible apply JF.ms_drop) | (with_reducible apply JF.ms_ret) | (with_reducible apply JF.ms_retN) | (with_reducible apply JF.ms_if) | (with_reducible apply JF.ms_brk) | (with_reducible apply JF.ms_cont) | (with_reducible apply JF.ms_never) | (with_reducible apply JF.ms_dput) | (with_reducible apply JF.ms_fldS) | (with_reducible apply JF.ms_for) | (with_reducible apply JF.ms_while))
local macro_rules | `(tactic| walk_at "mono") => `(tactic| repeat' walk_at "mono1")
/-! ### a grove in the heap -/
namespace JF
open PySem PySem.Spec PyProof.Rows L2
theorem nodup_sub_len {α : Type} [DecidableEq α] : ∀ (l m : List α), l.Nodup → (∀ x ∈ l, x ∈ m) → l.length ≤ m.length
  | [], m, _, _ => Nat.zero_le _
  | x :: l, m, h, hs => by
    rw [List.nodup_cons] at h
    have hx : x ∈ m := hs x List.mem_cons_self
    have ih := nodup_sub_len l (m.erase x) h.2 fun y hy => (List.mem_erase_of_ne (fun e => h.1 (by rw [← e]; exact hy))).mpr (hs y (List.mem_cons_of_mem _ hy))
    rw [List.length_erase_of_mem hx] at ih
    have : 0 < m.length := List.length_pos_of_mem hx
    show l.length + 1 ≤ m.length
    omega
theorem states_len {l : List Int} (h : l.Nodup) (hs : ∀ x ∈ l, 0 ≤ x ∧ x ≤ 7) : l.length ≤ 8 :=
  nodup_sub_len l [0, 1, 2, 3, 4, 5, 6, 7] h fun x hx => by
    have := hs x hx
    simp only [List.mem_cons, List.not_mem_nil, or_false]
    omega
structure GA where
  g : Addr
  dx : Addr
  dn : Addr
  dm : Addr
  dl : Addr
  dv : Addr
  ds : Addr
  dp : Addr
def GA.flds (a : GA) : List (Str × V) := [("numbers", .ref a.dn), ("made", .ref a.dm), ("levels", .ref a.dl), ("lives", .ref a.dv), ("spans", .ref a.ds), ("plain", .ref a.dp)]
def GA.m5 (a : GA) : List Addr := [a.dn, a.dm, a.dl, a.dv, a.ds]
def GA.muts (a : GA) (rows : List (Int × Addr)) : List Addr := a.m5 ++ a.dp :: rows.map (·.2)
/-- a span as a value -/
def SpanV (H : Hp) (v : V) : Option Box → Prop
  | none => v = .non
  | some b => ∃ p, v = .ref p ∧ H p = some (.tup [.int b.1, .int b.2.1, .int b.2.2.1, .int b.2.2.2])
theorem SpanV.keep {H H' : Hp} {v : V} {o : Option Box} (h : SpanV H v o) (k : ∀ b xs, H b = some (.tup xs) → H' b = some (.tup xs)) : SpanV H' v o := by
  cases o with
  | none => exact h
  | some b =>
    obtain ⟨p, e, hp⟩ := h
    exact ⟨p, e, k _ _ hp⟩
/-- what the lists of a grove hold -/
structure GData (H : Hp) (a : GA) (q : List Sq) (tups : List Addr) (mk : List (List Int)) (spt : List V) : Prop where
  hn : H a.dn = some (.dT (kvsOf mk 0))
  hm : H a.dm = some (.lst (tups.map V.ref))
  hl : H a.dl = some (.lst (q.map fun S => V.int (S.level : Int)))
  hv : H a.dv = some (.lst (q.map fun S => V.int S.lives))
  hs : H a.ds = some (.lst spt)
  lt : tups.length = q.length
  lm : mk.length = q.length
  ls : spt.length = q.length
  tu : ∀ (i : Nat) t m, tups[i]? = some t → mk[i]? = some m → H t = some (.tup (m.map V.int))
  sp : ∀ (i : Nat) v S, spt[i]? = some v → q[i]? = some S → SpanV H v S.span
  md : ∀ (i : Nat) m S, mk[i]? = some m → q[i]? = some S → Made q S m
structure GAt (C : Addr) (H : Hp) (a : GA) (rows : List (Int × Addr)) (q : List Sq) : Prop where
  ob : H a.g = some (.ins C a.dx a.flds)
  da : ∃ tups mk spt, GData H a q tups mk spt
  wf : ∀ S ∈ q, S.wf
  qn : q.Nodup
  pl : H a.dp = some (.dK (rows.map fun sa => ((Sum.inl sa.1 : Key), V.ref sa.2)))
  nd : (a.g :: a.muts rows).Nodup
  rn : (rows.map (·.1)).Nodup
  rs : ∀ s ∈ rows.map (·.1), 0 ≤ s ∧ s ≤ 7
  ro : ∀ s b, (s, b) ∈ rows → ∃ ns : List Nat, H b = some (.lst (ns.map fun (n : Nat) => V.int (n : Int))) ∧ ∀ (i : Nat) n, ns[i]? = some n → q[n]? = some (Sq.even i s)
/-- all but what stands at these addresses is as it was -/
def Fr (S : List Addr) (H H' : Hp) : Prop := ∀ b o, H b = some o → b ∉ S → H' b = some o
theorem Fr.refl (S : List Addr) (H : Hp) : Fr S H H := fun _ _ h _ => h
theorem Fr.trans {S : List Addr} {H H1 H2 : Hp} (x : Fr S H H1) (y : Fr S H1 H2) : Fr S H H2 := fun b o h n => y b o (x b o h n) n
theorem Fr.mono {S S' : List Addr} {H H' : Hp} (x : Fr S H H') (h : ∀ b ∈ S, b ∈ S') : Fr S' H H' := fun b o e n => x b o e fun z => n (h b z)
theorem fr_of {S : List Addr} {H H' : Hp} (x : Same H H') : Fr S H H' := fun b o e _ => x b o e
def HO.still : HO → Prop
  | .tup _ | .ins _ _ _ | .own _ => True
  | _ => False
/-- a grove stands where its own lists, the tuples and the instances are kept -/
theorem GAt.keep {C : Addr} {H H' : Hp} {a : GA} {rows : List (Int × Addr)} {q : List Sq} (G : GAt C H a rows q) (k : ∀ b o, H b = some o → HO.still o ∨ b ∈ a.muts rows → H' b = some o) : GAt C H' a rows q := by
  obtain ⟨tups, mk, spt, D⟩ := G.da
  have mem : ∀ b, b ∈ a.m5 → b ∈ a.muts rows := fun b h => List.mem_append_left _ h
  refine ⟨k _ _ G.ob (.inl trivial), ⟨tups, mk, spt, k _ _ D.hn (.inr (mem _ (by simp [GA.m5]))), k _ _ D.hm (.inr (mem _ (by simp [GA.m5]))), k _ _ D.hl (.inr (mem _ (by simp [GA.m5]))), k _ _ D.hv (.inr (mem _ (by simp [GA.m5]))), k _ _ D.hs (.inr (mem _ (by simp [GA.m5]))), D.lt, D.lm, D.ls,
    fun i t m h1 h2 => k _ _ (D.tu i t m h1 h2) (.inl trivial), fun i v S h1 h2 => (D.sp i v S h1 h2).keep fun b xs e => k _ _ e (.inl trivial), D.md⟩, G.wf, G.qn, k _ _ G.pl (.inr (by simp [GA.muts])), G.nd, G.rn, G.rs, fun s b h => ?_⟩
  obtain ⟨ns, h1, h2⟩ := G.ro s b h
  refine ⟨ns, k _ _ h1 (.inr ?_), h2⟩
  unfold GA.muts
  exact List.mem_append_right _ (List.mem_cons_of_mem _ (List.mem_map_of_mem (f := fun sa : Int × Addr => sa.2) h))
theorem GAt.same {C : Addr} {H H' : Hp} {a : GA} {rows : List (Int × Addr)} {q : List Sq} (G : GAt C H a rows q) (s : Same H H') : GAt C H' a rows q := G.keep fun b o e _ => s b o e
/-- a new object is laid -/
theorem same_upd {H : Hp} {p : Addr} {o : HO} (h : H p = none) : Same H (upd H p o) := fun b u e => by rw [upd_ne (ne_of_none e h)]; exact e
/-- a list, a dict of the asker's own is changed -/
theorem GAt.upd {C : Addr} {H : Hp} {a : GA} {rows : List (Int × Addr)} {q : List Sq} {p : Addr} {o : HO} (G : GAt C H a rows q) (hp : ∀ u, H p = some u → ¬ HO.still u) (hn : p ∉ a.muts rows) : GAt C (upd H p o) a rows q :=
  G.keep fun b u e h => by
    rw [upd_ne]
    · exact e
    · rintro rfl
      rcases h with h | h
      · exact hp u e h
      · exact hn h
/-- a grove goes on: what was is as it was, squares were added -/
structure GStep (C : Addr) (H : Hp) (a : GA) (rows : List (Int × Addr)) (q : List Sq) (H' : Hp) (rows' : List (Int × Addr)) (q' : List Sq) : Prop where
  gat : GAt C H' a rows' q'
  pre : q <+: q'
  fr : Fr (a.muts rows) H H'
  new : ∀ b ∈ a.muts rows', b ∈ a.muts rows ∨ H b = none
theorem GStep.refl {C : Addr} {H : Hp} {a : GA} {rows : List (Int × Addr)} {q : List Sq} (G : GAt C H a rows q) : GStep C H a rows q H rows q := ⟨G, List.prefix_refl _, Fr.refl _ _, fun _ h => .inl h⟩
theorem GStep.trans {C : Addr} {H H1 H2 : Hp} {a : GA} {rows r1 r2 : List (Int × Addr)} {q q1 q2 : List Sq} (x : GStep C H a rows q H1 r1 q1) (y : GStep C H1 a r1 q1 H2 r2 q2) : GStep C H a rows q H2 r2 q2 := by
  refine ⟨y.gat, x.pre.trans y.pre, fun b o e n => ?_, fun b h => ?_⟩
  · refine y.fr b o (x.fr b o e n) fun z => ?_
    rcases x.new b z with z | z
    · exact n z
    · rw [e] at z; cases z
  · rcases y.new b h with z | z
    · exact x.new b z
    · by_cases hb : b ∈ a.muts rows
      · exact .inl hb
      · right
        cases q : H b with
        | none => rfl
        | some o =>
          rw [x.fr b o q hb] at z
          cases z
/-- the asker's own things are kept, and stay the asker's own -/
theorem GStep.own {C : Addr} {H H1 : Hp} {a : GA} {rows r1 : List (Int × Addr)} {q q1 : List Sq} (x : GStep C H a rows q H1 r1 q1) {b : Addr} {o : HO} (h : H b = some o) (n : b ∉ a.muts rows) : H1 b = some o ∧ b ∉ a.muts r1 :=
  ⟨x.fr b o h n, fun z => (x.new b z).elim n fun z => by rw [h] at z; cases z⟩
theorem pre_get {q q' : List Sq} (h : q <+: q') {n : Nat} {S : Sq} (e : q[n]? = some S) : q'[n]? = some S := by
  obtain ⟨t, rfl⟩ := h
  exact getElem?_app e t
theorem ne_app {H : Hp} {b : Addr} {o : HO} {S : List Addr} (h : H b = some o) (hs : ∀ c ∈ S, ∀ u, H c = some u → o ≠ u) (hn : ∀ c ∈ S, ∃ u, H c = some u) : b ∉ S := fun z => by
  obtain ⟨u, e⟩ := hn b z
  refine hs b z u e ?_
  rw [h] at e
  exact Option.some.inj e
/-- a tuple is none of a grove's own lists -/
theorem GAt.tup_out {C : Addr} {H : Hp} {a : GA} {rows : List (Int × Addr)} {q : List Sq} (G : GAt C H a rows q) {b : Addr} {xs : List V} (h : H b = some (.tup xs)) : b ∉ a.muts rows := by
  obtain ⟨tups, mk, spt, D⟩ := G.da
  intro z
  unfold GA.muts GA.m5 at z
  simp only [List.cons_append, List.nil_append, List.mem_cons, List.mem_map] at z
  rcases z with rfl | rfl | rfl | rfl | rfl | rfl | ⟨sa, hm, rfl⟩
  · rw [D.hn] at h; cases h
  · rw [D.hm] at h; cases h
  · rw [D.hl] at h; cases h
  · rw [D.hv] at h; cases h
  · rw [D.hs] at h; cases h
  · rw [G.pl] at h; cases h
  · obtain ⟨ns, e, _⟩ := G.ro sa.1 sa.2 hm
    rw [e] at h; cases h
/-- what is new is none of them -/
theorem GAt.new_out {C : Addr} {H : Hp} {a : GA} {rows : List (Int × Addr)} {q : List Sq} (G : GAt C H a rows q) {b : Addr} (h : H b = none) : b ∉ a.muts rows := by
  obtain ⟨tups, mk, spt, D⟩ := G.da
  intro z
  unfold GA.muts GA.m5 at z
  simp only [List.cons_append, List.nil_append, List.mem_cons, List.mem_map] at z
  rcases z with rfl | rfl | rfl | rfl | rfl | rfl | ⟨sa, hm, rfl⟩
  · rw [D.hn] at h; cases h
  · rw [D.hm] at h; cases h
  · rw [D.hl] at h; cases h
  · rw [D.hv] at h; cases h
  · rw [D.hs] at h; cases h
  · rw [G.pl] at h; cases h
  · obtain ⟨ns, e, _⟩ := G.ro sa.1 sa.2 hm
    rw [e] at h; cases h
end JF

/-! ### the grove's small defs -/
namespace JF
open PySem PySem.Spec PyProof.Rows L2
section
variable {P : Program} {w : World} {K : PySem.W.Frag} {mg : Str → Option Value} {base : Heap}
/-- is_whole of a whole number, a truth, a text, None -/
def wholeV : V → Bool
  | .int _ => true
  | _ => false
def sp_is_whole : Sp := fun vs H Q _ => ∃ x : V, vs = [x] ∧ ((∃ i, x = .int i) ∨ (∃ b, x = .bl b) ∨ (∃ z, x = .str z) ∨ x = .non) ∧ Q (.bl (wholeV x)) H
theorem isi_ty {H : Hp} {Q : VK} {x : V} {a b : String} {r : Bool} (h : TyX K H x (.type a)) (k : kitB a b = some r) (q : Q (.bl r) H) : rIsi K [x, .ty b] H Q :=
  ⟨x, .ty b, _, _, r, rfl, .ty b, h, kit_ty k, q⟩
/-! ### a state -/
def stateV : V → Bool
  | .int i => decide (0 ≤ i) && decide (i ≤ 7)
  | _ => false
theorem stateV_ok {s : Int} (h0 : 0 ≤ s) (h7 : s ≤ 7) : stateV (.int s) = true := by show (decide (0 ≤ s) && decide (s ≤ 7)) = true; rw [decide_eq_true h0, decide_eq_true h7]; rfl
def sp_is_state : Sp := fun vs H Q _ => ∃ x : V, vs = [x] ∧ ((∃ i, x = .int i) ∨ (∃ b, x = .bl b) ∨ (∃ z, x = .str z) ∨ x = .non) ∧ Q (.bl (stateV x)) H
/-! ### boxes -/
def sp_round_both : Sp := fun vs H Q _ => ∃ (v : V) (o : Option Box) (p : Addr) (b : Box), vs = [v, .ref p] ∧ SpanV H v o ∧ SpanV H (.ref p) (some b) ∧ ∀ H' u, Same H H' → SpanV H' u (some (rb o b)) → Q u H'
theorem min_if (a b : Int) : (if b < a then b else a) = min a b := by rw [Int.min_def]; split <;> split <;> omega
theorem max_if (a b : Int) : (if b > a then b else a) = max a b := by rw [Int.max_def]; split <;> split <;> omega
/-! ### the span of four -/
def acc4 (half : Int) (os : List (Option Box)) : Nat → Option Box
  | 0 => none
  | k + 1 => r4step half (k : Int) (acc4 half os k) (os.getD k none)
def sp_round_four : Sp := fun vs H Q _ => ∃ (p : Addr) (us : List V) (os : List (Option Box)) (half : Int), vs = [.ref p, .int half] ∧ H p = some (.lst us) ∧ us.length = 4 ∧ os.length = 4 ∧ (∀ (i : Nat) v o, us[i]? = some v → os[i]? = some o → SpanV H v o) ∧
  0 ≤ half ∧ half < 2 ^ 64 ∧ ∀ H' u, Same H H' → SpanV H' u (acc4 half os 4) → Q u H'
theorem half_ok {h x : Int} (h0 : 0 ≤ h) (h1 : h < 2 ^ 64) (x0 : 0 ≤ x) (x1 : x < 4) : CMulW h x := by
  have e1 : (2 : Int) ^ 64 ≤ 2 ^ 2000 := by decide +kernel
  have e2 : (4 : Int) ≤ 2 ^ 2000 := by decide +kernel
  exact mulW_of (by omega) (by omega) (by omega) (by omega)
end
end JF

/-! ### the grove's methods: kept, cell, knit -/
namespace JF
open PySem PySem.Spec PyProof.Rows L2
/-- the class stands at -/
abbrev CG (K : PySem.W.Frag) : Addr := He.ga K "Grove"
theorem nd_of {a : GA} {rows : List (Int × Addr)} (h : (a.g :: a.muts rows).Nodup) :
    (a.g ≠ a.dn ∧ a.g ≠ a.dm ∧ a.g ≠ a.dl ∧ a.g ≠ a.dv ∧ a.g ≠ a.ds ∧ a.g ≠ a.dp) ∧ (a.dn ≠ a.dm ∧ a.dn ≠ a.dl ∧ a.dn ≠ a.dv ∧ a.dn ≠ a.ds ∧ a.dn ≠ a.dp) ∧ (a.dm ≠ a.dl ∧ a.dm ≠ a.dv ∧ a.dm ≠ a.ds ∧ a.dm ≠ a.dp) ∧ (a.dl ≠ a.dv ∧ a.dl ≠ a.ds ∧ a.dl ≠ a.dp) ∧ (a.dv ≠ a.ds ∧ a.dv ≠ a.dp) ∧ a.ds ≠ a.dp ∧
      ∀ s b, (s, b) ∈ rows → b ≠ a.g ∧ b ≠ a.dn ∧ b ≠ a.dm ∧ b ≠ a.dl ∧ b ≠ a.dv ∧ b ≠ a.ds ∧ b ≠ a.dp := by
  simp only [GA.muts, GA.m5, List.cons_append, List.nil_append, List.nodup_cons, List.mem_cons, not_or] at h
  obtain ⟨⟨g1, g2, g3, g4, g5, g6, g7⟩, ⟨n1, n2, n3, n4, n5, n6⟩, ⟨m1, m2, m3, m4, m5⟩, ⟨l1, l2, l3, l4⟩, ⟨v1, v2, v3⟩, ⟨s1, s2⟩, p1, _⟩ := h
  refine ⟨⟨g1, g2, g3, g4, g5, g6⟩, ⟨n1, n2, n3, n4, n5⟩, ⟨m1, m2, m3, m4⟩, ⟨l1, l2, l3⟩, ⟨v1, v2⟩, s1, fun s b hb => ?_⟩
  have hm : b ∈ rows.map (·.2) := List.mem_map_of_mem (f := fun sa : Int × Addr => sa.2) hb
  exact ⟨fun z => g7 (z ▸ hm), fun z => n6 (z ▸ hm), fun z => m5 (z ▸ hm), fun z => l4 (z ▸ hm), fun z => v3 (z ▸ hm), fun z => s2 (z ▸ hm), fun z => p1 (z ▸ hm)⟩
theorem inl_kV (m : List Int) : (m.map (Sum.inl : Int → Key)).map kV = m.map V.int := by
  rw [List.map_map]; rfl
theorem snoc_get {α β : Type} {l : List α} {x : α} {l' : List β} {y : β} (hl : l.length = l'.length) {i : Nat} {u : α} {v : β} (h1 : (l ++ [x])[i]? = some u) (h2 : (l' ++ [y])[i]? = some v) : (l[i]? = some u ∧ l'[i]? = some v) ∨ (i = l.length ∧ u = x ∧ v = y) := by
  by_cases h : i < l.length
  · rw [List.getElem?_append_left h] at h1
    rw [List.getElem?_append_left (by omega)] at h2
    exact .inl ⟨h1, h2⟩
  · have hi : i < (l ++ [x]).length := (List.getElem?_eq_some_iff.mp h1).1
    have e : i = l.length := by simp at hi; omega
    subst e
    simp at h1
    rw [hl] at h2
    simp at h2
    exact .inr ⟨rfl, h1.symm, h2.symm⟩
/-- a square that is there stands in the dict by its own number; one that is not there does not -/
theorem look_of {q : List Sq} {mk : List (List Int)} (qn : q.Nodup) (lm : mk.length = q.length) (md : ∀ (i : Nat) m S, mk[i]? = some m → q[i]? = some S → Made q S m) {S : Sq} {m : List Int} (hm : Made q S m) :
    (∀ n, lookI mk m 0 = some n → q[n]? = some S) ∧ (lookI mk m 0 = none → S ∉ q) := by
  constructor
  · intro n h
    obtain ⟨_, h2⟩ := lookI_some h
    simp only [Nat.sub_zero] at h2
    have hn : n < q.length := by rw [← lm]; exact (List.getElem?_eq_some_iff.mp h2).1
    have e : q[n]? = some q[n] := by simp [hn]
    rw [e]
    exact congrArg some (made_same (md n m _ h2 e) hm)
  · intro h hS
    obtain ⟨n, hn, e⟩ := List.mem_iff_getElem.mp hS
    have hn' : n < mk.length := by omega
    have e1 : mk[n]? = some mk[n] := by simp [hn']
    have e2 : q[n]? = some S := by simp [hn, e]
    refine lookI_none h ?_
    rw [made_inj qn hm (md n _ S e1 e2)]
    exact List.getElem_mem hn'
/-- the heap behind kept -/
theorem gat_kept {C : Addr} {H H' : Hp} {a : GA} {rows : List (Int × Addr)} {q : List Sq} {tups : List Addr} {mk : List (List Int)} {spt : List V} {S : Sq} {t : Addr} {m : List Int} {v : V} (G : GAt C H a rows q) (D : GData H a q tups mk spt)
    (ht : H t = some (.tup (m.map V.int))) (hm : Made q S m) (hw : S.wf) (hS : S ∉ q) (hv : SpanV H v S.span)
    (h1 : H' a.dn = some (.dT (kvsOf (mk ++ [m]) 0))) (h2 : H' a.dm = some (.lst ((tups ++ [t]).map V.ref))) (h3 : H' a.dl = some (.lst ((q ++ [S]).map fun S => V.int (S.level : Int)))) (h4 : H' a.dv = some (.lst ((q ++ [S]).map fun S => V.int S.lives))) (h5 : H' a.ds = some (.lst (spt ++ [v])))
    (fr : Fr a.m5 H H') : GAt C H' a rows (q ++ [S]) := by
  obtain ⟨⟨g1, g2, g3, g4, g5, g6⟩, ⟨n1, n2, n3, n4, n5⟩, ⟨m1, m2, m3, m4⟩, ⟨l1, l2, l3⟩, ⟨v1, v2⟩, s1, hr⟩ := nd_of G.nd
  have out : ∀ b xs, H b = some (.tup xs) → H' b = some (.tup xs) := fun b xs e => fr b _ e fun z => G.tup_out e (List.mem_append_left _ z)
  refine ⟨fr _ _ G.ob (by simp [GA.m5, g1, g2, g3, g4, g5]), ⟨tups ++ [t], mk ++ [m], spt ++ [v], h1, h2, h3, h4, h5, by simp [D.lt], by simp [D.lm], by simp [D.ls], fun i t' m' e1 e2 => ?_, fun i v' S' e1 e2 => ?_, fun i m' S' e1 e2 => ?_⟩, fun S' h => ?_, ?_, fr _ _ G.pl (by simp [GA.m5, Ne.symm n5, Ne.symm m4, Ne.symm l3, Ne.symm v2, Ne.symm s1]), G.nd, G.rn, G.rs, fun s b hb => ?_⟩
  · rcases snoc_get (by rw [D.lt, D.lm]) e1 e2 with ⟨e1, e2⟩ | ⟨_, rfl, rfl⟩
    · exact out _ _ (D.tu i t' m' e1 e2)
    · exact out _ _ ht
  · rcases snoc_get D.ls e1 e2 with ⟨e1, e2⟩ | ⟨_, rfl, rfl⟩
    · exact (D.sp i v' S' e1 e2).keep out
    · exact hv.keep out
  · rcases snoc_get D.lm e1 e2 with ⟨e1, e2⟩ | ⟨_, rfl, rfl⟩
    · exact (D.md i m' S' e1 e2).app _
    · exact hm.app _
  · rcases List.mem_append.mp h with h | h
    · exact G.wf S' h
    · simp only [List.mem_singleton] at h; subst h; exact hw
  · rw [List.nodup_append]
    refine ⟨G.qn, by simp, fun x hx y hy e => ?_⟩
    simp only [List.mem_singleton] at hy
    subst hy
    exact hS (e ▸ hx)
  · obtain ⟨ns, e, k⟩ := G.ro s b hb
    obtain ⟨_, b1, b2, b3, b4, b5, _⟩ := hr s b hb
    refine ⟨ns, fr _ _ e (by simp [GA.m5, b1, b2, b3, b4, b5]), fun i n hn => getElem?_app (k i n hn) _⟩
section
variable {P : Program} {w : World} {K : PySem.W.Frag} {mg : Str → Option Value} {base : Heap}
def sp_kept (C : Addr) : Sp := fun vs H Q _ => ∃ (a : GA) (rows : List (Int × Addr)) (q : List Sq) (S : Sq) (t : Addr) (m : List Int) (v : V), vs = [.ref a.g, .ref t, .int (S.level : Int), .int S.lives, v] ∧ GAt C H a rows q ∧ H t = some (.tup (m.map V.int)) ∧ Made q S m ∧ S.wf ∧ S ∉ q ∧ SpanV H v S.span ∧ q.length < 16000000 ∧
  ∀ H', GAt C H' a rows (q ++ [S]) → Fr a.m5 H H' → Q (.int (q.length : Int)) H'
theorem sizeBig : 16000000 < sizeLine := by decide
/-! ### cell and knit -/
theorem take_snoc {α : Type} {l : List α} {i : Nat} {v : α} (h : l[i]? = some v) : l.take (i + 1) = l.take i ++ [v] := by
  rw [List.take_add_one, h]; rfl
def sp_cell (C : Addr) : Sp := fun vs H Q _ => ∃ (a : GA) (rows : List (Int × Addr)) (q : List Sq) (s : Int), vs = [.ref a.g, .int s] ∧ GAt C H a rows q ∧ 0 ≤ s ∧ s ≤ 7 ∧ q.length < 16000000 ∧
  ∀ H' q' (n : Nat), GAt C H' a rows q' → q <+: q' → q'.length ≤ q.length + 1 → q'[n]? = some (.leaf s) → Fr a.m5 H H' → Q (.int (n : Int)) H'
def sp_knit (C : Addr) : Sp := fun vs H Q _ => ∃ (a : GA) (rows : List (Int × Addr)) (q : List Sq) (A B C' D : Sq) (na nb nc nd : Nat), vs = [.ref a.g, .int (na : Int), .int (nb : Int), .int (nc : Int), .int (nd : Int)] ∧ GAt C H a rows q ∧
  q[na]? = some A ∧ q[nb]? = some B ∧ q[nc]? = some C' ∧ q[nd]? = some D ∧ (Sq.node A B C' D).wf ∧ A.level ≤ 60 ∧ q.length < 16000000 ∧
  ∀ H' q' (n : Nat), GAt C H' a rows q' → q <+: q' → q'.length ≤ q.length + 1 → q'[n]? = some (.node A B C' D) → Fr a.m5 H H' → Q (.int (n : Int)) H'
theorem map_get {α β : Type} {l : List α} {n : Nat} {x : α} (f : α → β) (h : l[n]? = some x) : (l.map f)[n]? = some (f x) := by
  rw [List.getElem?_map, h]; rfl
theorem acc4_r4 (half : Int) (a b c d : Option Box) : acc4 half [a, b, c, d] 4 = r4 half a b c d := rfl
theorem mp_kept {C : Addr} : MonP (sp_kept C) := fun vs H Q Q' E h ⟨a, rows, q, S, t, m, v, x1, x2, x3, x4, x5, x6, x7, x8, k⟩ => ⟨a, rows, q, S, t, m, v, x1, x2, x3, x4, x5, x6, x7, x8, fun H' g f => h _ _ (k H' g f)⟩
theorem mp_cell {C : Addr} : MonP (sp_cell C) := fun vs H Q Q' E h ⟨a, rows, q, s, x1, x2, x3, x4, x5, k⟩ => ⟨a, rows, q, s, x1, x2, x3, x4, x5, fun H' q' n g p l e f => h _ _ (k H' q' n g p l e f)⟩
theorem mp_knit {C : Addr} : MonP (sp_knit C) := fun vs H Q Q' E h ⟨a, rows, q, A, B, C', D, na, nb, nc, nd, x1, x2, x3, x4, x5, x6, x7, x8, x9, k⟩ => ⟨a, rows, q, A, B, C', D, na, nb, nc, nd, x1, x2, x3, x4, x5, x6, x7, x8, x9, fun H' q' n g p l e f => h _ _ (k H' q' n g p l e f)⟩
end
end JF

/-! ### the grove's methods: __init__, even -/
namespace JF
open PySem PySem.Spec PyProof.Rows L2
section
variable {P : Program} {w : World} {K : PySem.W.Frag} {mg : Str → Option Value} {base : Heap}
def sp_ginit (C : Addr) : Sp := fun vs H Q _ => ∃ (p dx : Addr), vs = [.ref p] ∧ H p = some (.ins C dx []) ∧ ∀ (a : GA) (H' : Hp), a.g = p → GAt C H' a [] [] → (∀ b ∈ a.muts [], H b = none) → (∀ b o, H b = some o → b ≠ p → H' b = some o) → Q .non H'
end
end JF

/-! ### even, and the asking methods -/
namespace JF
open PySem PySem.Spec PyProof.Rows L2
/-- a row of plain squares grows -/
theorem GAt.row {C : Addr} {H : Hp} {a : GA} {rows : List (Int × Addr)} {q : List Sq} {s : Int} {b : Addr} {ns : List Nat} (G : GAt C H a rows q) (h : (s, b) ∈ rows) (hv : ∀ (i : Nat) n, ns[i]? = some n → q[n]? = some (Sq.even i s)) :
    GAt C (L2.upd H b (.lst (ns.map fun (n : Nat) => V.int (n : Int)))) a rows q := by
  obtain ⟨tups, mk, spt, D⟩ := G.da
  obtain ⟨⟨g1, g2, g3, g4, g5, g6⟩, _, _, _, _, _, hr⟩ := nd_of G.nd
  obtain ⟨r1, r2, r3, r4', r5, r6, r7⟩ := hr s b h
  obtain ⟨ns0, hb0, _⟩ := G.ro s b h
  have out : ∀ c xs, H c = some (.tup xs) → L2.upd H b (.lst (ns.map fun (n : Nat) => V.int (n : Int))) c = some (.tup xs) := fun c xs e => by
    rw [upd_ne (by rintro rfl; rw [hb0] at e; cases e)]; exact e
  refine ⟨by rw [upd_ne r1.symm]; exact G.ob, ⟨tups, mk, spt, by rw [upd_ne r2.symm]; exact D.hn, by rw [upd_ne r3.symm]; exact D.hm, by rw [upd_ne r4'.symm]; exact D.hl, by rw [upd_ne r5.symm]; exact D.hv, by rw [upd_ne r6.symm]; exact D.hs, D.lt, D.lm, D.ls,
    fun i t m h1 h2 => out _ _ (D.tu i t m h1 h2), fun i v S h1 h2 => (D.sp i v S h1 h2).keep out, D.md⟩, G.wf, G.qn, by rw [upd_ne r7.symm]; exact G.pl, G.nd, G.rn, G.rs, fun s' b' h' => ?_⟩
  by_cases e : b' = b
  · subst e
    have hs : s' = s := by
      have nd2 : (rows.map (·.2)).Nodup := by
        have z := (List.nodup_cons.mp G.nd).2
        unfold GA.muts at z
        exact (List.nodup_cons.mp (List.nodup_append.mp z).2.1).2
      obtain ⟨i, hi, e1⟩ := List.mem_iff_getElem.mp h
      obtain ⟨j, hj, e2⟩ := List.mem_iff_getElem.mp h'
      have e3 : i = j := (List.getElem_inj (xs := rows.map (·.2)) (h₀ := by simpa using hi) (h₁ := by simpa using hj) nd2).mp (by simp [e1, e2])
      subst e3
      rw [e1] at e2
      exact (congrArg Prod.fst e2).symm
    subst hs
    exact ⟨ns, upd_same, hv⟩
  · obtain ⟨ns', e1, e2⟩ := G.ro s' b' h'
    exact ⟨ns', by rw [upd_ne e]; exact e1, e2⟩
theorem rows_look {rows : List (Int × Addr)} {s : Int} : (∀ v, valV (rows.map fun sa => ((Sum.inl sa.1 : Key), V.ref sa.2)) (Sum.inl s) = some v → ∃ b, (s, b) ∈ rows ∧ v = .ref b) ∧ (valV (rows.map fun sa => ((Sum.inl sa.1 : Key), V.ref sa.2)) (Sum.inl s) = none → s ∉ rows.map (·.1)) := by
  induction rows with
  | nil => exact ⟨fun v h => (by cases h), fun _ => by simp⟩
  | cons x r ih =>
    by_cases e : x.1 = s
    · constructor
      · intro v h
        have h' : some (V.ref x.2) = some v := by rw [← h]; simp [valV, e]
        exact ⟨x.2, by rw [← e]; exact List.mem_cons_self, (Option.some.inj h').symm⟩
      · intro h
        have h' : valV (((x :: r).map fun sa => ((Sum.inl sa.1 : Key), V.ref sa.2))) (Sum.inl s) = some (V.ref x.2) := by simp [valV, e]
        rw [h'] at h; cases h
    · have e' : ¬ ((Sum.inl x.1 : Key) = Sum.inl s) := fun z => e (Sum.inl.inj z)
      have eq : valV (((x :: r).map fun sa => ((Sum.inl sa.1 : Key), V.ref sa.2))) (Sum.inl s) = valV ((r.map fun sa => ((Sum.inl sa.1 : Key), V.ref sa.2))) (Sum.inl s) := by
        simp [valV, e]
      rw [eq]
      refine ⟨fun v h => ?_, fun h => ?_⟩
      · obtain ⟨b, h1, h2⟩ := ih.1 v h
        exact ⟨b, List.mem_cons_of_mem _ h1, h2⟩
      · simp only [List.map_cons, List.mem_cons, not_or]
        exact ⟨fun z => e z.symm, ih.2 h⟩
/-- a new row -/
theorem GAt.addrow {C : Addr} {H : Hp} {a : GA} {rows : List (Int × Addr)} {q : List Sq} {s : Int} {p : Addr} (G : GAt C H a rows q) (hp : H p = none) (hs : s ∉ rows.map (·.1)) (h0 : 0 ≤ s) (h7 : s ≤ 7) :
    GAt C (L2.upd (L2.upd H p (.lst [])) a.dp (.dK ((rows.map fun sa => ((Sum.inl sa.1 : Key), V.ref sa.2)) ++ [((Sum.inl s : Key), V.ref p)]))) a (rows ++ [(s, p)]) q := by
  have G1 := G.same (same_upd (o := .lst []) hp)
  obtain ⟨tups, mk, spt, D⟩ := G1.da
  obtain ⟨⟨g1, g2, g3, g4, g5, g6⟩, ⟨n1, n2, n3, n4, n5⟩, ⟨m1, m2, m3, m4⟩, ⟨l1, l2, l3⟩, ⟨v1, v2⟩, s1, hr⟩ := nd_of G.nd
  have hdp : ∀ xs, L2.upd H p (.lst []) a.dp ≠ some (.tup xs) := fun xs e => by rw [G1.pl] at e; cases e
  have out : ∀ c xs o, L2.upd H p (.lst []) c = some (.tup xs) → L2.upd (L2.upd H p (.lst [])) a.dp o c = some (.tup xs) := fun c xs o e => by
    rw [upd_ne (by rintro rfl; exact hdp _ e)]; exact e
  refine ⟨by rw [upd_ne g6]; exact G1.ob, ⟨tups, mk, spt, by rw [upd_ne n5]; exact D.hn, by rw [upd_ne m4]; exact D.hm, by rw [upd_ne l3]; exact D.hl, by rw [upd_ne v2]; exact D.hv, by rw [upd_ne s1]; exact D.hs, D.lt, D.lm, D.ls,
    fun i t m h1 h2 => out _ _ _ (D.tu i t m h1 h2), fun i v S h1 h2 => (D.sp i v S h1 h2).keep fun b xs e => out _ _ _ e, D.md⟩, G1.wf, G1.qn, by rw [upd_same, List.map_append]; rfl, ?_, ?_, fun s' h' => ?_, fun s' b' h' => ?_⟩
  · have hout := G.new_out hp
    have hg : a.g ≠ p := ne_of_none G.ob hp
    have z := G.nd
    rw [List.nodup_cons] at z ⊢
    have em : a.muts (rows ++ [(s, p)]) = a.muts rows ++ [p] := by simp [GA.muts]
    rw [em]
    refine ⟨fun h => ?_, ?_⟩
    · rcases List.mem_append.mp h with h | h
      · exact z.1 h
      · simp only [List.mem_singleton] at h; exact hg h
    · rw [List.nodup_append]
      refine ⟨z.2, by simp, fun x hx y hy e => ?_⟩
      simp only [List.mem_singleton] at hy
      subst hy
      exact hout (e ▸ hx)
  · rw [List.map_append, List.nodup_append]
    refine ⟨G.rn, by simp, fun x hx y hy e => ?_⟩
    simp only [List.map_cons, List.map_nil, List.mem_singleton] at hy
    subst hy
    exact hs (e ▸ hx)
  · rw [List.map_append] at h'
    rcases List.mem_append.mp h' with h' | h'
    · exact G.rs s' h'
    · simp only [List.map_cons, List.map_nil, List.mem_singleton] at h'
      subst h'; exact ⟨h0, h7⟩
  · rcases List.mem_append.mp h' with h' | h'
    · obtain ⟨ns, e1, e2⟩ := G1.ro s' b' h'
      obtain ⟨_, _, _, _, _, _, r7⟩ := hr s' b' h'
      exact ⟨ns, by rw [upd_ne r7]; exact e1, e2⟩
    · simp only [List.mem_singleton, Prod.mk.injEq] at h'
      obtain ⟨rfl, rfl⟩ := h'
      have : b' ≠ a.dp := (ne_of_none G.pl hp).symm
      exact ⟨[], by rw [upd_ne this, upd_same]; rfl, fun i n h => by simp at h⟩
theorem fr_muts {a : GA} {rows : List (Int × Addr)} {H H' : Hp} (h : Fr a.m5 H H') : Fr (a.muts rows) H H' := h.mono fun b hb => List.mem_append_left _ hb
theorem row_mem {a : GA} {rows : List (Int × Addr)} {s : Int} {b : Addr} (h : (s, b) ∈ rows) : b ∈ a.muts rows :=
  List.mem_append_right _ (List.mem_cons_of_mem _ (List.mem_map_of_mem (f := fun sa : Int × Addr => sa.2) h))
/-- knit's and cell's way: the rows stay -/
theorem GStep.m5 {C : Addr} {H H1 H2 : Hp} {a : GA} {rows r1 : List (Int × Addr)} {q q1 q2 : List Sq} (x : GStep C H a rows q H1 r1 q1) (G : GAt C H2 a r1 q2) (p : q1 <+: q2) (f : Fr a.m5 H1 H2) : GStep C H a rows q H2 r1 q2 :=
  x.trans ⟨G, p, fr_muts f, fun _ h => .inl h⟩
theorem GStep.row {C : Addr} {H H1 : Hp} {a : GA} {rows r1 : List (Int × Addr)} {q q1 : List Sq} {s : Int} {b : Addr} {ns : List Nat} (x : GStep C H a rows q H1 r1 q1) (h : (s, b) ∈ r1) (hv : ∀ (i : Nat) n, ns[i]? = some n → q1[n]? = some (Sq.even i s)) :
    GStep C H a rows q (L2.upd H1 b (.lst (ns.map fun (n : Nat) => V.int (n : Int)))) r1 q1 :=
  x.trans ⟨x.gat.row h hv, List.prefix_refl _, fun c o e n => by rw [upd_ne (by rintro rfl; exact n (row_mem h))]; exact e, fun _ h => .inl h⟩
theorem GStep.same {C : Addr} {H H1 H2 : Hp} {a : GA} {rows r1 : List (Int × Addr)} {q q1 : List Sq} (x : GStep C H a rows q H1 r1 q1) (s : Same H1 H2) : GStep C H a rows q H2 r1 q1 :=
  x.trans ⟨x.gat.same s, List.prefix_refl _, fr_of s, fun _ h => .inl h⟩
theorem row_not5 {C : Addr} {H : Hp} {a : GA} {rows : List (Int × Addr)} {q : List Sq} {s : Int} {b : Addr} (G : GAt C H a rows q) (h : (s, b) ∈ rows) : b ∉ a.m5 := by
  obtain ⟨_, _, _, _, _, _, hr⟩ := nd_of G.nd
  obtain ⟨r1, r2, r3, r4', r5, r6, r7⟩ := hr s b h
  simp [GA.m5, r2, r3, r4', r5, r6]
theorem map_int_len (ns : List Nat) : (ns.map fun (n : Nat) => V.int (n : Int)).length = ns.length := List.length_map _
section
variable {P : Program} {w : World} {K : PySem.W.Frag} {mg : Str → Option Value} {base : Heap}
def sp_even (C : Addr) : Sp := fun vs H Q _ => ∃ (a : GA) (rows : List (Int × Addr)) (q : List Sq) (l : Nat) (s : Int), vs = [.ref a.g, .int (l : Int), .int s] ∧ GAt C H a rows q ∧ l ≤ 60 ∧ 0 ≤ s ∧ s ≤ 7 ∧ q.length + 100 < 16000000 ∧
  ∀ H' rows' q' (n : Nat), GStep C H a rows q H' rows' q' → q'.length ≤ q.length + l + 1 → q'[n]? = some (Sq.even l s) → Q (.int (n : Int)) H'
end
end JF

/-! ### the asking methods (no refusal) -/
namespace JF
open PySem PySem.Spec PyProof.Rows L2
section
variable {P : Program} {w : World} {K : PySem.W.Frag} {mg : Str → Option Value} {base : Heap}
theorem at_lt {q : List Sq} {n : Nat} {S : Sq} (h : q[n]? = some S) : n < q.length := (List.getElem?_eq_some_iff.mp h).1
def sp_asked (C : Addr) : Sp := fun vs H Q _ => ∃ (a : GA) (rows : List (Int × Addr)) (q : List Sq) (n : Nat) (S : Sq), vs = [.ref a.g, .int (n : Int)] ∧ GAt C H a rows q ∧ q[n]? = some S ∧ q.length ≤ 16000000 ∧ Q (.int (S.level : Int)) H
theorem mp_asked {C : Addr} : MonP (sp_asked C) := fun vs H Q Q' E h ⟨a, rows, q, n, S, x1, x2, x3, x4, k⟩ => ⟨a, rows, q, n, S, x1, x2, x3, x4, h _ _ k⟩
/-- what asks one square, and tells a value: the level and so on -/
def sp_level_of (C : Addr) : Sp := sp_asked C
def sp_living (C : Addr) : Sp := fun vs H Q _ => ∃ (a : GA) (rows : List (Int × Addr)) (q : List Sq) (n : Nat) (S : Sq), vs = [.ref a.g, .int (n : Int)] ∧ GAt C H a rows q ∧ q[n]? = some S ∧ q.length ≤ 16000000 ∧ Q (.int S.lives) H
theorem mp_living {C : Addr} : MonP (sp_living C) := fun vs H Q Q' E h ⟨a, rows, q, n, S, x1, x2, x3, x4, k⟩ => ⟨a, rows, q, n, S, x1, x2, x3, x4, h _ _ k⟩
def sp_span (C : Addr) : Sp := fun vs H Q _ => ∃ (a : GA) (rows : List (Int × Addr)) (q : List Sq) (n : Nat) (S : Sq), vs = [.ref a.g, .int (n : Int)] ∧ GAt C H a rows q ∧ q[n]? = some S ∧ q.length ≤ 16000000 ∧ ∀ v, SpanV H v S.span → Q v H
theorem mp_span {C : Addr} : MonP (sp_span C) := fun vs H Q Q' E h ⟨a, rows, q, n, S, x1, x2, x3, x4, k⟩ => ⟨a, rows, q, n, S, x1, x2, x3, x4, fun v hv => h _ _ (k v hv)⟩
/-- the quarters, as the tuple that stands there -/
def sp_quarters (C : Addr) : Sp := fun vs H Q _ => ∃ (a : GA) (rows : List (Int × Addr)) (q : List Sq) (n : Nat) (A B C' D : Sq), vs = [.ref a.g, .int (n : Int)] ∧ GAt C H a rows q ∧ q[n]? = some (.node A B C' D) ∧ q.length ≤ 16000000 ∧
  ∀ (t : Addr) (x y z u : Nat), H t = some (.tup [.int (x : Int), .int (y : Int), .int (z : Int), .int (u : Int)]) → q[x]? = some A → q[y]? = some B → q[z]? = some C' → q[u]? = some D → Q (.ref t) H
theorem mp_quarters {C : Addr} : MonP (sp_quarters C) := fun vs H Q Q' E h ⟨a, rows, q, n, A, B, C', D, x1, x2, x3, x4, k⟩ => ⟨a, rows, q, n, A, B, C', D, x1, x2, x3, x4, fun t x y z u e1 e2 e3 e4 e5 => h _ _ (k t x y z u e1 e2 e3 e4 e5)⟩
def sp_state_of (C : Addr) : Sp := fun vs H Q _ => ∃ (a : GA) (rows : List (Int × Addr)) (q : List Sq) (n : Nat) (s : Int), vs = [.ref a.g, .int (n : Int)] ∧ GAt C H a rows q ∧ q[n]? = some (.leaf s) ∧ q.length ≤ 16000000 ∧ Q (.int s) H
theorem mp_state_of {C : Addr} : MonP (sp_state_of C) := fun vs H Q Q' E h ⟨a, rows, q, n, S, x1, x2, x3, x4, k⟩ => ⟨a, rows, q, n, S, x1, x2, x3, x4, h _ _ k⟩
def sp_leaf (C : Addr) : Sp := sp_cell C
def sp_solid (C : Addr) : Sp := fun vs H Q _ => ∃ (a : GA) (rows : List (Int × Addr)) (q : List Sq) (l : Nat) (s : Int), vs = [.ref a.g, .int (l : Int), .int s] ∧ GAt C H a rows q ∧ l ≤ 48 ∧ 0 ≤ s ∧ s ≤ 7 ∧ q.length + 100 < 16000000 ∧
  ∀ H' rows' q' (n : Nat), GStep C H a rows q H' rows' q' → q'.length ≤ q.length + l + 1 → q'[n]? = some (Sq.even l s) → Q (.int (n : Int)) H'
theorem mp_even {C : Addr} : MonP (sp_even C) := fun vs H Q Q' E h ⟨a, rows, q, l, s, x1, x2, x3, x4, x5, x6, k⟩ => ⟨a, rows, q, l, s, x1, x2, x3, x4, x5, x6, fun H' r' q' n g p l => h _ _ (k H' r' q' n g p l)⟩
theorem mp_solid {C : Addr} : MonP (sp_solid C) := fun vs H Q Q' E h ⟨a, rows, q, l, s, x1, x2, x3, x4, x5, x6, k⟩ => ⟨a, rows, q, l, s, x1, x2, x3, x4, x5, x6, fun H' r' q' n g p l => h _ _ (k H' r' q' n g p l)⟩
/-- four are joined -/
def sp_joined (C : Addr) : Sp := fun vs H Q _ => ∃ (a : GA) (rows : List (Int × Addr)) (q : List Sq) (A B C' D : Sq) (na nb nc nd : Nat), vs = [.ref a.g, .int (na : Int), .int (nb : Int), .int (nc : Int), .int (nd : Int)] ∧ GAt C H a rows q ∧
  q[na]? = some A ∧ q[nb]? = some B ∧ q[nc]? = some C' ∧ q[nd]? = some D ∧ B.level = A.level ∧ C'.level = A.level ∧ D.level = A.level ∧ A.level ≤ 47 ∧ q.length < 16000000 ∧
  ∀ H' q' (n : Nat), GStep C H a rows q H' rows q' → q'.length ≤ q.length + 1 → q'[n]? = some (.node A B C' D) → Fr a.m5 H H' → Q (.int (n : Int)) H'
theorem mp_joined {C : Addr} : MonP (sp_joined C) := fun vs H Q Q' E h ⟨a, rows, q, A, B, C', D, na, nb, nc, nd, x1, x2, x3, x4, x5, x6, x7, x8, x9, y1, y2, k⟩ => ⟨a, rows, q, A, B, C', D, na, nb, nc, nd, x1, x2, x3, x4, x5, x6, x7, x8, x9, y1, y2, fun H' q' n g p l f => h _ _ (k H' q' n g p l f)⟩
end
end JF

/-! ### helpers of the laws: the script's numbers, lists of tuples of numbers -/
namespace JF
open PySem PySem.Spec PyProof.Rows L2
/-- tuples of whole numbers, one by one -/
def TR (H : Hp) : List Addr → List (List Int) → Prop
  | [], [] => True
  | r :: rs, x :: xs => H r = some (.tup (x.map V.int)) ∧ TR H rs xs
  | _, _ => False
theorem TR.len {H : Hp} : ∀ {rs : List Addr} {xs : List (List Int)}, TR H rs xs → rs.length = xs.length
  | [], [], _ => rfl
  | r :: rs, x :: xs, h => congrArg (· + 1) (TR.len h.2)
  | [], _ :: _, h => h.elim
  | _ :: _, [], h => h.elim
theorem TR.keep {H H' : Hp} (k : ∀ b ys, H b = some (.tup ys) → H' b = some (.tup ys)) : ∀ {rs : List Addr} {xs : List (List Int)}, TR H rs xs → TR H' rs xs
  | [], [], _ => trivial
  | r :: rs, x :: xs, h => ⟨k _ _ h.1, TR.keep k h.2⟩
  | [], _ :: _, h => h.elim
  | _ :: _, [], h => h.elim
theorem TR.app {H : Hp} {r : Addr} {x : List Int} (hr : H r = some (.tup (x.map V.int))) : ∀ {rs : List Addr} {xs : List (List Int)}, TR H rs xs → TR H (rs ++ [r]) (xs ++ [x])
  | [], [], _ => ⟨hr, trivial⟩
  | _ :: _, _ :: _, h => ⟨h.1, TR.app hr h.2⟩
  | [], _ :: _, h => h.elim
  | _ :: _, [], h => h.elim
theorem TR.get {H : Hp} : ∀ {rs : List Addr} {xs : List (List Int)} {i : Nat} {r : Addr}, TR H rs xs → rs[i]? = some r → ∃ x, xs[i]? = some x ∧ H r = some (.tup (x.map V.int))
  | [], [], _, _, _, e => by simp at e
  | r :: rs, x :: xs, 0, _, h, e => by
    simp only [List.getElem?_cons_zero, Option.some.injEq] at e
    subst e
    exact ⟨x, rfl, h.1⟩
  | r :: rs, x :: xs, i + 1, _, h, e => by
    simp only [List.getElem?_cons_succ] at e ⊢
    exact TR.get h.2 e
  | [], _ :: _, _, _, h, _ => h.elim
  | _ :: _, [], _, _, h, _ => h.elim
/-- a list of tuples of whole numbers -/
def TL (H : Hp) (p : Addr) (xs : List (List Int)) : Prop := ∃ rs : List Addr, H p = some (.lst (rs.map V.ref)) ∧ TR H rs xs
theorem at_get {α : Type} {l : List α} {i : Nat} (h : i < l.length) : l[i]? = some l[i] := by simp [h]
section
variable {K : PySem.W.Frag} {σ : L2.St} {H : Hp} {Q : VK}
/-- [x[c] for x in list] of tuples of numbers -/
theorem rd_colT {L i n : Nat} {c : Int} {p : Addr} {xs : List (List Int)} (hi : i < σ.length) (hv : σ[L]? = some (some (.ref p))) (h : TL H p xs) (hx : ∀ x ∈ xs, x.length = n) (hc0 : 0 ≤ c) (hcn : c.toNat < n) (hz : xs.length ≤ sizeLine)
    (hd : ∀ D, H D = none → Q (.ref D) (upd H D (.lst ((xs.map fun x => x.getD c.toNat 0).map V.int)))) : tLc (iList K (tVar L)) (gName i) tYes (tOp (rIxT K) (tVar i) (tC (.int c))) [i] σ H Q := by
  obtain ⟨rs, hp, ht⟩ := h
  refine ⟨_, hv, p, rfl, ⟨_, SqL.of hp⟩, fun D hD => ?_⟩
  have sm : ∀ o, Same H (upd H D o) := fun o => same_upd hD
  refine lc_list (K := K) (xs := rs.map V.ref) (fun i H' => H' = upd H D (.lst (((xs.take i).map fun x => x.getD c.toNat 0).map V.int))) (by simp) (fun i H' _ e => SqL.of (by rw [e]; exact sm _ _ _ hp)) ?_ ?_
  · rintro j x H' hj rfl
    obtain ⟨r, hr, rfl⟩ : ∃ r, rs[j]? = some r ∧ x = .ref r := by
      rw [List.getElem?_map] at hj
      cases e : rs[j]? with
      | none => rw [e] at hj; cases hj
      | some r => rw [e] at hj; exact ⟨r, rfl, (Option.some.inj hj).symm⟩
    obtain ⟨x, hx1, hx2⟩ := ht.get hr
    have hl := hx x (List.mem_of_getElem? hx1)
    have hlt : c.toNat < x.length := by omega
    have hset : (((wipe σ [i]).set i (some (.ref r)))[i]? : Option (Option V)) = some (some (.ref r)) := by
      rw [List.getElem?_set_self (by rw [wipe_length]; exact hi)]
    refine ⟨by simp only [wipe, List.set_set], ?_⟩
    refine rd_yes (iteT' (rd_op (rd_var hset (rd_c ?_))))
    have e1 : atI (x.map V.int) c = some (V.int (x.getD c.toNat 0)) := by
      obtain ⟨m, rfl⟩ : ∃ m : Nat, c = m := ⟨c.toNat, by omega⟩
      refine atI_nat ?_
      rw [Int.toNat_natCast] at hlt ⊢
      rw [List.getElem?_map, at_get hlt]
      simp [List.getD, hlt]
    refine rd_ixT (SqT.of (sm _ _ _ hx2)) e1 ?_
    refine ⟨_, upd_same, ?_, ?_⟩
    · have hj2 : j < xs.length := (List.getElem?_eq_some_iff.mp hx1).1
      simp only [List.length_map, List.length_take]
      omega
    · rw [upd_upd]
      have : xs.take (j + 1) = xs.take j ++ [x] := by rw [List.take_succ, hx1]; rfl
      rw [this, List.map_append, List.map_append]; rfl
  · rintro H' rfl
    have e : xs.take (rs.map V.ref).length = xs := by rw [List.length_map, ht.len, List.take_length]
    rw [e]
    exact hd D hD
/-- min, max, of a list of numbers -/
theorem rd_min {p : Addr} {ns : List Int} (m0 : Int) (h : H p = some (.lst (ns.map V.int))) (hm : m0 ∈ ns) (hle : ∀ y ∈ ns, m0 ≤ y) (q : Q (.int m0) H) : rMin K [.ref p] H Q :=
  ⟨p, ns, rfl, SqL.of h, List.length_pos_of_mem hm, fun m h1 h2 => by
    have e : m = m0 := Int.le_antisymm (h2 m0 hm) (hle m h1)
    rw [e]; exact q⟩
theorem rd_max {p : Addr} {ns : List Int} (m0 : Int) (h : H p = some (.lst (ns.map V.int))) (hm : m0 ∈ ns) (hle : ∀ y ∈ ns, y ≤ m0) (q : Q (.int m0) H) : rMax K [.ref p] H Q :=
  ⟨p, ns, rfl, SqL.of h, List.length_pos_of_mem hm, fun m h1 h2 => by
    have e : m = m0 := Int.le_antisymm (hle m h1) (h2 m0 hm)
    rw [e]; exact q⟩
/-! lists of tuples, compared -/
theorem dp_tr : ∀ {rs : List Addr} {xs : List (List Int)}, TR H rs xs → DpAll K H (rs.map V.ref) (xs.map fun x => PyData.tuple (x.map PyData.int))
  | [], [], _ => .nil
  | r :: rs, x :: xs, h => .cons (.tup (SqT.of h.1) dp_ints) (dp_tr h.2)
  | [], _ :: _, h => h.elim
  | _ :: _, [], h => h.elim
theorem lay_ints : ∀ x : List Int, PyData.canLayAll0 (x.map PyData.int) = true
  | [] => by simp [PyData.canLayAll0]
  | i :: x => by simp [PyData.canLayAll0, PyData.canLay0, lay_ints x]
theorem depth_ints : ∀ x : List Int, PyData.depthAll (x.map PyData.int) ≤ 1
  | [] => by simp [PyData.depthAll]
  | i :: x => by simp [PyData.depthAll, PyData.depth, depth_ints x]
theorem lay_tr : ∀ xs : List (List Int), PyData.canLayAll0 (xs.map fun x => PyData.tuple (x.map PyData.int)) = true
  | [] => by simp [PyData.canLayAll0]
  | x :: xs => by simp [PyData.canLayAll0, PyData.canLay0, lay_tr xs, lay_ints x]
theorem depth_tr : ∀ xs : List (List Int), PyData.depthAll (xs.map fun x => PyData.tuple (x.map PyData.int)) ≤ 2
  | [] => by simp [PyData.depthAll]
  | x :: xs => by
    have h1 := depth_tr xs
    have h2 := depth_ints x
    simp only [List.map_cons, PyData.depthAll, PyData.depth]
    omega
theorem shaped_tr (xs : List (List Int)) : SeqAt.shaped (.list (xs.map fun x => PyData.tuple (x.map PyData.int))) = true := by
  have h1 := depth_tr xs
  have h2 := lay_tr xs
  have h3 : PyData.depth (.list (xs.map fun x => PyData.tuple (x.map PyData.int))) ≤ 64 := by
    simp only [PyData.depth]
    omega
  unfold SeqAt.shaped
  rw [decide_eq_true h3, Bool.and_true]
  simp only [PyData.canLay0, h2]
theorem TL.same {H H' : Hp} {p : Addr} {xs : List (List Int)} (h : TL H p xs) (s : Same H H') : TL H' p xs := by
  obtain ⟨rs, h1, h2⟩ := h
  exact ⟨rs, s _ _ h1, h2.keep fun _ _ e => s _ _ e⟩
/-- rows == [] -/
theorem rd_eqTL0 {p pe : Addr} {xs : List (List Int)} (h : TL H p xs) (he : H pe = some (.lst [])) (q : Q (.bl (decide (xs = []))) H) : rEqD K (.ref p) (.ref pe) H Q := by
  obtain ⟨rs, h1, h2⟩ := h
  refine ⟨_, _, .lst (SqL.of h1) (dp_tr h2), .lst (SqL.of he) .nil, shaped_tr xs, rfl, ?_⟩
  cases xs with
  | nil => exact q
  | cons x xs => exact q
/-- isinstance(tuple of the law's, tuple) -/
theorem rd_isiT {p : Addr} {xs : List V} (h : H p = some (.tup xs)) (q : Q (.bl true) H) : rIsi K [.ref p, .ty "tuple"] H Q :=
  isi_ty (.base (.tup h)) (by decide +kernel : kitB "tuple" "tuple" = some true) q
theorem rd_isiI {i : Int} (q : Q (.bl true) H) : rIsi K [.int i, .ty "int"] H Q := isi_ty (.base (.int i)) (by decide +kernel : kitB "int" "int" = some true) q
theorem rd_isiB {i : Int} (q : Q (.bl false) H) : rIsi K [.int i, .ty "bool"] H Q := isi_ty (.base (.int i)) (by decide +kernel : kitB "int" "bool" = some false) q
end
theorem sqL_on {K : PySem.W.Frag} {H H' : Hp} {a : Addr} {xs : List V} (h : SqL K H a xs) (e : ∀ o, H a = some o → H' a = some o) : SqL K H' a xs :=
  h.elim (fun h => .inl (h.elim (fun h => .inl (e _ h)) fun ⟨o, h⟩ => .inr ⟨o, e _ h⟩)) fun h => .inr h
theorem walk_r0 {n : Nat} : Walk (Itr 0 n) n (fun _ => True) (YFn fun i => .int (i : Int)) :=
  walk_range.mono (fun _ h => h) fun i H x H' _ _ y => ⟨y.1, y.2.trans (by show V.int (0 + (i : Int)) = V.int (i : Int); rw [Int.zero_add])⟩
def cutI (ns : List Int) (lo hi : Option Int) : List Int := (ns.drop (HT.sIx ns.length 0 lo)).take (HT.sIx ns.length ns.length hi - HT.sIx ns.length 0 lo)
theorem cutV_ints (ns : List Int) (lo hi : Option Int) : cutV (ns.map V.int) lo hi = (cutI ns lo hi).map V.int := by
  unfold cutV cutI
  rw [List.length_map, List.map_take, List.map_drop]
/-- Grove() -/
theorem rd_grove {K : PySem.W.Frag} {σ : L2.St} {H : Hp} {Q : VK} (h : ∀ (a : GA) H', GAt (CG K) H' a [] [] → (∀ b ∈ a.muts [], H b = none) → Same H H' → Q (.ref a.g) H') : tMake (CG K) (sp_ginit (CG K)) [] E0 tNil σ H Q := by
  intro x dx hx hdx hne
  refine ⟨x, dx, rfl, upd_same, fun a H' e G hn hk => ⟨rfl, ?_⟩⟩
  subst e
  have out : ∀ (b u : Addr) (Hx : Hp) (o : HO), upd Hx u o b = none → Hx b = none := fun b u Hx o e => by
    by_cases z : b = u
    · subst z; rw [upd_same] at e; cases e
    · rw [upd_ne z] at e; exact e
  refine h a H' G (fun b hb => out _ _ _ _ (out _ _ _ _ (hn b hb))) fun b o e => ?_
  have b1 : b ≠ a.g := ne_of_none e hx
  have b2 : b ≠ dx := ne_of_none e hdx
  exact hk b o (by rw [upd_ne b1, upd_ne b2]; exact e) b1
/-! #### the asker's own lists beside a grove -/
/-- tuples stay -/
def Tup (H H' : Hp) : Prop := ∀ b ys, H b = some (.tup ys) → H' b = some (.tup ys)
theorem Tup.refl (H : Hp) : Tup H H := fun _ _ h => h
theorem Tup.trans {H H1 H2 : Hp} (x : Tup H H1) (y : Tup H1 H2) : Tup H H2 := fun b ys h => y b ys (x b ys h)
theorem Tup.of {H H' : Hp} (x : Same H H') : Tup H H' := fun b ys h => x b _ h
theorem Tup.put {H : Hp} {p : Addr} {xs : List V} (h : H p = some (.lst xs)) (o : HO) : Tup H (upd H p o) := fun b ys e => by
  rw [upd_ne (by rintro rfl; rw [h] at e; cases e)]; exact e
theorem GStep.tup {C : Addr} {H H1 : Hp} {a : GA} {rows r1 : List (Int × Addr)} {q q1 : List Sq} (x : GStep C H a rows q H1 r1 q1) (G : GAt C H a rows q) : Tup H H1 := fun b ys e => x.fr b _ e (G.tup_out e)
/-- own lists, by their addresses -/
structure OwnL (a : GA) (rows : List (Int × Addr)) (H : Hp) (l : List (Addr × List V)) : Prop where
  nd : (l.map (·.1)).Nodup
  at_ : ∀ p xs, (p, xs) ∈ l → H p = some (.lst xs)
  out : ∀ p xs, (p, xs) ∈ l → p ∉ a.muts rows
theorem OwnL.same {a : GA} {rows : List (Int × Addr)} {H H' : Hp} {l : List (Addr × List V)} (h : OwnL a rows H l) (s : Same H H') : OwnL a rows H' l := ⟨h.nd, fun p xs m => s _ _ (h.at_ p xs m), h.out⟩
theorem OwnL.step {C : Addr} {H H1 : Hp} {a : GA} {rows r1 : List (Int × Addr)} {q q1 : List Sq} {l : List (Addr × List V)} (h : OwnL a rows H l) (x : GStep C H a rows q H1 r1 q1) : OwnL a r1 H1 l :=
  ⟨h.nd, fun p xs m => (x.own (h.at_ p xs m) (h.out p xs m)).1, fun p xs m => (x.own (h.at_ p xs m) (h.out p xs m)).2⟩
theorem OwnL.nil {a : GA} {rows : List (Int × Addr)} {H : Hp} : OwnL a rows H [] := ⟨by simp, fun _ _ m => by simp at m, fun _ _ m => by simp at m⟩
theorem OwnL.new {C : Addr} {a : GA} {rows : List (Int × Addr)} {q : List Sq} {H : Hp} {l : List (Addr × List V)} {p : Addr} {xs : List V} (h : OwnL a rows H l) (G : GAt C H a rows q) (hp : H p = none) : OwnL a rows (upd H p (.lst xs)) ((p, xs) :: l) := by
  refine ⟨?_, fun p' ys m => ?_, fun p' ys m => ?_⟩
  · rw [List.map_cons, List.nodup_cons]
    refine ⟨fun z => ?_, h.nd⟩
    obtain ⟨⟨p', ys⟩, m, e⟩ := List.mem_map.mp z
    have e' : p' = p := e
    subst e'
    rw [h.at_ _ _ m] at hp
    cases hp
  · rcases List.mem_cons.mp m with m | m
    · cases m; exact upd_same
    · exact same_upd hp _ _ (h.at_ _ _ m)
  · rcases List.mem_cons.mp m with m | m
    · cases m; exact G.new_out hp
    · exact h.out _ _ m
theorem OwnL.put {a : GA} {rows : List (Int × Addr)} {H : Hp} {p : Addr} {xs : List V} (l1 l2 : List (Addr × List V)) (ys : List V) (h : OwnL a rows H (l1 ++ (p, xs) :: l2)) : OwnL a rows (upd H p (.lst ys)) (l1 ++ (p, ys) :: l2) := by
  have nd := h.nd
  rw [List.map_append, List.map_cons] at nd
  have ne : ∀ p' zs, (p', zs) ∈ l1 ∨ (p', zs) ∈ l2 → p' ≠ p := fun p' zs m e => by
    subst e
    rw [List.nodup_append, List.nodup_cons] at nd
    rcases m with m | m
    · exact nd.2.2 p' (List.mem_map_of_mem (f := fun x : Addr × List V => x.1) (a := (p', zs)) m) p' List.mem_cons_self rfl
    · exact nd.2.1.1 (List.mem_map_of_mem (f := fun x : Addr × List V => x.1) (a := (p', zs)) m)
  refine ⟨by rw [List.map_append, List.map_cons]; exact nd, fun p' zs m => ?_, fun p' zs m => ?_⟩
  · rcases List.mem_append.mp m with m | m
    · rw [upd_ne (ne p' zs (.inl m))]; exact h.at_ _ _ (List.mem_append_left _ m)
    · rcases List.mem_cons.mp m with m | m
      · cases m; exact upd_same
      · rw [upd_ne (ne p' zs (.inr m))]; exact h.at_ _ _ (List.mem_append_right _ (List.mem_cons_of_mem _ m))
  · rcases List.mem_append.mp m with m | m
    · exact h.out _ _ (List.mem_append_left _ m)
    · rcases List.mem_cons.mp m with m | m
      · cases m; exact h.out _ xs (List.mem_append_right _ List.mem_cons_self)
      · exact h.out _ _ (List.mem_append_right _ (List.mem_cons_of_mem _ m))
theorem GAt.own {C : Addr} {H : Hp} {a : GA} {rows : List (Int × Addr)} {q : List Sq} {l : List (Addr × List V)} {p : Addr} {xs : List V} {o : HO} (G : GAt C H a rows q) (h : OwnL a rows H l) (m : (p, xs) ∈ l) : GAt C (L2.upd H p o) a rows q :=
  G.upd (fun u e => by rw [h.at_ _ _ m] at e; cases e; exact fun z => z) (h.out _ _ m)
theorem OwnL.ix {a : GA} {rows : List (Int × Addr)} {H : Hp} {l : List (Addr × List V)} {p : Addr} {xs : List V} (h : OwnL a rows H l) (i : Nat) (e : l[i]? = some (p, xs)) : H p = some (.lst xs) := h.at_ p xs (List.mem_of_getElem? e)
theorem GAt.ownI {C : Addr} {H : Hp} {a : GA} {rows : List (Int × Addr)} {q : List Sq} {l : List (Addr × List V)} {p : Addr} {xs : List V} (G : GAt C H a rows q) (h : OwnL a rows H l) (i : Nat) (e : l[i]? = some (p, xs)) (o : HO) : GAt C (L2.upd H p o) a rows q := G.own h (List.mem_of_getElem? e)
theorem OwnL.putI {a : GA} {rows : List (Int × Addr)} {H : Hp} {l : List (Addr × List V)} {p : Addr} {xs : List V} (h : OwnL a rows H l) (i : Nat) (e : l[i]? = some (p, xs)) (ys : List V) : OwnL a rows (upd H p (.lst ys)) (l.set i (p, ys)) := by
  obtain ⟨hi, e'⟩ := List.getElem?_eq_some_iff.mp e
  have e1 : l = l.take i ++ (p, xs) :: l.drop (i + 1) := by rw [← e']; simp
  rw [List.set_eq_take_append_cons_drop, if_pos hi]
  rw [e1] at h
  exact h.put (l.take i) (l.drop (i + 1)) ys
theorem OwnL.tup {a : GA} {rows : List (Int × Addr)} {H : Hp} {l : List (Addr × List V)} {p : Addr} {xs : List V} (h : OwnL a rows H l) (i : Nat) (e : l[i]? = some (p, xs)) (o : HO) : Tup H (L2.upd H p o) := Tup.put (h.ix i e) o
section
variable {P : Program} {w : World} {K : PySem.W.Frag} {mg : Str → Option Value} {base : Heap}
def atN (ns : List Int) (k : Nat) : Int := (ns[k]?).getD 0
def sp_at (K : PySem.W.Frag) : Sp := fun vs H Q _ => ∃ (a : Addr) (ns : List Int) (k : Int), vs = [.ref a, .int k] ∧ SqL K H a (ns.map V.int) ∧ 0 ≤ k ∧ Q (.int (atN ns k.toNat)) H
theorem mp_at : MonP (sp_at K) := fun vs H Q Q' E h ⟨a, ns, k, x1, x2, x3, q⟩ => ⟨a, ns, k, x1, x2, x3, h _ _ q⟩
theorem ok_at (T : Env fa fn K mg) : Good P w K mg base CX0 1 ("_law_at", none) ["_law_script", "_law_k"] (sp_at K) := by
  refine good_mk T 28 (d := d_w_at) (N := ["_law_script", "_law_k"]) (ps := ["_law_script", "_law_k"]) rfl rfl sc_w_at (fun _ _ _ _ _ _ us hl => match us, hl with | [_, _], _ => rfl) (fun vs H Q E h => ?_) (fun f cdv A outer s H vs Q E hr h => ?_)
  · obtain ⟨a, ns, k, rfl, _⟩ := h; rfl
  · obtain ⟨a, ns, k, rfl, hs, h0, q⟩ := h
    refine ⟨_, (pss_cons (ps_if (pt_cmpR op_lt (pv 1) (pe_callB (call_lenK K rfl) (by rfl) (T.free 11) (by decide +kernel) (pa_cons (pv 0) pa_nil)) (nomark _)) (pss_one (ps_ret (pe_ix (ix_listK K rfl) (pv 0) (pv 1) (fun _ _ => rfl)))) pss_nil)
      (pss_one (ps_ret pe_int))), ?_⟩
    obtain ⟨m, rfl⟩ : ∃ m : Nat, k = m := ⟨k.toNat, by omega⟩
    rw [Int.toNat_natCast] at q
    walk_at "rd"
    refine rd_len hs ?_
    walk_at "rd"
    rw [List.length_map]
    refine ite_d (fun hk => ?_) (fun hk => ?_)
    · walk_at "rd"
      have hlt : m < ns.length := by omega
      refine rd_ixL hs (v := .int (atN ns m)) (atI_nat ?_) q
      rw [List.getElem?_map, at_get hlt]
      simp [atN, hlt]
    · walk_at "rd"
      have e : atN ns m = 0 := by unfold atN; rw [List.getElem?_eq_none (by omega)]; rfl
      rw [e] at q
      exact q
end
end JF

/-! ### helpers of the laws: dicts by tuples, zips of tuples -/
namespace JF
open PySem PySem.Spec PyProof.Rows L2
section
variable {X : Cx}
/-- d.setdefault(tuple, x), the dict by tuples -/
def rSetdT : V → List V → Hp → VK → Prop := fun u us H Q => ∃ (d t : Addr) (k : List Key) (z : V) (tab : List (List Key × V)), u = .ref d ∧ us = [.ref t, z] ∧ H d = some (.dT tab) ∧ H t = some (.tup (k.map kV)) ∧ tab.length < sizeLine ∧
  (∀ v, valV tab k = some v → Q v H) ∧ (valV tab k = none → Q z (upd H d (.dT (putK tab k z))))
theorem mt_setdT (room : X.A.units + 64 < cLine) : MtR X "dict.setdefault" rSetdT := by
  intro pins s σ H u us uv uvs Q I ru rus h
  obtain ⟨d, t, k, z, tab, rfl, rfl, hd, ht, hlt, there, away⟩ := h
  cases ru
  obtain ⟨kv, zv, rfl, rk, rz⟩ := vals2 rus
  cases rk
  obtain ⟨hle, hsys, ys, tie, dict⟩ := dt_of I.hok hd
  have hys : ys.length ≤ sizeLine := Paired.length tie ▸ hle
  have look := tie.val k
  refine call_setdefault_heap (knd := tupleKind (mixKind X.prog X.w)) (k := k) (tupleKind_room_in1 (by omega)) (key_of I.hok ht) hsys dict ?got ?new hys
  case got =>
    intro p hp
    rw [hp] at look
    cases ev : valV tab k with
    | none => rw [ev] at look; exact False.elim look
    | some v =>
      rw [ev] at look
      exact ⟨v, H, I.tok _, look, there v ev⟩
  case new =>
    intro hn h2 dict2 but
    have ev : valV tab k = none := by
      cases ev : valV tab k with
      | none => rfl
      | some v => rw [hn, ev] at look; exact False.elim look
    obtain ⟨o, es, ep, ho, m1, m2, m3, _, m4⟩ := dict2
    have tie2 : KT (upd H d (.dT (putK tab k z))) (putK tab k z) (storedH ys k t zv) := (tie.put k ht rz).keeps fun b items e => by
      rw [upd_ne (ne_of e hd (fun x => nomatch x))]
      exact e
    have hle2 : (putK tab k z).length ≤ sizeLine := by
      rw [putK_new _ ev, List.length_append]
      exact hlt
    have I2 := d_write (t' := s.toks + (tupleKind (mixKind X.prog X.w)).draws k) I (by rw [hd]; exact True.intro) but ⟨o, ho⟩ (ob := .dT (putK tab k z)) ⟨hle2, hsys, _, tie2, o, es, ep, ho, m1, m2, m3, m4⟩
    exact ⟨z, _, I2, rz, away ev⟩
end
section
variable {X : Cx} {p pos tpos : Pos} {e e2 : Expr} {ta : TA} {elts : List Expr} {kk : Nat}
theorem pi_zipAK (K : PySem.W.Frag) (hK : X.K = K) (hg : Gl X "zip") (hm : X.mg "zip" = none) (ha : PA X [e, e2] ta) (hs : starEach [e, e2] X.env = (false, eval e X.env) :: starEach [e2] X.env := by rfl) (hpl : (backTo pos (starEach [e2] X.env)).any (·.1) = false := by rfl) :
    PI X (.Tuple elts kk tpos) (.Call (.Name "zip" p) [e, e2] [] pos) (RZ.iZipA K ta) := by subst hK; exact RZ.pi_zipA hg hm ha hs hpl
end
section
variable {K : PySem.W.Frag} {σ : L2.St} {H : Hp} {Q : VK}
theorem rd_iZA {tr : TA} {R : It → Hp → Prop} (h : tr σ H fun vs H1 => ∃ a b xs ys, vs = [.ref a, .ref b] ∧ ((SqL K H1 a xs ∧ SqL K H1 b ys ∧ R (Itz K a b) H1) ∨ (SqT K H1 a xs ∧ SqT K H1 b ys ∧ R (RZ.ItzT K a b) H1))) : RZ.iZipA K tr σ H R := h
theorem rd_tyD {l : Addr} {xs : List (Key × V)} {R : Prop} (h1 : H l = some (.dK xs)) (q : R) : tyV K "dict" (.ref l) H ∧ R := ⟨Or.inr (Or.inr (Or.inl ⟨rfl, Or.inl ⟨_, h1⟩⟩)), q⟩
theorem rd_tyDT {l : Addr} {xs : List (List Key × V)} {R : Prop} (h1 : H l = some (.dT xs)) (q : R) : tyV K "dict" (.ref l) H ∧ R := ⟨Or.inr (Or.inr (Or.inl ⟨rfl, Or.inr ⟨_, h1⟩⟩)), q⟩
theorem rd_iK {td : TE} {R : It → Hp → Prop} (h : td σ H fun x H1 => ∃ d o, x = .ref d ∧ ((∃ kvs, H1 d = some (.frz o (.dK kvs)) ∧ R (Itk d o kvs) H1) ∨ ∃ kvs, H1 d = some (.frz o (.dT kvs)) ∧ R (Itkt d o kvs) H1)) : iKeys td σ H R := h
theorem shaped_tup {ns : List Int} : SeqAt.shaped (.tuple (ns.map PyData.int)) = true := by
  have h1 := depth_ints ns
  have h2 := lay_ints ns
  have h3 : PyData.depth (.tuple (ns.map PyData.int)) ≤ 64 := by
    simp only [PyData.depth]
    omega
  unfold SeqAt.shaped
  rw [decide_eq_true h3, Bool.and_true]
  simp only [PyData.canLay0, h2]
theorem rd_neDT {p p' : Addr} {ns ms : List Int} (h1 : H p = some (.tup (ns.map V.int))) (h2 : H p' = some (.tup (ms.map V.int)))
    (q : Q (.bl (!PyData.eqv (.tuple (ns.map PyData.int)) (.tuple (ms.map PyData.int)))) H) : rNeD K (.ref p) (.ref p') H Q := ⟨_, _, .tup (SqT.of h1) dp_ints, .tup (SqT.of h2) dp_ints, shaped_tup, shaped_tup, q⟩
theorem eqvT_refl (ns : List Int) : PyData.eqv (.tuple (ns.map PyData.int)) (.tuple (ns.map PyData.int)) = true := SeqAt.eqv_refl _ (by simp only [PyData.canLay0]; exact lay_ints ns)
end
theorem eqvAll_ints : ∀ ns ms : List Int, PyData.eqvAll (ns.map PyData.int) (ms.map PyData.int) = decide (ns = ms)
  | [], [] => by simp [PyData.eqvAll]
  | [], _ :: _ => by simp [PyData.eqvAll]
  | _ :: _, [] => by simp [PyData.eqvAll]
  | n :: ns, m :: ms => by
    simp only [List.map_cons, PyData.eqvAll, PyData.eqv, eqvAll_ints ns ms, List.cons.injEq]
    by_cases a : n = m <;> by_cases b : ns = ms <;> simp [a, b]
theorem shaped_list {ns : List Int} : SeqAt.shaped (.list (ns.map PyData.int)) = true := by
  have h1 := depth_ints ns
  have h2 := lay_ints ns
  have h3 : PyData.depth (.list (ns.map PyData.int)) ≤ 64 := by
    simp only [PyData.depth]
    omega
  unfold SeqAt.shaped
  rw [decide_eq_true h3, Bool.and_true]
  simp only [PyData.canLay0, h2]
/-- lists, tuples of whole numbers, compared -/
theorem rd_eqLI {K : PySem.W.Frag} {H : Hp} {Q : VK} {p p' : Addr} {ns ms : List Int} (h1 : SqL K H p (ns.map V.int)) (h2 : SqL K H p' (ms.map V.int)) (q : Q (.bl (decide (ns = ms))) H) : rEqD K (.ref p) (.ref p') H Q :=
  rd_eqDI h1 h2 shaped_list shaped_list (by
    have e : PyData.eqv (.list (ns.map PyData.int)) (.list (ms.map PyData.int)) = decide (ns = ms) := by rw [← eqvAll_ints]; simp only [PyData.eqv]
    rw [e]; exact q)
theorem rd_neLI {K : PySem.W.Frag} {H : Hp} {Q : VK} {p p' : Addr} {ns ms : List Int} (h1 : SqL K H p (ns.map V.int)) (h2 : SqL K H p' (ms.map V.int)) (q : Q (.bl (!decide (ns = ms))) H) : rNeD K (.ref p) (.ref p') H Q :=
  rd_neDI h1 h2 shaped_list shaped_list (by
    have e : PyData.eqv (.list (ns.map PyData.int)) (.list (ms.map PyData.int)) = decide (ns = ms) := by rw [← eqvAll_ints]; simp only [PyData.eqv]
    rw [e]; exact q)
theorem rd_neTI {K : PySem.W.Frag} {H : Hp} {Q : VK} {p p' : Addr} {ns ms : List Int} (h1 : H p = some (.tup (ns.map V.int))) (h2 : H p' = some (.tup (ms.map V.int))) (q : Q (.bl (!decide (ns = ms))) H) : rNeD K (.ref p) (.ref p') H Q :=
  rd_neDT h1 h2 (by
    have e : PyData.eqv (.tuple (ns.map PyData.int)) (.tuple (ms.map PyData.int)) = decide (ns = ms) := by rw [← eqvAll_ints]; simp only [PyData.eqv]
    rw [e]; exact q)
theorem mm_setdT : MonM rSetdT := fun x y H Q Q' h ⟨d, t, k, z, tab, e1, e2, e3, e4, e5, q1, q2⟩ => ⟨d, t, k, z, tab, e1, e2, e3, e4, e5, fun v hv => h _ _ (q1 v hv), fun hv => h _ _ (q2 hv)⟩
theorem mr_neD {K : PySem.W.Frag} : MonR (rNeD K) := fun x y H Q Q' h ⟨a, b, e1, e2, e3, e4, q⟩ => ⟨a, b, e1, e2, e3, e4, h _ _ q⟩
theorem mr_eqD {K : PySem.W.Frag} : MonR (rEqD K) := fun x y H Q Q' h ⟨a, b, e1, e2, e3, e4, q⟩ => ⟨a, b, e1, e2, e3, e4, h _ _ q⟩
/-! own objects beside a grove: lists, dicts -/
structure OwnO (a : GA) (rows : List (Int × Addr)) (H : Hp) (l : List (Addr × HO)) : Prop where
  nd : (l.map (·.1)).Nodup
  at_ : ∀ p o, (p, o) ∈ l → H p = some o
  mv : ∀ p o, (p, o) ∈ l → ¬ HO.still o
  out : ∀ p o, (p, o) ∈ l → p ∉ a.muts rows
theorem OwnO.same {a : GA} {rows : List (Int × Addr)} {H H' : Hp} {l : List (Addr × HO)} (h : OwnO a rows H l) (s : Same H H') : OwnO a rows H' l := ⟨h.nd, fun p xs m => s _ _ (h.at_ p xs m), h.mv, h.out⟩
theorem OwnO.step {C : Addr} {H H1 : Hp} {a : GA} {rows r1 : List (Int × Addr)} {q q1 : List Sq} {l : List (Addr × HO)} (h : OwnO a rows H l) (x : GStep C H a rows q H1 r1 q1) : OwnO a r1 H1 l :=
  ⟨h.nd, fun p xs m => (x.own (h.at_ p xs m) (h.out p xs m)).1, h.mv, fun p xs m => (x.own (h.at_ p xs m) (h.out p xs m)).2⟩
theorem OwnO.nil {a : GA} {rows : List (Int × Addr)} {H : Hp} : OwnO a rows H [] := ⟨by simp, fun _ _ m => by simp at m, fun _ _ m => by simp at m, fun _ _ m => by simp at m⟩
theorem OwnO.new {C : Addr} {a : GA} {rows : List (Int × Addr)} {q : List Sq} {H : Hp} {l : List (Addr × HO)} {p : Addr} {o : HO} (h : OwnO a rows H l) (G : GAt C H a rows q) (hp : H p = none) (ho : ¬ HO.still o) : OwnO a rows (upd H p o) ((p, o) :: l) := by
  refine ⟨?_, fun p' ys m => ?_, fun p' ys m => ?_, fun p' ys m => ?_⟩
  · rw [List.map_cons, List.nodup_cons]
    refine ⟨fun z => ?_, h.nd⟩
    obtain ⟨⟨p', ys⟩, m, e⟩ := List.mem_map.mp z
    have e' : p' = p := e
    subst e'
    rw [h.at_ _ _ m] at hp
    cases hp
  · rcases List.mem_cons.mp m with m | m
    · cases m; exact upd_same
    · exact same_upd hp _ _ (h.at_ _ _ m)
  · rcases List.mem_cons.mp m with m | m
    · cases m; exact ho
    · exact h.mv _ _ m
  · rcases List.mem_cons.mp m with m | m
    · cases m; exact G.new_out hp
    · exact h.out _ _ m
theorem OwnO.ix {a : GA} {rows : List (Int × Addr)} {H : Hp} {l : List (Addr × HO)} {p : Addr} {o : HO} (h : OwnO a rows H l) (i : Nat) (e : l[i]? = some (p, o)) : H p = some o := h.at_ p o (List.mem_of_getElem? e)
theorem mem_set {α : Type} {l : List α} {i : Nat} {y x : α} (h : x ∈ l.set i y) : x = y ∨ ∃ j, j ≠ i ∧ l[j]? = some x := by
  obtain ⟨j, hj, e⟩ := List.mem_iff_getElem.mp h
  by_cases z : i = j
  · subst z; left; rw [← e, List.getElem_set_self]
  · right
    refine ⟨j, Ne.symm z, ?_⟩
    rw [List.getElem_set_ne z] at e
    rw [List.length_set] at hj
    rw [at_get hj, e]
theorem OwnO.ne {a : GA} {rows : List (Int × Addr)} {H : Hp} {l : List (Addr × HO)} (h : OwnO a rows H l) {i j : Nat} {p p' : Addr} {o o' : HO} (e : l[i]? = some (p, o)) (e' : l[j]? = some (p', o')) (n : j ≠ i) : p' ≠ p := fun z => by
  obtain ⟨hi, ei⟩ := List.getElem?_eq_some_iff.mp e
  obtain ⟨hj, ej⟩ := List.getElem?_eq_some_iff.mp e'
  exact n ((List.getElem_inj (xs := l.map (·.1)) (h₀ := by simpa using hj) (h₁ := by simpa using hi) h.nd).mp (by simp [ei, ej, z]))
theorem OwnO.put {a : GA} {rows : List (Int × Addr)} {H : Hp} {l : List (Addr × HO)} {p : Addr} {o : HO} (h : OwnO a rows H l) (i : Nat) (e : l[i]? = some (p, o)) (o' : HO) (ho : ¬ HO.still o') : OwnO a rows (upd H p o') (l.set i (p, o')) := by
  have nd' : ((l.set i (p, o')).map (·.1)) = l.map (·.1) := by
    rw [List.map_set]
    obtain ⟨hi, ei⟩ := List.getElem?_eq_some_iff.mp e
    refine List.ext_getElem (by simp) fun j h1 h2 => ?_
    by_cases z : i = j
    · subst z; simp [ei]
    · rw [List.getElem_set_ne z]
  have cases_ : ∀ p' u, (p', u) ∈ l.set i (p, o') → (p' = p ∧ u = o') ∨ (p' ≠ p ∧ (p', u) ∈ l) := fun p' u m => by
    rcases mem_set m with m | ⟨j, hj, m⟩
    · cases m; exact .inl ⟨rfl, rfl⟩
    · exact .inr ⟨h.ne e m hj, List.mem_of_getElem? m⟩
  refine ⟨by rw [nd']; exact h.nd, fun p' u m => ?_, fun p' u m => ?_, fun p' u m => ?_⟩
  · rcases cases_ p' u m with ⟨rfl, rfl⟩ | ⟨n, m⟩
    · exact upd_same
    · rw [upd_ne n]; exact h.at_ _ _ m
  · rcases cases_ p' u m with ⟨rfl, rfl⟩ | ⟨n, m⟩
    · exact ho
    · exact h.mv _ _ m
  · rcases cases_ p' u m with ⟨rfl, rfl⟩ | ⟨n, m⟩
    · exact h.out _ o (List.mem_of_getElem? e)
    · exact h.out _ _ m
theorem GAt.ownO {C : Addr} {H : Hp} {a : GA} {rows : List (Int × Addr)} {q : List Sq} {l : List (Addr × HO)} {p : Addr} {o : HO} (G : GAt C H a rows q) (h : OwnO a rows H l) (i : Nat) (e : l[i]? = some (p, o)) (o' : HO) : GAt C (L2.upd H p o') a rows q :=
  G.upd (fun u e' => by rw [h.ix i e] at e'; cases e'; exact h.mv _ _ (List.mem_of_getElem? e)) (h.out _ _ (List.mem_of_getElem? e))
theorem OwnO.tup {a : GA} {rows : List (Int × Addr)} {H : Hp} {l : List (Addr × HO)} {p : Addr} {o : HO} (h : OwnO a rows H l) (i : Nat) (e : l[i]? = some (p, o)) (o' : HO) : Tup H (L2.upd H p o') := fun b ys e' => by
  rw [upd_ne (by rintro rfl; rw [h.ix i e] at e'; cases e'; exact h.mv _ _ (List.mem_of_getElem? e) trivial)]; exact e'
/-! the law's promise -/
def sp_law (K : PySem.W.Frag) : Sp := fun vs H Q _ => ∃ (a : Addr) (ns : List Int), vs = [.ref a] ∧ SqL K H a (ns.map V.int) ∧ ns.length ≤ 63 ∧ Only H ∧ ∀ H', Q (.bl true) H'
theorem sp_law_in {K : PySem.W.Frag} (H : Hp) (a : Addr) (ns : List Int) (hl : ns.length ≤ 63) (hO : Only H) (hS : SqL K H a (ns.map V.int)) : sp_law K [.ref a] H (fun v _ => v = .bl true) (fun _ _ _ => False) := ⟨a, ns, rfl, hS, hl, hO, fun _ => rfl⟩
theorem shl_ok {i : Nat} : (1 : Int) * 2 ^ ((i : Int)).toNat = 2 ^ i := by rw [Int.one_mul, Int.toNat_natCast]
/-! solid squares: what lives, the span -/
theorem even_none : ∀ l : Nat, (Sq.even l 0).lives = 0 ∧ (Sq.even l 0).span = none
  | 0 => ⟨rfl, rfl⟩
  | l + 1 => by
    obtain ⟨h1, h2⟩ := even_none l
    refine ⟨?_, ?_⟩
    · show (Sq.even l 0).lives + (Sq.even l 0).lives + (Sq.even l 0).lives + (Sq.even l 0).lives = 0
      rw [h1]; rfl
    · show r4 _ (Sq.even l 0).span (Sq.even l 0).span (Sq.even l 0).span (Sq.even l 0).span = none
      rw [h2]; rfl
theorem even_some {s : Int} (hs : s ≠ 0) : ∀ l : Nat, (Sq.even l s).lives = 2 ^ l * 2 ^ l ∧ (Sq.even l s).span = some (0, 0, 2 ^ l, 2 ^ l)
  | 0 => by simp [Sq.even, Sq.lives, Sq.span, hs]
  | l + 1 => by
    obtain ⟨h1, h2⟩ := even_some hs l
    have e : (2 : Int) ^ (l + 1) = 2 * 2 ^ l := by rw [Int.pow_succ]; omega
    have h0 : (0 : Int) < 2 ^ l := Int.pow_pos (by decide)
    refine ⟨?_, ?_⟩
    · show (Sq.even l s).lives + (Sq.even l s).lives + (Sq.even l s).lives + (Sq.even l s).lives = _
      rw [h1, e]
      generalize (2 : Int) ^ l = h
      have e2 : 2 * h * (2 * h) = 4 * (h * h) := by rw [Int.mul_assoc, Int.mul_left_comm h 2 h, ← Int.mul_assoc]; rfl
      rw [e2]; omega
    · show r4 (2 ^ (Sq.even l s).level) (Sq.even l s).span (Sq.even l s).span (Sq.even l s).span (Sq.even l s).span = _
      rw [h2, Sq.level_even, e]
      generalize (2 : Int) ^ l = h at h0
      simp only [r4, r4step, rb, Option.some.injEq, Prod.mk.injEq]
      refine ⟨?_, ?_, ?_, ?_⟩ <;> omega
theorem even_inj {s s' : Int} : ∀ {l l' : Nat}, Sq.even l s = Sq.even l' s' → l = l' ∧ s = s'
  | 0, 0, h => by cases h; exact ⟨rfl, rfl⟩
  | 0, _ + 1, h => by cases h
  | _ + 1, 0, h => by cases h
  | l + 1, l' + 1, h => by
    injection h with h1
    obtain ⟨a, b⟩ := even_inj h1
    exact ⟨by rw [a], b⟩
theorem pow64 {i : Nat} (h : i ≤ 60) : (0 : Int) < 2 ^ i ∧ (2 : Int) ^ i < 2 ^ 64 := by
  refine ⟨Int.pow_pos (by decide), ?_⟩
  have e2 : 2 ^ i < 2 ^ 64 := Nat.pow_lt_pow_right (by decide) (by omega)
  exact_mod_cast e2
theorem sq_ok {i : Nat} (h : i ≤ 60) : CMulW ((2 : Int) ^ i) (2 ^ i) := by
  obtain ⟨h1, h2⟩ := pow64 h
  have e1 : (2 : Int) ^ 64 ≤ 2 ^ 2000 := by decide +kernel
  exact mulW_of (by omega) (by omega) (by omega) (by omega)
section
variable {P : Program} {w : World} {K : PySem.W.Frag} {mg : Str → Option Value} {base : Heap}
def sp_same : Sp := fun vs H Q _ => ∃ i d : Int, vs = [.int i, .int d] ∧ Q (.bl (decide (i = d))) H
theorem mp_same : MonP sp_same := fun vs H Q Q' E h ⟨i, d, x1, q⟩ => ⟨i, d, x1, h _ _ q⟩
theorem sp_sameT {i : Int} {H : Hp} {Q : VK} {E : XK} (q : Q (.bl true) H) : sp_same [.int i, .int i] H Q E := ⟨i, i, rfl, by rw [decide_eq_true rfl]; exact q⟩
end
end JF

/-! ### helpers of the laws: the script beside a grove -/
namespace JF
open PySem PySem.Spec PyProof.Rows L2
/-- the script stays as it was, and is none of the grove's own -/
def Scr (H0 : Hp) (a0 : Addr) (a : GA) (rows : List (Int × Addr)) (H : Hp) : Prop := ∀ o, H0 a0 = some o → H a0 = some o ∧ a0 ∉ a.muts rows
theorem Scr.new {H0 H1 : Hp} {a0 : Addr} {a : GA} (hnew : ∀ b ∈ a.muts [], H0 b = none) (sm : Same H0 H1) : Scr H0 a0 a [] H1 := fun o e => ⟨sm _ _ e, fun z => by
  have y := hnew _ z
  rw [e] at y
  cases y⟩
theorem Scr.same {H0 H H' : Hp} {a0 : Addr} {a : GA} {rows : List (Int × Addr)} (h : Scr H0 a0 a rows H) (s : Same H H') : Scr H0 a0 a rows H' := fun o e => ⟨s _ _ (h o e).1, (h o e).2⟩
theorem Scr.step {C : Addr} {H0 H H1 : Hp} {a0 : Addr} {a : GA} {rows r1 : List (Int × Addr)} {q q1 : List Sq} (h : Scr H0 a0 a rows H) (x : GStep C H a rows q H1 r1 q1) : Scr H0 a0 a r1 H1 := fun o e => x.own (h o e).1 (h o e).2
theorem Scr.put {H0 H : Hp} {a0 p : Addr} {a : GA} {rows : List (Int × Addr)} {xs : List V} {o' : HO} (h : Scr H0 a0 a rows H) (hO : Only H0) (hp : H p = some (.lst xs)) : Scr H0 a0 a rows (upd H p o') := fun o e => by
  refine ⟨?_, (h o e).2⟩
  rw [upd_ne]
  · exact (h o e).1
  · rintro rfl
    rw [(h o e).1] at hp
    cases hp
    rcases hO a0 with z | ⟨u, ys, z⟩
    · rw [z] at e; cases e
    · rw [z] at e; cases e
theorem Scr.sq {K : PySem.W.Frag} {H0 H : Hp} {a0 : Addr} {a : GA} {rows : List (Int × Addr)} {xs : List V} (h : Scr H0 a0 a rows H) (hS : SqL K H0 a0 xs) : SqL K H a0 xs := sqL_on hS fun o e => (h o e).1
/-- the number read at a place -/
theorem rd_at {K : PySem.W.Frag} {H : Hp} {Q : VK} {E : XK} {a0 : Addr} {ns : List Int} {k : Int} (hs : SqL K H a0 (ns.map V.int)) (h0 : 0 ≤ k) (q : Q (.int (atN ns k.toNat)) H) : sp_at K [.ref a0, .int k] H Q E := ⟨a0, ns, k, rfl, hs, h0, q⟩
theorem nat_of {z : Int} (h : 0 ≤ z) : ∃ n : Nat, z = (n : Int) := ⟨z.toNat, by omega⟩
/-- range(i, j, c), small and upwards -/
theorem rgc_up {i j c : Int} (h1 : 0 ≤ i) (h2 : i ≤ 1000) (h3 : 0 ≤ j) (h4 : j ≤ 1000) (h5 : 1 ≤ c) (h6 : c ≤ 1000) : ∃ n : Nat, RgC i j c n ∧ ∀ k : Nat, k < n → i + (k : Int) * c < j := by
  have hq : 0 ≤ (j - i + c - 1) / c ∨ j ≤ i := by
    rcases Int.lt_or_le i j with h | h
    · left; exact Int.ediv_nonneg (by omega) (by omega)
    · exact .inr h
  have hle : (j - i + c - 1) / c ≤ 3000 := by
    rcases Int.lt_or_le (j - i + c - 1) 0 with h | h
    · have := Int.ediv_neg_of_neg_of_pos h (by omega : 0 < c); omega
    · exact Int.le_trans (Int.ediv_le_self _ h) (by omega)
  have es : Builtin.Range.rangeSize i j c = if i < j then (j - i - 1) / c + 1 else 0 := by
    unfold Builtin.Range.rangeSize
    rw [if_pos (by omega : c > 0)]
  have hdn : i < j → 0 ≤ (j - i - 1) / c := fun h => Int.ediv_nonneg (by omega) (by omega)
  have hdl : i < j → (j - i - 1) / c ≤ 1000 := fun h => Int.le_trans (Int.ediv_le_self _ (by omega)) (by omega)
  refine ⟨(Builtin.Range.rangeSize i j c).toNat, ⟨by omega, by omega, ?_, ?_⟩, fun k hk => ?_⟩
  · unfold Builtin.Range.small
    rw [es]
    simp only [Builtin.Range.rangeFitsLong, Bool.and_eq_true, Bool.or_eq_true, decide_eq_true_eq, beq_iff_eq, show c > 0 by omega, if_true]
    split
    · have a := hdn (by assumption); have b := hdl (by assumption); omega
    · omega
  · rw [es]
    split
    · have a := hdn (by assumption); omega
    · rfl
  · rw [es] at hk
    split at hk
    · have a := hdn (by assumption)
      have e := Int.mul_ediv_add_emod (j - i - 1) c
      have r := Int.emod_nonneg (j - i - 1) (by omega : c ≠ 0)
      have hk' : (k : Int) ≤ (j - i - 1) / c := by omega
      have hm : (k : Int) * c ≤ (j - i - 1) / c * c := Int.mul_le_mul_of_nonneg_right hk' (by omega)
      rw [Int.mul_comm ((j - i - 1) / c) c] at hm
      omega
    · omega
theorem rd_rng3 {i j c : Int} {R : It → Prop} (h1 : 0 ≤ i) (h2 : i ≤ 1000) (h3 : 0 ≤ j) (h4 : j ≤ 1000) (h5 : 1 ≤ c) (h6 : c ≤ 1000) (h : ∀ n : Nat, (∀ k : Nat, k < n → i + (k : Int) * c < j) → R (Itc i c n)) : ∃ (i' j' c' : Int) (n : Nat), [V.int i, V.int j, V.int c] = [.int i', .int j', .int c'] ∧ RgC i' j' c' n ∧ R (Itc i' c' n) := by
  obtain ⟨n, a, b⟩ := rgc_up h1 h2 h3 h4 h5 h6
  exact ⟨i, j, c, n, rfl, a, h n b⟩
end JF

/-! ### walks that the hand layer lacks: zip over lists and tuples alike, enumerate of a text -/
namespace JF
open PySem PySem.Spec PyProof.Rows L2
/-- a tuple, or a list -/
def sqB (t : Bool) (K : PySem.W.Frag) (H : Hp) (a : Addr) (xs : List V) : Prop := match t with
  | true => SqT K H a xs
  | false => SqL K H a xs
def isB (t : Bool) (h : Heap) (a : Addr) (its : Array Value) : Prop := match t with
  | true => h.IsTuple a its
  | false => h.IsList a its
def itB (t : Bool) (h : Heap) (it a : Addr) (i : Nat) : Prop := match t with
  | true => h.IsTupleIter it a i
  | false => h.IsListIter it a i
def obB (t : Bool) (a : Addr) : Obj := match t with
  | true => { cls := .type "tuple_iterator", data := .fields #[.ref a, .int 0 0] }
  | false => { cls := .type "list_iterator", data := .fields #[.ref a, .int 0 0] }
theorem itB.obj {t : Bool} {h : Heap} {it a : Addr} {i : Nat} (s : itB t h it a i) : ∃ o vs, h.get? it = some o ∧ o.data = .fields vs := by
  cases t with
  | true => obtain ⟨o, e, _, d⟩ := s; exact ⟨o, _, e, d⟩
  | false => obtain ⟨o, e, _, d⟩ := s; exact ⟨o, _, e, d⟩
theorem itB.at {t : Bool} {h h' : Heap} {it a : Addr} {i : Nat} (s : itB t h it a i) (k : ∀ o, h.get? it = some o → h'.get? it = some o) : itB t h' it a i := by
  cases t with
  | true => exact Heap.IsTupleIter.at s k
  | false => exact Heap.IsListIter.at s k
theorem isB.at {t : Bool} {h h' : Heap} {a : Addr} {its : Array Value} (s : isB t h a its) (k : ∀ o, h.get? a = some o → h'.get? a = some o) : isB t h' a its := by
  cases t with
  | true => exact Heap.IsTuple.at s k
  | false => exact Heap.IsList.at s k
theorem isB.lt {t : Bool} {h : Heap} {a : Addr} {its : Array Value} (s : isB t h a its) : a < h.objs.size := by
  cases t with
  | true => obtain ⟨o, e, _⟩ := s; exact Heap.lt_size e
  | false => obtain ⟨o, e, _⟩ := s; exact Heap.lt_size e
theorem isB.ne {t u : Bool} {h : Heap} {a b it : Addr} {i : Nat} {its : Array Value} (p : isB t h a its) (s : itB u h it b i) : a ≠ it := fun q => by
  obtain ⟨o', vs, e', d'⟩ := s.obj
  rw [← q] at e'
  cases t with
  | true => obtain ⟨o, e, _, n, d⟩ := p; rw [e] at e'; cases e'; rw [d] at d'; cases d'
  | false => obtain ⟨o, e, _, n, d⟩ := p; rw [e] at e'; cases e'; rw [d] at d'; cases d'
theorem drawsB {P : Program} {w : World} {A : Around} (hh : A.handled = none) (t : Bool) (it a : Addr) (hne : a ≠ it) (its : Array Value) :
    Draws P w A it [it, a] its.size (fun i v => its[i]? = some v) (fun i h => itB t h it a i ∧ isB t h a its) := by
  cases t with
  | true => exact Draws.tuple hh it a hne its
  | false => exact Draws.list hh it a hne its
theorem beginsB (t : Bool) (a : Addr) (its : Array Value) : Begins (.ref a) (obB t a) fun h => isB t h a its := by
  cases t with
  | true => exact begins_tuple a its
  | false => exact begins_list a its
theorem itB0 {t : Bool} {h : Heap} {it a : Addr} (e : h.get? it = some (obB t a)) : itB t h it a 0 := by
  cases t with
  | true => exact ⟨_, e, rfl, rfl⟩
  | false => exact ⟨_, e, rfl, rfl⟩
theorem sqB_inv {X : Cx} {pins : List (Addr × Obj)} {σ : L2.St} {H : Hp} {s : Shared} {t : Bool} {a : Addr} {xs : List V} (I : Inv X pins σ H s) (h : sqB t X.K H a xs) : ∃ its : List Value, Vals xs its ∧ isB t s.heap a its.toArray := by
  cases t with
  | true => obtain ⟨its, r, p, _⟩ := I.tuple h; exact ⟨its, r, p⟩
  | false => obtain ⟨its, r, p, _⟩ := I.list h; exact ⟨its, r, p.isList⟩
theorem sqB_inj {X : Cx} {pins : List (Addr × Obj)} {σ : L2.St} {H : Hp} {s : Shared} {t : Bool} {a : Addr} {xs ys : List V} (I : Inv X pins σ H s) (h : sqB t X.K H a xs) (h' : sqB t X.K H a ys) : xs = ys := by
  cases t with
  | true => exact I.tuple_inj h h'
  | false => exact I.list_inj h h'
/-- the things at a and b, in step, each turn a new pair -/
def ItzQ (K : PySem.W.Frag) (t u : Bool) (a b : Addr) : It :=
  ⟨fun i H => ∃ (xs ys : List V) (x y : V), sqB t K H a xs ∧ sqB u K H b ys ∧ xs[i]? = some x ∧ ys[i]? = some y,
    fun i H v H' => ∃ T x y, v = .ref T ∧ H T = none ∧ H' = upd H T (.tup [x, y]) ∧ (∀ xs, sqB t K H a xs → xs[i]? = some x) ∧ ∀ ys, sqB u K H b ys → ys[i]? = some y,
    fun i H => ∃ xs ys : List V, sqB t K H a xs ∧ sqB u K H b ys ∧ i ≤ xs.length ∧ i ≤ ys.length ∧ (xs.length = i ∨ ys.length = i)⟩
theorem turn_zipQ {P : Program} {w : World} {K : PySem.W.Frag} {elts : List Expr} {kk : Nat} {tpos : Pos} {t u : Bool} {a b z TI TO i1 i2 : Addr} (D : ZipSep2 z TI TO i1 i2 [i1, a] [i2, b]) :
    Turn P w K (.Tuple elts kk tpos) (ItzQ K t u a b) [z, TI, TO, i1, i2] z (fun i h => IsZip h z TI TO .none ∧ IsPair h TI (.ref i1) (.ref i2) ∧ (∃ x y, IsPair h TO x y) ∧ itB t h i1 a i ∧ itB u h i2 b i) where
  mem := by simp
  obj := fun i h st c hc => by
    obtain ⟨hz, hI, ⟨x, y, hO⟩, h1, h2⟩ := st
    obtain ⟨o1, v1, e1, d1⟩ := h1.obj
    obtain ⟨o2, v2, e2, d2⟩ := h2.obj
    have five : c = z ∨ c = TI ∨ c = TO ∨ c = i1 ∨ c = i2 := by simpa using hc
    rcases five with rfl | rfl | rfl | rfl | rfl
    · exact ⟨_, hz, fun v q => nomatch q⟩
    · exact ⟨_, hI, fun v q => nomatch q⟩
    · exact ⟨_, hO, fun v q => nomatch q⟩
    · exact ⟨o1, e1, fun v q => by rw [d1] at q; cases q⟩
    · exact ⟨o2, e2, fun v q => by rw [d2] at q; cases q⟩
  keep := fun i h h' st k => by
    obtain ⟨hz, hI, ⟨x, y, hO⟩, h1, h2⟩ := st
    exact ⟨k _ (by simp) _ hz, k _ (by simp) _ hI, ⟨x, y, k _ (by simp) _ hO⟩, h1.at fun o => k _ (by simp) o, h2.at fun o => k _ (by simp) o⟩
  item := by
    intro X eP ew eK hc i pins s σ H E I hf st hg
    subst eP ew eK
    obtain ⟨hz, hI, ⟨x0, y0, hO⟩, h1, h2⟩ := st
    obtain ⟨xs, ys, x, y, qa, qb, hx, hy⟩ := hg
    obtain ⟨its, rv, p⟩ := sqB_inv I qa
    obtain ⟨its2, rv2, p2⟩ := sqB_inv I qb
    obtain ⟨v, hv, ru⟩ := rv.get hx
    obtain ⟨v2, hv2, ru2⟩ := rv2.get hy
    have l1 : i < its.toArray.size := by rw [List.size_toArray]; exact (List.getElem?_eq_some_iff.mp hv).1
    have l2 : i < its2.toArray.size := by rw [List.size_toArray]; exact (List.getElem?_eq_some_iff.mp hv2).1
    have zl := Heap.lt_size hz
    obtain ⟨o1, _, e1, _⟩ := h1.obj
    obtain ⟨o2, _, e2, _⟩ := h2.obj
    have na : a ≠ i1 := p.ne h1
    have nb : b ≠ i2 := p2.ne h2
    refine wpAny_pyNext_zipD2_item D (drawsB (P := X.prog) (w := X.w) (A := X.A.in1) (show X.A.in1.handled = none from I.ok.hd hc) t i1 a na its.toArray) (drawsB (P := X.prog) (w := X.w) (A := X.A.in1) (show X.A.in1.handled = none from I.ok.hd hc) u i2 b nb its2.toArray) hz hI hO ⟨h1, p⟩ ⟨h2, p2⟩ l1 l2 fun w1 w2 g tk m1 m2 z' tO d1 d2 hT hsz hk => ?_
    have ew1 : w1 = v := by
      have q : its.toArray[i]? = some v := by simpa using hv
      exact Option.some.inj (m1.symm.trans q)
    have ew2 : w2 = v2 := by
      have q : its2.toArray[i]? = some v2 := by simpa using hv2
      exact Option.some.inj (m2.symm.trans q)
    subst ew1 ew2
    refine ⟨_, rfl, wpAny_letOwnedTupleGo_zip (s := { s with heap := g, toks := tk }) z' fun g2 z2 sb => ?_⟩
    have hT2 : g2.get? s.heap.objs.size = some { cls := .type "tuple", data := .seq #[w1, w2] } := (sb.2 _ (Nat.ne_of_gt zl)).trans hT
    have hob : ObjOk X.prog X.w (upd H s.heap.objs.size (.tup [x, y])) g2 s.heap.objs.size (.tup [x, y]) :=
      ⟨by show 2 ≤ sizeLine; decide, [w1, w2], .cons ru (.cons ru2 .nil), _, hT2, rfl, _, rfl⟩
    have kk : ∀ c o, c ∉ [z, TI, TO, i1, i2] → s.heap.get? c = some o → g2.get? c = some o := fun c o hb e => by
      simp only [List.mem_cons, List.not_mem_nil, or_false, not_or] at hb
      exact (sb.2 c hb.1).trans (hk c o hb.1 hb.2.2.1 hb.2.2.2.1 hb.2.2.2.2 e)
    refine ⟨.ref s.heap.objs.size, _, I.turnedNew (t' := tk) kk hf (Nat.le_refl _) hob, rfl, ⟨_, x, y, rfl, I.hok.fresh (Nat.le_refl _), rfl, fun l hl => by rw [sqB_inj I hl qa]; exact hx, fun l hl => by rw [sqB_inj I hl qb]; exact hy⟩, ⟨z2, ?_, ⟨w1, w2, ?_⟩, ?_, ?_⟩, fun c hcm => ?_⟩
    · exact Eq.trans (sb.2 _ D.TIz) (hk _ _ D.TIz D.TITO D.TIi1 D.TIi2 hI)
    · exact (sb.2 _ D.TOz).trans tO
    · exact d1.1.at fun o q => (sb.2 _ (Ne.symm D.zi1)).trans q
    · exact d2.1.at fun o q => (sb.2 _ (Ne.symm D.zi2)).trans q
    · have lt : c < s.heap.objs.size := by
        have five : c = z ∨ c = TI ∨ c = TO ∨ c = i1 ∨ c = i2 := by simpa using hcm
        rcases five with rfl | rfl | rfl | rfl | rfl
        · exact zl
        · exact Heap.lt_size hI
        · exact Heap.lt_size hO
        · exact Heap.lt_size e1
        · exact Heap.lt_size e2
      rw [upd_ne (Nat.ne_of_lt lt)]
      exact (hf c hcm).1
  done := by
    intro X eP ew eK hc i pins s σ H E I hf st hg
    subst eP ew eK
    obtain ⟨hz, hI, ⟨x0, y0, hO⟩, h1, h2⟩ := st
    obtain ⟨xs, ys, qa, qb, lx, ly, hend⟩ := hg
    obtain ⟨its, rv, p⟩ := sqB_inv I qa
    obtain ⟨its2, rv2, p2⟩ := sqB_inv I qb
    have l1 := rv.length
    have l2 := rv2.length
    have na : a ≠ i1 := p.ne h1
    have nb : b ≠ i2 := p2.ne h2
    exact wpAny_pyNext_zipD2_end D (drawsB (P := X.prog) (w := X.w) (A := X.A.in1) (show X.A.in1.handled = none from I.ok.hd hc) t i1 a na its.toArray) (drawsB (P := X.prog) (w := X.w) (A := X.A.in1) (show X.A.in1.handled = none from I.ok.hd hc) u i2 b nb its2.toArray) hz hI hO ⟨h1, p⟩ ⟨h2, p2⟩ (by simp; omega) (by simp; omega) (by simp; omega) fun g tk hk =>
      ⟨rfl, I.turnedL (t' := tk) (ch := [z, TI, TO, i1, i2]) (fun c o hb q => by
        simp only [List.mem_cons, List.not_mem_nil, or_false, not_or] at hb
        exact hk c o hb.1 hb.2.2.1 hb.2.2.2.1 hb.2.2.2.2 q) hf⟩
  self := fun A i s Q E sg => wpAny_pyIter_zip sg.1
theorem sep2 (I l1 l2 : Nat) (h1 : l1 < I) (h2 : l2 < I) : ZipSep2 (I + 4) (I + 2) (I + 3) I (I + 1) [I, l1] [I + 1, l2] := by
  have n0 : ∀ {x y : Nat}, x ≠ y → ¬ ((x : Addr) = y) := fun h => h
  constructor
  all_goals first
    | exact List.mem_cons_self
    | (intro q; rcases List.mem_cons.mp q with q | q
       · revert q; refine n0 ?_; omega
       · rw [List.mem_singleton] at q; revert q; refine n0 ?_; omega)
    | (refine n0 ?_; omega)
def iZipQ (K : PySem.W.Frag) (t u : Bool) (ta : TA) : TI := fun σ H R => ta σ H fun vs H1 => ∃ a b xs ys, vs = [.ref a, .ref b] ∧ sqB t K H1 a xs ∧ sqB u K H1 b ys ∧ R (ItzQ K t u a b) H1
theorem pi_zipQ {X : Cx} (K : PySem.W.Frag) (hK : X.K = K) (t u : Bool) {e e2 : Expr} {ta : TA} {p pos tpos : Pos} {elts : List Expr} {kk : Nat} (hg : Gl X "zip") (hm : X.mg "zip" = none) (ha : PA X [e, e2] ta)
    (hs : starEach [e, e2] X.env = (false, eval e X.env) :: starEach [e2] X.env := by rfl) (hpl : (backTo pos (starEach [e2] X.env)).any (·.1) = false := by rfl) : PI X (.Tuple elts kk tpos) (.Call (.Name "zip" p) [e, e2] [] pos) (iZipQ K t u ta) := by
  subst hK
  refine ⟨fun pins s σ H R I hh => ?_⟩
  refine Call_ (ld_blt I hg hm PyProof.Rows.boot_zip (PyProof.Rows.callWith_type1 (thn (ha.run pos pins s σ H _ I hh) fun _ s1 ⟨_, H1, I1, r1, q1⟩ => ?_) hs hpl))
  obtain ⟨a, b, xs, ys, rfl, qa, qb, q⟩ := q1
  obtain ⟨v1, v2, rfl, r, r'⟩ := vals2 r1
  cases r
  cases r'
  obtain ⟨its, rv, p1⟩ := sqB_inv I1 qa
  obtain ⟨its2, rv2, p2⟩ := sqB_inv I1 qb
  refine zip_begins2 (beginsB t a its.toArray) (beginsB u b its2.toArray) p1 p2 fun g hz hI hO h1 h2 hsz hk => wpAny_pyIter_zip hz ?_
  have I2 : Inv X pins σ H1 { s1 with heap := g } := I1.kept (t' := s1.toks) hk
  refine ⟨s1.heap.objs.size + 4, [s1.heap.objs.size + 4, s1.heap.objs.size + 2, s1.heap.objs.size + 3, s1.heap.objs.size, s1.heap.objs.size + 1], _, _, H1, rfl, I2, turn_zipQ (sep2 s1.heap.objs.size a b p1.lt p2.lt), ⟨hz, hI, ⟨_, _, hO⟩, itB0 h1, itB0 h2⟩, fun c hcm => ?_, q⟩
  have le : s1.heap.objs.size ≤ c := by
    simp only [List.mem_cons, List.not_mem_nil, or_false] at hcm
    rcases hcm with rfl | rfl | rfl | rfl | rfl
    · exact Nat.le_add_right _ _
    · exact Nat.le_add_right _ _
    · exact Nat.le_add_right _ _
    · exact Nat.le_refl _
    · exact Nat.le_add_right _ _
  exact I1.fpOk le (I1.hok.fresh le)
theorem walk_zipQ {K : PySem.W.Frag} {t u : Bool} {a b : Addr} {xs ys : List V} (hl : xs.length = ys.length) : Walk (ItzQ K t u a b) xs.length (fun H => sqB t K H a xs ∧ sqB u K H b ys) (YPair (fun i => xs[i]?) (fun i => ys[i]?)) :=
  ⟨fun i H hi ⟨p, q⟩ => ⟨xs, ys, xs[i], ys[i]'(hl ▸ hi), p, q, List.getElem?_eq_getElem hi, List.getElem?_eq_getElem (hl ▸ hi)⟩, fun H ⟨p, q⟩ => ⟨xs, ys, p, q, Nat.le_refl _, by omega, .inl rfl⟩,
    fun i H x H' hi ⟨p, q⟩ ⟨T, x', y', e, hT, eH, f1, f2⟩ => ⟨T, x', y', e, hT, eH, f1 xs p, f2 ys q⟩⟩
/-! enumerate(text) -/
def ItES (x : Str) : It :=
  ⟨fun i _ => i < x.cps.size, fun i H v H' => ∃ T c, v = .ref T ∧ H T = none ∧ x.cps[i]? = some c ∧ H' = upd H T (.tup [.int (i : Nat), .str ⟨#[c]⟩]), fun i _ => i = x.cps.size⟩
theorem turn_enumS {P : Program} {w : World} {K : PySem.W.Frag} {elts : List Expr} {kk : Nat} {tpos : Pos} (x : Str) (tk0 : Tok) (e it : Addr) (hne : e ≠ it) :
    Turn P w K (.Tuple elts kk tpos) (ItES x) [e, it] e (fun i h => (∃ old, IsEnum h e it ((i : Nat) : Int) old) ∧ h.IsStrIter it (strIterType x) x tk0 i) where
  mem := by simp
  obj := fun i h st b hb => by
    obtain ⟨⟨old, he⟩, o, ho, hc, hd⟩ := st
    have two : b = e ∨ b = it := by simpa using hb
    rcases two with rfl | rfl
    · exact ⟨_, he, fun v q => nomatch q⟩
    · exact ⟨o, ho, fun v q => by rw [hd] at q; cases q⟩
  keep := fun i h h' st k => by
    obtain ⟨⟨old, he⟩, o, ho, hc, hd⟩ := st
    exact ⟨⟨old, k e (by simp) _ he⟩, o, k it (by simp) _ ho, hc, hd⟩
  item := by
    intro X eP ew eK hc i pins s σ H E I hf st hg
    subst eP ew eK
    obtain ⟨⟨old, he⟩, hit⟩ := st
    have el := Heap.lt_size he
    have il : it < s.heap.objs.size := by obtain ⟨_, q, _⟩ := hit; exact Heap.lt_size q
    refine wpAny_pyNext_enum_itemD (Draws.text (prog := X.prog) (w := X.w) (A := X.A.in1) (show X.A.in1.handled = none from I.ok.hd hc) it x tk0) he hit hg hne (by simp [hne]) fun v g tk m ho hit2 hT hsz hk => ?_
    obtain ⟨c, tk2, hx, rfl⟩ := m
    refine ⟨_, rfl, wpAny_letOwnedTupleGo_enum (s := { s with heap := g, toks := tk + 1 }) ho fun g2 he2 sb => ?_⟩
    have hT2 : g2.get? s.heap.objs.size = some { cls := .type "tuple", data := .seq #[.int i tk, .str ⟨#[c]⟩ tk2] } := (sb.2 _ (Nat.ne_of_gt el)).trans hT
    have hob : ObjOk X.prog X.w (upd H s.heap.objs.size (.tup [.int (i : Nat), .str ⟨#[c]⟩])) g2 s.heap.objs.size (.tup [.int (i : Nat), .str ⟨#[c]⟩]) :=
      ⟨by show 2 ≤ sizeLine; decide, [.int i tk, .str ⟨#[c]⟩ tk2], .cons ⟨_, rfl⟩ (.cons ⟨_, rfl⟩ .nil), _, hT2, rfl, _, rfl⟩
    have kk : ∀ b o, b ∉ [e, it] → s.heap.get? b = some o → g2.get? b = some o := fun b o hb q => by
      simp only [List.mem_cons, List.not_mem_nil, or_false, not_or] at hb
      exact (sb.2 b hb.1).trans (hk b o hb.1 hb.2 q)
    refine ⟨.ref s.heap.objs.size, _, I.turnedNew (t' := tk + 1) kk hf (Nat.le_refl _) hob, rfl, ⟨_, c, rfl, I.hok.fresh (Nat.le_refl _), hx, rfl⟩, ⟨⟨.str ⟨#[c]⟩ tk2, ?_⟩, ?_⟩, fun b hb => ?_⟩
    · have q : ((i + 1 : Nat) : Int) = (i : Int) + 1 := by omega
      rw [q]; exact he2
    · obtain ⟨o, q, r⟩ := hit2
      exact ⟨o, (sb.2 it (Ne.symm hne)).trans q, r⟩
    · have lt : b < s.heap.objs.size := by
        have two : b = e ∨ b = it := by simpa using hb
        rcases two with rfl | rfl
        · exact el
        · exact il
      rw [upd_ne (Nat.ne_of_lt lt)]
      exact (hf b hb).1
  done := by
    intro X eP ew eK hc i pins s σ H E I hf st hg
    subst eP ew eK
    obtain ⟨⟨old, he⟩, hit⟩ := st
    obtain rfl : i = x.cps.size := hg
    obtain ⟨c0, c1, c2, c3, c4, c5⟩ := hf it (by simp)
    exact wpAny_pyNext_enum_endD (Draws.text (prog := X.prog) (w := X.w) (A := X.A.in1) (show X.A.in1.handled = none from I.ok.hd hc) it x tk0) he hit fun g eb => ⟨rfl, I.turned (t' := s.toks) (fun b o hb q => eb b o hb q) c0 c1 c3 c4 c5⟩
  self := fun A i s Q E sg => let ⟨⟨_, he⟩, _⟩ := sg; wpAny_pyIter_enum he
def iEnumS (ta : TA) : TI := fun σ H R => ta σ H fun vs H1 => ∃ x, vs = [.str x] ∧ R (ItES x) H1
theorem pi_enumS {X : Cx} {e : Expr} {ta : TA} {p pos tpos : Pos} {elts : List Expr} {kk : Nat} (hg : Gl X "enumerate") (hm : X.mg "enumerate" = none) (ha : PA X [e] ta) (hs : starEach [e] X.env = [(false, eval e X.env)] := by rfl) :
    PI X (.Tuple elts kk tpos) (.Call (.Name "enumerate" p) [e] [] pos) (iEnumS ta) := by
  refine ⟨fun pins s σ H R I hh => ?_⟩
  refine Call_ (ld_blt I hg hm boot_enumerate (PyProof.Rows.callWith_type1 (thn (ha.run pos pins s σ H _ I hh) fun _ s1 ⟨_, H1, I1, r1, q1⟩ => ?_) hs rfl))
  obtain ⟨x, rfl, q⟩ := q1
  obtain ⟨v, rfl, tk0, rfl⟩ := vals1 r1
  refine call_enumerate_str fun g he hit hsz hk => wpAny_pyIter_enum he ?_
  have I2 : Inv X pins σ H1 { s1 with heap := g } := I1.kept (t' := s1.toks) hk
  refine ⟨s1.heap.objs.size + 1, [s1.heap.objs.size + 1, s1.heap.objs.size], _, _, H1, rfl, I2, turn_enumS x tk0 (s1.heap.objs.size + 1) s1.heap.objs.size (Nat.succ_ne_self _), ⟨⟨.none, he⟩, hit⟩, fun b hb => ?_, q⟩
  have le : s1.heap.objs.size ≤ b := by
    simp only [List.mem_cons, List.not_mem_nil, or_false] at hb
    rcases hb with rfl | rfl
    · exact Nat.le_add_right _ _
    · exact Nat.le_refl _
  exact I1.fpOk le (I1.hok.fresh le)
theorem walk_enumS {x : Str} : Walk (ItES x) x.cps.size (fun _ => True) (fun i H v H' => ∃ T c, v = .ref T ∧ H T = none ∧ x.cps[i]? = some c ∧ H' = upd H T (.tup [.int (i : Nat), .str ⟨#[c]⟩])) :=
  ⟨fun _ _ h _ => h, fun _ _ => rfl, fun _ _ _ _ _ _ y => y⟩
theorem pg_tupK {X : Cx} (K : PySem.W.Frag) (hK : X.K = K) {n : Nat} {es : List Expr} {k : Nat} {t : TGs} {pos : Pos} (hc : X.calm = true) (h : PGs X es t) (hn : (assignEach es X.env).length = n := by rfl)
    (hst : (assignEach es X.env).findIdx? (·.1) = none := by rfl) : PG X (.Tuple es k pos) (gTup K n t) := by subst hK; exact pg_tup hc h hn hst
theorem pe_lenSetIK {X : Cx} (K : PySem.W.Frag) (hK : X.K = K) {a : Expr} {ta : TE} {p p2 q pos : Pos} (hg : Gl X "len") (hm : X.mg "len" = none) (hg2 : Gl X "set") (hm2 : X.mg "set" = none) (ha : PE X a ta) (hc : X.calm = true := by rfl)
    (na : starEach [a] X.env = (false, eval a X.env) :: starEach [] X.env := by rfl) : PE X (.Call (.Name "len" p) [.Call (.Name "set" p2) [a] [] q] [] pos) (RZ.tLenSetI K ta) := by subst hK; exact RZ.pe_lenSetI hg hm hg2 hm2 ha hc na
section
variable {K : PySem.W.Frag} {σ : L2.St} {H : Hp} {Q : VK}
theorem rd_lenSet {ta : TE} (h : ta σ H fun x H1 => ∃ (l : Addr) (ns : List Int), x = .ref l ∧ SqL K H1 l (ns.map V.int) ∧ ns.Nodup ∧ ns.length ≤ 4000 ∧ Q (.int (ns.length : Nat)) H1) : RZ.tLenSetI K ta σ H Q := h
theorem rd_iZQ {t u : Bool} {tr : TA} {R : It → Hp → Prop} (h : tr σ H fun vs H1 => ∃ a b xs ys, vs = [.ref a, .ref b] ∧ sqB t K H1 a xs ∧ sqB u K H1 b ys ∧ R (ItzQ K t u a b) H1) : iZipQ K t u tr σ H R := h
theorem rd_iES {tr : TA} {R : It → Hp → Prop} (h : tr σ H fun vs H1 => ∃ x, vs = [.str x] ∧ R (ItES x) H1) : iEnumS tr σ H R := h
end
end JF

/-! ### fields: the mathematics of cells in squares, no program in sight -/
namespace JF
open PySem PySem.Spec PyProof.Rows L2
namespace Sq
def get : Sq → Int → Int → Int
  | leaf s, _, _ => s
  | node a b c d, x, y => if y < 2 ^ a.level then (if x < 2 ^ a.level then a.get x y else b.get (x - 2 ^ a.level) y) else (if x < 2 ^ a.level then c.get x (y - 2 ^ a.level) else d.get (x - 2 ^ a.level) (y - 2 ^ a.level))
def put : Sq → Int → Int → Int → Sq
  | leaf _, _, _, s => leaf s
  | node a b c d, x, y, s => if y < 2 ^ a.level then (if x < 2 ^ a.level then node (a.put x y s) b c d else node a (b.put (x - 2 ^ a.level) y s) c d)
      else (if x < 2 ^ a.level then node a b (c.put x (y - 2 ^ a.level) s) d else node a b c (d.put (x - 2 ^ a.level) (y - 2 ^ a.level) s))
theorem level_put (s : Int) : ∀ (S : Sq) (x y : Int), (S.put x y s).level = S.level
  | leaf _, _, _ => rfl
  | node a b c d, x, y => by
    unfold put
    split <;> split
    · exact congrArg (· + 1) (level_put s a x y)
    · rfl
    · rfl
    · rfl
theorem wf_put {s : Int} (h0 : 0 ≤ s) (h7 : s ≤ 7) : ∀ {S : Sq} (x y : Int), S.wf → (S.put x y s).wf
  | leaf _, _, _, _ => ⟨h0, h7⟩
  | node a b c d, x, y, ⟨wa, wb, wc, wd, e1, e2, e3⟩ => by
    unfold put
    split <;> split
    · exact ⟨wf_put h0 h7 _ _ wa, wb, wc, wd, by rw [level_put]; exact e1, by rw [level_put]; exact e2, by rw [level_put]; exact e3⟩
    · exact ⟨wa, wf_put h0 h7 _ _ wb, wc, wd, by rw [level_put]; exact e1, e2, e3⟩
    · exact ⟨wa, wb, wf_put h0 h7 _ _ wc, wd, e1, by rw [level_put]; exact e2, e3⟩
    · exact ⟨wa, wb, wc, wf_put h0 h7 _ _ wd, e1, e2, by rw [level_put]; exact e3⟩
theorem two_succ (n : Nat) : (2 : Int) ^ (n + 1) = 2 * 2 ^ n := by rw [Int.pow_succ]; omega
theorem two_pos (n : Nat) : (0 : Int) < 2 ^ n := Int.pow_pos (by decide)
theorem get_put {s : Int} : ∀ {S : Sq} {x y u v : Int}, S.wf → 0 ≤ x → x < 2 ^ S.level → 0 ≤ y → y < 2 ^ S.level → 0 ≤ u → u < 2 ^ S.level → 0 ≤ v → v < 2 ^ S.level → (S.put x y s).get u v = if u = x ∧ v = y then s else S.get u v
  | leaf r, x, y, u, v, _, h1, h2, h3, h4, h5, h6, h7, h8 => by
    have e : (2 : Int) ^ (leaf r).level = 1 := rfl
    rw [e] at h2 h4 h6 h8
    rw [if_pos (by omega)]; rfl
  | node a b c d, x, y, u, v, ⟨wa, wb, wc, wd, e1, e2, e3⟩, h1, h2, h3, h4, h5, h6, h7, h8 => by
    have e : (2 : Int) ^ (node a b c d).level = 2 * 2 ^ a.level := two_succ _
    rw [e] at h2 h4 h6 h8
    have ia := fun x y u v => @get_put s a x y u v wa
    have ib := fun x y u v => @get_put s b x y u v wb
    have ic := fun x y u v => @get_put s c x y u v wc
    have id_ := fun x y u v => @get_put s d x y u v wd
    rw [e1] at ib; rw [e2] at ic; rw [e3] at id_
    have la := level_put s a x y
    unfold put
    generalize hh : (2 : Int) ^ a.level = h at *
    by_cases cy : y < h <;> by_cases cx : x < h
    · rw [if_pos cy, if_pos cx]
      unfold get
      rw [la, hh]
      by_cases cv : v < h <;> by_cases cu : u < h
      · simp only [cv, cu, if_true, if_false]; rw [ia x y u v h1 cx h3 cy h5 cu h7 cv]
      · simp only [cv, cu, if_true, if_false]; rw [if_neg (by omega)]
      · simp only [cv, cu, if_true, if_false]; rw [if_neg (by omega)]
      · simp only [cv, cu, if_true, if_false]; rw [if_neg (by omega)]
    · rw [if_pos cy, if_neg cx]
      unfold get
      rw [hh]
      by_cases cv : v < h <;> by_cases cu : u < h
      · simp only [cv, cu, if_true, if_false]; rw [if_neg (by omega)]
      · simp only [cv, cu, if_true, if_false]; rw [ib (x - h) y (u - h) v (by omega) (by omega) h3 cy (by omega) (by omega) h7 cv]
        by_cases z : u = x ∧ v = y
        · rw [if_pos z, if_pos (by omega)]
        · rw [if_neg z, if_neg (by omega)]
      · simp only [cv, cu, if_true, if_false]; rw [if_neg (by omega)]
      · simp only [cv, cu, if_true, if_false]; rw [if_neg (by omega)]
    · rw [if_neg cy, if_pos cx]
      unfold get
      rw [hh]
      by_cases cv : v < h <;> by_cases cu : u < h
      · simp only [cv, cu, if_true, if_false]; rw [if_neg (by omega)]
      · simp only [cv, cu, if_true, if_false]; rw [if_neg (by omega)]
      · simp only [cv, cu, if_true, if_false]; rw [ic x (y - h) u (v - h) h1 cx (by omega) (by omega) h5 cu (by omega) (by omega)]
        by_cases z : u = x ∧ v = y
        · rw [if_pos z, if_pos (by omega)]
        · rw [if_neg z, if_neg (by omega)]
      · simp only [cv, cu, if_true, if_false]; rw [if_neg (by omega)]
    · rw [if_neg cy, if_neg cx]
      unfold get
      rw [hh]
      by_cases cv : v < h <;> by_cases cu : u < h
      · simp only [cv, cu, if_true, if_false]; rw [if_neg (by omega)]
      · simp only [cv, cu, if_true, if_false]; rw [if_neg (by omega)]
      · simp only [cv, cu, if_true, if_false]; rw [if_neg (by omega)]
      · simp only [cv, cu, if_true, if_false]; rw [id_ (x - h) (y - h) (u - h) (v - h) (by omega) (by omega) (by omega) (by omega) (by omega) (by omega) (by omega) (by omega)]
        by_cases z : u = x ∧ v = y
        · rw [if_pos z, if_pos (by omega)]
        · rw [if_neg z, if_neg (by omega)]
/-- the cell at a place, the square set about the middle -/
def half (S : Sq) : Int := 2 ^ (S.level - 1)
def val (S : Sq) (x y : Int) : Int := if -S.half ≤ x ∧ x < S.half ∧ -S.half ≤ y ∧ y < S.half then S.get (x + S.half) (y + S.half) else 0
theorem get_even (s : Int) : ∀ (l : Nat) (x y : Int), (even l s).get x y = s
  | 0, _, _ => rfl
  | l + 1, x, y => by
    unfold even get
    split <;> split <;> exact get_even s l _ _
theorem val_even0 (l : Nat) (x y : Int) : (even l 0).val x y = 0 := by
  unfold val
  split
  · exact get_even 0 l _ _
  · rfl
def wide : Sq → Sq
  | leaf s => leaf s
  | node a b c d => node (node (even a.level 0) (even a.level 0) (even a.level 0) a) (node (even a.level 0) (even a.level 0) b (even a.level 0)) (node (even a.level 0) c (even a.level 0) (even a.level 0)) (node d (even a.level 0) (even a.level 0) (even a.level 0))
theorem node_of {S : Sq} (h : 1 ≤ S.level) : ∃ a b c d, S = node a b c d := by
  cases S with
  | leaf s => simp [level] at h
  | node a b c d => exact ⟨a, b, c, d, rfl⟩
theorem level_wide {S : Sq} (h : 1 ≤ S.level) : S.wide.level = S.level + 1 := by
  obtain ⟨a, b, c, d, rfl⟩ := node_of h
  show (even a.level 0).level + 1 + 1 = a.level + 1 + 1
  rw [level_even]
theorem wf_wide {S : Sq} (w : S.wf) : S.wide.wf := by
  cases S with
  | leaf s => exact w
  | node a b c d =>
    obtain ⟨wa, wb, wc, wd, e1, e2, e3⟩ := w
    have we : (even a.level 0).wf := wf_even (by decide) (by decide) _
    have le : (even a.level 0).level = a.level := level_even _ _
    exact ⟨⟨we, we, we, wa, rfl, rfl, le.symm⟩, ⟨we, we, wb, we, rfl, by rw [e1, le], rfl⟩, ⟨we, wc, we, we, by rw [e2, le], rfl, rfl⟩, ⟨wd, we, we, we, by rw [e3, le], by rw [e3, le], by rw [e3, le]⟩, rfl, rfl, by show d.level + 1 = (even a.level 0).level + 1; rw [e3, le]⟩
theorem half_node (a b c d : Sq) : (node a b c d).half = 2 ^ a.level := rfl
set_option maxHeartbeats 4000000 in
theorem val_wide {S : Sq} (w : S.wf) (h : 1 ≤ S.level) (x y : Int) : S.wide.val x y = S.val x y := by
  obtain ⟨a, b, c, d, rfl⟩ := node_of h
  obtain ⟨wa, wb, wc, wd, e1, e2, e3⟩ := w
  have le : (even a.level 0).level = a.level := level_even _ _
  have hw : (wide (node a b c d)).half = 2 * 2 ^ a.level := by
    show (2 : Int) ^ ((even a.level 0).level + 1) = _
    rw [le]; exact two_succ _
  unfold val
  rw [hw, half_node]
  have n1 : (node (even a.level 0) (even a.level 0) (even a.level 0) a).level = a.level + 1 := by show (even a.level 0).level + 1 = _; rw [le]
  have h0 := two_pos a.level
  have e2' := two_succ a.level
  unfold wide
  simp only [get, n1, le, e3, get_even, e2']
  generalize (2 : Int) ^ a.level = h at *
  repeat' split
  all_goals first | rfl | omega | (congr 1 <;> omega)
/-! the middle, what is trimmed -/
def mid : Sq → Sq
  | node (node _ _ _ a) (node _ _ b _) (node _ c _ _) (node d _ _ _) => node a b c d
  | S => S
theorem mid_form {S : Sq} (w : S.wf) (h : 2 ≤ S.level) : ∃ a1 a2 a3 a4 b1 b2 b3 b4 c1 c2 c3 c4 d1 d2 d3 d4, S = node (node a1 a2 a3 a4) (node b1 b2 b3 b4) (node c1 c2 c3 c4) (node d1 d2 d3 d4) := by
  obtain ⟨a, b, c, d, rfl⟩ := node_of (by omega : 1 ≤ S.level)
  obtain ⟨wa, wb, wc, wd, e1, e2, e3⟩ := w
  have h' : 1 ≤ a.level := by have z : (node a b c d).level = a.level + 1 := rfl; omega
  obtain ⟨a1, a2, a3, a4, rfl⟩ := node_of h'
  obtain ⟨b1, b2, b3, b4, rfl⟩ := node_of (by omega : 1 ≤ b.level)
  obtain ⟨c1, c2, c3, c4, rfl⟩ := node_of (by omega : 1 ≤ c.level)
  obtain ⟨d1, d2, d3, d4, rfl⟩ := node_of (by omega : 1 ≤ d.level)
  exact ⟨_, _, _, _, _, _, _, _, _, _, _, _, _, _, _, _, rfl⟩
theorem wf_mid {S : Sq} (w : S.wf) (h : 2 ≤ S.level) : S.mid.wf ∧ S.mid.level + 1 = S.level := by
  obtain ⟨a1, a2, a3, a4, b1, b2, b3, b4, c1, c2, c3, c4, d1, d2, d3, d4, rfl⟩ := mid_form w h
  obtain ⟨wa, wb, wc, wd, e1, e2, e3⟩ := w
  simp only [wf] at wa wb wc wd
  simp only [level] at e1 e2 e3
  refine ⟨⟨wa.2.2.2.1, wb.2.2.1, wc.2.1, wd.1, ?_, ?_, ?_⟩, ?_⟩
  · omega
  · omega
  · omega
  · show a4.level + 1 + 1 = a1.level + 1 + 1
    omega
theorem lives_zero : ∀ {S : Sq}, S.wf → S.lives = 0 → ∀ x y, S.get x y = 0
  | leaf s, _, h, _, _ => by
    unfold lives at h
    split at h
    · assumption
    · cases h
  | node a b c d, ⟨wa, wb, wc, wd, _, _, _⟩, h, x, y => by
    have n1 := a.lives_nonneg; have n2 := b.lives_nonneg; have n3 := c.lives_nonneg; have n4 := d.lives_nonneg
    unfold lives at h
    unfold get
    split <;> split
    · exact lives_zero wa (by omega) _ _
    · exact lives_zero wb (by omega) _ _
    · exact lives_zero wc (by omega) _ _
    · exact lives_zero wd (by omega) _ _
set_option maxHeartbeats 8000000 in
theorem val_mid {S : Sq} (w : S.wf) (h : 2 ≤ S.level) (hl : ¬ S.mid.lives < S.lives) (x y : Int) : S.mid.val x y = S.val x y := by
  obtain ⟨a1, a2, a3, a4, b1, b2, b3, b4, c1, c2, c3, c4, d1, d2, d3, d4, rfl⟩ := mid_form w h
  obtain ⟨wa, wb, wc, wd, e1, e2, e3⟩ := w
  simp only [wf] at wa wb wc wd
  simp only [level] at e1 e2 e3
  simp only [mid, lives] at hl
  have na1 := a1.lives_nonneg; have na2 := a2.lives_nonneg; have na3 := a3.lives_nonneg
  have nb1 := b1.lives_nonneg; have nb2 := b2.lives_nonneg; have nb4 := b4.lives_nonneg
  have nc1 := c1.lives_nonneg; have nc3 := c3.lives_nonneg; have nc4 := c4.lives_nonneg
  have nd2 := d2.lives_nonneg; have nd3 := d3.lives_nonneg; have nd4 := d4.lives_nonneg
  have za1 := lives_zero wa.1 (by omega); have za2 := lives_zero wa.2.1 (by omega); have za3 := lives_zero wa.2.2.1 (by omega)
  have zb1 := lives_zero wb.1 (by omega); have zb2 := lives_zero wb.2.1 (by omega); have zb4 := lives_zero wb.2.2.2.1 (by omega)
  have zc1 := lives_zero wc.1 (by omega); have zc3 := lives_zero wc.2.2.1 (by omega); have zc4 := lives_zero wc.2.2.2.1 (by omega)
  have zd2 := lives_zero wd.2.1 (by omega); have zd3 := lives_zero wd.2.2.1 (by omega); have zd4 := lives_zero wd.2.2.2.1 (by omega)
  have l4 : a4.level = a1.level := by omega
  have lb : b1.level = a1.level := by omega
  have lc : c1.level = a1.level := by omega
  have ld : d1.level = a1.level := by omega
  have h0 := two_pos a1.level
  have e2' := two_succ a1.level
  unfold val
  simp only [mid, half_node, level, get, za1, za2, za3, zb1, zb2, zb4, zc1, zc3, zc4, zd2, zd3, zd4, l4, lb, lc, ld, e2']
  generalize (2 : Int) ^ a1.level = h at *
  repeat' split
  all_goals first | rfl | omega | (congr 1 <;> omega)
def trimN : Nat → Sq → Sq
  | 0, S => S
  | n + 1, S => if S.level ≤ 1 then S else if S.mid.lives < S.lives then S else trimN n S.mid
def trim (S : Sq) : Sq := trimN S.level S
/-- nothing more is to be trimmed -/
def Least (S : Sq) : Prop := S.level = 1 ∨ 2 ≤ S.level ∧ S.mid.lives < S.lives
theorem trimN_ok : ∀ (n : Nat) {S : Sq}, S.wf → 1 ≤ S.level → S.level ≤ n → (trimN n S).wf ∧ 1 ≤ (trimN n S).level ∧ (trimN n S).level ≤ S.level ∧ (trimN n S).Least ∧ ∀ x y, (trimN n S).val x y = S.val x y
  | 0, S, _, h1, h2 => by omega
  | n + 1, S, w, h1, h2 => by
    unfold trimN
    by_cases z : S.level ≤ 1
    · rw [if_pos z]
      exact ⟨w, h1, Nat.le_refl _, .inl (by omega), fun _ _ => rfl⟩
    · rw [if_neg z]
      by_cases y : S.mid.lives < S.lives
      · rw [if_pos y]
        exact ⟨w, h1, Nat.le_refl _, .inr ⟨by omega, y⟩, fun _ _ => rfl⟩
      · rw [if_neg y]
        obtain ⟨wm, lm⟩ := wf_mid w (by omega)
        obtain ⟨g1, g2, g3, g4, g5⟩ := trimN_ok n wm (by omega) (by omega)
        exact ⟨g1, g2, by omega, g4, fun u v => (g5 u v).trans (val_mid w (by omega) y u v)⟩
/-- enough turns are enough -/
theorem trimN_more : ∀ (n m : Nat) {S : Sq}, S.wf → 1 ≤ S.level → S.level ≤ n → S.level ≤ m → trimN n S = trimN m S
  | 0, m, S, _, h1, h2, _ => by omega
  | n + 1, 0, S, _, h1, _, h2 => by omega
  | n + 1, m + 1, S, w, h1, h2, h3 => by
    unfold trimN
    split
    · rfl
    · split
      · rfl
      · rename_i z _
        obtain ⟨wm, lm⟩ := wf_mid w (by omega)
        exact trimN_more n m wm (by omega) (by omega) (by omega)
theorem trim_mid {S : Sq} (w : S.wf) (h : 2 ≤ S.level) (y : ¬ S.mid.lives < S.lives) : S.trim = S.mid.trim := by
  obtain ⟨wm, lm⟩ := wf_mid w h
  unfold trim
  have e : S.level = S.mid.level + 1 := lm.symm
  rw [e]
  show (if S.level ≤ 1 then S else if S.mid.lives < S.lives then S else trimN S.mid.level S.mid) = _
  rw [if_neg (by omega), if_neg y]
theorem trim_self {S : Sq} (h : S.Least) : S.trim = S := by
  unfold trim
  cases e : S.level with
  | zero => rfl
  | succ n =>
    show (if S.level ≤ 1 then S else if S.mid.lives < S.lives then S else trimN n S.mid) = _
    rcases h with h | ⟨h, y⟩
    · rw [if_pos (by omega)]
    · rw [if_neg (by omega), if_pos y]
end Sq
end JF

/-! ### fields: the program's defs -/
namespace JF
open PySem PySem.Spec PyProof.Rows L2
theorem while_m {c : TT} {t : TS} {D : Ends} {σ : L2.St} {H : Hp} (W : Nat → L2.St → Hp → Prop) (m0 : Nat) (h0 : W m0 σ H)
    (hs : ∀ m σ H, W m σ H → c σ H fun k H1 => if k = true then ∃ N : L2.St → Hp → Prop, (∀ σ' H', N σ' H' → ∃ m', m' < m ∧ W m' σ' H') ∧ t { D with nx := N, ct := N, bk := D.nx } σ H1 else D.nx σ H1) : tWhile c t D σ H := ⟨W, ⟨m0, h0⟩, hs⟩
theorem div_lo {y h : Int} (h0 : 0 ≤ y) (h1 : y < h) : y / h = 0 ∧ y % h = y := (Int.ediv_emod_unique (by omega)).mpr ⟨by omega, h0, h1⟩
theorem div_hi {y h : Int} (h0 : h ≤ y) (h1 : y < 2 * h) : y / h = 1 ∧ y % h = y - h := (Int.ediv_emod_unique (by omega)).mpr ⟨by omega, by omega, by omega⟩
theorem small_mul {a b : Int} (h1 : -1000000 < a) (h2 : a < 1000000) (h3 : -(2 ^ 100) < b) (h4 : b < 2 ^ 100) : CMulW a b := by
  have e1 : (2 : Int) ^ 100 ≤ 2 ^ 2000 := by decide +kernel
  have e2 : (1000000 : Int) ≤ 2 ^ 2000 := by decide +kernel
  exact mulW_of (by omega) (by omega) (by omega) (by omega)
theorem pow64' {i : Nat} (h : i ≤ 60) : (0 : Int) < 2 ^ i ∧ (2 : Int) ^ i < 2 ^ 64 := by
  refine ⟨Int.pow_pos (by decide), ?_⟩
  have e2 : 2 ^ i < 2 ^ 64 := Nat.pow_lt_pow_right (by decide) (by omega)
  exact_mod_cast e2
theorem shl_ok' {i : Nat} : (1 : Int) * 2 ^ ((i : Int)).toNat = 2 ^ i := by rw [Int.one_mul, Int.toNat_natCast]
section
variable {P : Program} {w : World} {K : PySem.W.Frag} {mg : Str → Option Value} {base : Heap}
def InGround (x y : Int) : Prop := -1099511627776 ≤ x ∧ x < 1099511627776 ∧ -1099511627776 ≤ y ∧ y < 1099511627776
def sp_in_ground : Sp := fun vs H Q _ => ∃ x y : Int, vs = [.int x, .int y] ∧ InGround x y ∧ Q (.bl true) H
/-- one corner of each of four -/
def sp_meeting (C : Addr) : Sp := fun vs H Q _ => ∃ (a : GA) (rows : List (Int × Addr)) (q : List Sq) (na nb nc nd : Nat) (a1 a2 a3 a4 b1 b2 b3 b4 c1 c2 c3 c4 d1 d2 d3 d4 : Sq), vs = [.ref a.g, .int (na : Int), .int (nb : Int), .int (nc : Int), .int (nd : Int)] ∧ GAt C H a rows q ∧
  q[na]? = some (.node a1 a2 a3 a4) ∧ q[nb]? = some (.node b1 b2 b3 b4) ∧ q[nc]? = some (.node c1 c2 c3 c4) ∧ q[nd]? = some (.node d1 d2 d3 d4) ∧ (Sq.node a4 b3 c2 d1).wf ∧ a4.level ≤ 60 ∧ q.length < 16000000 ∧
  ∀ H' q' (n : Nat), GAt C H' a rows q' → q <+: q' → q'.length ≤ q.length + 1 → q'[n]? = some (.node a4 b3 c2 d1) → Fr a.m5 H H' → Q (.int (n : Int)) H'
theorem mp_meeting {C : Addr} : MonP (sp_meeting C) := fun vs H Q Q' E h ⟨a, rows, q, na, nb, nc, nd, a1, a2, a3, a4, b1, b2, b3, b4, c1, c2, c3, c4, d1, d2, d3, d4, x1, x2, x3, x4, x5, x6, x7, x8, x9, k⟩ =>
  ⟨a, rows, q, na, nb, nc, nd, a1, a2, a3, a4, b1, b2, b3, b4, c1, c2, c3, c4, d1, d2, d3, d4, x1, x2, x3, x4, x5, x6, x7, x8, x9, fun H' q' n g p l e f => h _ _ (k H' q' n g p l e f)⟩
def sp_middle_of (C : Addr) : Sp := fun vs H Q _ => ∃ (a : GA) (rows : List (Int × Addr)) (q : List Sq) (n : Nat) (S : Sq), vs = [.ref a.g, .int (n : Int)] ∧ GAt C H a rows q ∧ q[n]? = some S ∧ 2 ≤ S.level ∧ S.level ≤ 60 ∧ q.length < 16000000 ∧
  ∀ H' q' (m : Nat), GAt C H' a rows q' → q <+: q' → q'.length ≤ q.length + 1 → q'[m]? = some S.mid → Fr a.m5 H H' → Q (.int (m : Int)) H'
theorem mp_middle_of {C : Addr} : MonP (sp_middle_of C) := fun vs H Q Q' E h ⟨a, rows, q, n, S, x1, x2, x3, x4, x5, x6, k⟩ => ⟨a, rows, q, n, S, x1, x2, x3, x4, x5, x6, fun H' q' m g p l e f => h _ _ (k H' q' m g p l e f)⟩
def sp_widened (C : Addr) : Sp := fun vs H Q _ => ∃ (a : GA) (rows : List (Int × Addr)) (q : List Sq) (n : Nat) (S : Sq), vs = [.ref a.g, .int (n : Int)] ∧ GAt C H a rows q ∧ q[n]? = some S ∧ 1 ≤ S.level ∧ S.level ≤ 47 ∧ q.length + 200 < 16000000 ∧
  ∀ H' rows' q' (m : Nat), GStep C H a rows q H' rows' q' → q'.length ≤ q.length + 60 → q'[m]? = some S.wide → Q (.int (m : Int)) H'
theorem mp_widened {C : Addr} : MonP (sp_widened C) := fun vs H Q Q' E h ⟨a, rows, q, n, S, x1, x2, x3, x4, x5, x6, k⟩ => ⟨a, rows, q, n, S, x1, x2, x3, x4, x5, x6, fun H' r' q' m g l e => h _ _ (k H' r' q' m g l e)⟩
def sp_trimmed (C : Addr) : Sp := fun vs H Q _ => ∃ (a : GA) (rows : List (Int × Addr)) (q : List Sq) (n : Nat) (S : Sq), vs = [.ref a.g, .int (n : Int)] ∧ GAt C H a rows q ∧ q[n]? = some S ∧ 1 ≤ S.level ∧ S.level ≤ 60 ∧ q.length + 200 < 16000000 ∧
  ∀ H' q' (m : Nat), GStep C H a rows q H' rows q' → q'.length ≤ q.length + 60 → q'[m]? = some S.trim → Q (.int (m : Int)) H'
theorem mp_trimmed {C : Addr} : MonP (sp_trimmed C) := fun vs H Q Q' E h ⟨a, rows, q, n, S, x1, x2, x3, x4, x5, x6, k⟩ => ⟨a, rows, q, n, S, x1, x2, x3, x4, x5, x6, fun H' q' m g l e => h _ _ (k H' q' m g l e)⟩
end
end JF

/-! ### fields: cell_at, put_in, planted -/
namespace JF
open PySem PySem.Spec PyProof.Rows L2
theorem get_node (a b c d : Sq) (x y : Int) : (Sq.node a b c d).get x y = if y < 2 ^ a.level then (if x < 2 ^ a.level then a.get x y else b.get (x - 2 ^ a.level) y) else (if x < 2 ^ a.level then c.get x (y - 2 ^ a.level) else d.get (x - 2 ^ a.level) (y - 2 ^ a.level)) := rfl
theorem band1 (i : Int) : Builtin.bitAnd i 1 = i % 2 := PySem.W.kbt_mask i 1
theorem bit_split {X h : Int} (h0 : 0 < h) : ((X / h) % 2 = 0 ∧ X % (2 * h) = X % h) ∨ ((X / h) % 2 = 1 ∧ X % (2 * h) = X % h + h) := by
  have e := Int.mul_ediv_add_emod X h
  have r0 := Int.emod_nonneg X (by omega : h ≠ 0)
  have r1 := Int.emod_lt_of_pos X h0
  have e2 := Int.mul_ediv_add_emod (X / h) 2
  generalize X / h = k at *
  generalize X % h = r at *
  have e3 : h * k = 2 * h * (k / 2) + h * (k % 2) := by
    have z : h * k = h * (2 * (k / 2) + k % 2) := by rw [e2]
    rw [z, Int.mul_add, ← Int.mul_assoc, Int.mul_comm h 2]
  rcases (by omega : k % 2 = 0 ∨ k % 2 = 1) with z | z
  · left
    refine ⟨z, ((Int.ediv_emod_unique (q := k / 2) (r := r) (by omega)).mpr ⟨?_, r0, by omega⟩).2⟩
    rw [z, Int.mul_zero] at e3
    omega
  · right
    refine ⟨z, ((Int.ediv_emod_unique (q := k / 2) (r := r + h) (by omega)).mpr ⟨?_, by omega, by omega⟩).2⟩
    rw [z, Int.mul_one] at e3
    omega
section
variable {P : Program} {w : World} {K : PySem.W.Frag} {mg : Str → Option Value} {base : Heap}
def sp_cell_at (C : Addr) : Sp := fun vs H Q _ => ∃ (a : GA) (rows : List (Int × Addr)) (q : List Sq) (n : Nat) (S : Sq) (x y : Int), vs = [.ref a.g, .int (n : Int), .int x, .int y] ∧ GAt C H a rows q ∧ q[n]? = some S ∧ 1 ≤ S.level ∧ S.level ≤ 60 ∧ q.length ≤ 16000000 ∧ Q (.int (S.val x y)) H
theorem mp_cell_at {C : Addr} : MonP (sp_cell_at C) := fun vs H Q Q' E h ⟨a, rows, q, n, S, x, y, x1, x2, x3, x4, x5, x6, k⟩ => ⟨a, rows, q, n, S, x, y, x1, x2, x3, x4, x5, x6, h _ _ k⟩
end
end JF

/-! ### fields: put_in, planted -/
namespace JF
open PySem PySem.Spec PyProof.Rows L2
section
variable {P : Program} {w : World} {K : PySem.W.Frag} {mg : Str → Option Value} {base : Heap}
def sp_put_in (C : Addr) (L : Nat) : Sp := fun vs H Q _ => ∃ (a : GA) (rows : List (Int × Addr)) (q : List Sq) (n m : Nat) (S : Sq) (s x y : Int), vs = [.ref a.g, .int (n : Int), .int x, .int y, .int (m : Int)] ∧ GAt C H a rows q ∧ q[n]? = some S ∧ q[m]? = some (.leaf s) ∧ S.level ≤ L ∧ S.level ≤ 60 ∧
  0 ≤ x ∧ x < 2 ^ S.level ∧ 0 ≤ y ∧ y < 2 ^ S.level ∧ q.length + 200 < 16000000 ∧ ∀ H' q' (r : Nat), GStep C H a rows q H' rows q' → q'.length ≤ q.length + S.level → q'[r]? = some (S.put x y s) → Q (.int (r : Int)) H'
theorem mp_put_in {C : Addr} {L : Nat} : MonP (sp_put_in C L) := fun vs H Q Q' E h ⟨a, rows, q, n, m, S, s, x, y, x1, x2, x3, x4, x5, x6, x7, x8, x9, y1, y2, k⟩ => ⟨a, rows, q, n, m, S, s, x, y, x1, x2, x3, x4, x5, x6, x7, x8, x9, y1, y2, fun H' q' r g l e => h _ _ (k H' q' r g l e)⟩
theorem put_node (a b c d : Sq) (x y s : Int) : (Sq.node a b c d).put x y s = if y < 2 ^ a.level then (if x < 2 ^ a.level then .node (a.put x y s) b c d else .node a (b.put (x - 2 ^ a.level) y s) c d)
      else (if x < 2 ^ a.level then .node a b (c.put x (y - 2 ^ a.level) s) d else .node a b c (d.put (x - 2 ^ a.level) (y - 2 ^ a.level) s)) := rfl
end
end JF

/-! ### fields: planted -/
namespace JF
open PySem PySem.Spec PyProof.Rows L2
theorem dec_use {c : TT} {σ : L2.St} {H : Hp} {QB : Bool → Hp → Prop} (b : Bool) (h : ∀ QB : Bool → Hp → Prop, QB b H → c σ H QB) (q : QB b H) : c σ H QB := h _ q
theorem half_two {S : Sq} (h : 1 ≤ S.level) : (2 : Int) ^ S.level = 2 * S.half := by
  have e : S.level = (S.level - 1) + 1 := by omega
  rw [e]; exact Sq.two_succ _
theorem val_put {W : Sq} (w : W.wf) (h : 1 ≤ W.level) {x y s : Int} (hx0 : -W.half ≤ x) (hx1 : x < W.half) (hy0 : -W.half ≤ y) (hy1 : y < W.half) (u v : Int) : (W.put (x + W.half) (y + W.half) s).val u v = if u = x ∧ v = y then s else W.val u v := by
  have e := half_two h
  have eh : (W.put (x + W.half) (y + W.half) s).half = W.half := by unfold Sq.half; rw [Sq.level_put]
  unfold Sq.val
  rw [eh]
  by_cases z : -W.half ≤ u ∧ u < W.half ∧ -W.half ≤ v ∧ v < W.half
  · rw [if_pos z, if_pos z, Sq.get_put w (by omega) (by omega) (by omega) (by omega) (by omega) (by omega) (by omega) (by omega)]
    by_cases y' : u = x ∧ v = y
    · rw [if_pos y', if_pos (by omega)]
    · rw [if_neg y', if_neg (by omega)]
  · rw [if_neg z, if_neg z, if_neg (by omega)]
section
variable {P : Program} {w : World} {K : PySem.W.Frag} {mg : Str → Option Value} {base : Heap}
def sp_planted (C : Addr) : Sp := fun vs H Q _ => ∃ (a : GA) (rows : List (Int × Addr)) (q : List Sq) (n : Nat) (S : Sq) (x y s : Int), vs = [.ref a.g, .int (n : Int), .int x, .int y, .int s] ∧ GAt C H a rows q ∧ q[n]? = some S ∧ 1 ≤ S.level ∧ S.level ≤ 41 ∧ InGround x y ∧ 0 ≤ s ∧ s ≤ 7 ∧
  q.length + 10000 < 16000000 ∧ ∀ H' rows' q' (m : Nat) (T : Sq), GStep C H a rows q H' rows' q' → q'.length ≤ q.length + 4000 → q'[m]? = some T → 1 ≤ T.level → T.level ≤ 41 → T.Least → (∀ u v, T.val u v = if u = x ∧ v = y then s else S.val u v) → Q (.int (m : Int)) H'
theorem mp_planted {C : Addr} : MonP (sp_planted C) := fun vs H Q Q' E h ⟨a, rows, q, n, S, x, y, s, x1, x2, x3, x4, x5, x6, x7, x8, x9, k⟩ => ⟨a, rows, q, n, S, x, y, s, x1, x2, x3, x4, x5, x6, x7, x8, x9, fun H' r' q' m T g l e f1 f2 f3 f4 => h _ _ (k H' r' q' m T g l e f1 f2 f3 f4)⟩
end
end JF

/-! ### fields: field_of -/
namespace JF
open PySem PySem.Spec PyProof.Rows L2
abbrev Cell3 := Int × Int × Int
def c3 (c : Cell3) : List Int := [c.1, c.2.1, c.2.2]
/-- what a list of cells says of a place, the later one of two -/
def layC (f : Int → Int → Int) : List Cell3 → Int → Int → Int
  | [], u, v => f u v
  | c :: cs, u, v => layC (fun u v => if u = c.1 ∧ v = c.2.1 then c.2.2 else f u v) cs u v
theorem layC_snoc : ∀ (cs : List Cell3) (f : Int → Int → Int) (c : Cell3) (u v : Int), layC f (cs ++ [c]) u v = if u = c.1 ∧ v = c.2.1 then c.2.2 else layC f cs u v
  | [], f, c, u, v => rfl
  | x :: cs, f, c, u, v => layC_snoc cs _ c u v
theorem TR.at {H : Hp} : ∀ {rs : List Addr} {xs : List (List Int)} {i : Nat} {x : List Int}, TR H rs xs → xs[i]? = some x → ∃ r, rs[i]? = some r ∧ H r = some (.tup (x.map V.int))
  | [], [], _, _, _, e => by simp at e
  | r :: rs, x :: xs, 0, _, h, e => by
    simp only [List.getElem?_cons_zero, Option.some.injEq] at e
    subst e
    exact ⟨r, rfl, h.1⟩
  | r :: rs, x :: xs, i + 1, _, h, e => by
    simp only [List.getElem?_cons_succ] at e ⊢
    exact TR.at h.2 e
  | [], _ :: _, _, _, h, _ => h.elim
  | _ :: _, [], _, _, h, _ => h.elim
section
variable {P : Program} {w : World} {K : PySem.W.Frag} {mg : Str → Option Value} {base : Heap}
/-- the cells lie in tuples; the list stands beside the grove -/
def sp_field_of (C : Addr) : Sp := fun vs H Q _ => ∃ (a : GA) (rows : List (Int × Addr)) (q : List Sq) (p : Addr) (rs : List Addr) (cs : List Cell3), vs = [.ref a.g, .ref p] ∧ GAt C H a rows q ∧ H p = some (.lst (rs.map V.ref)) ∧ p ∉ a.muts rows ∧ TR H rs (cs.map c3) ∧ (∀ c ∈ cs, InGround c.1 c.2.1 ∧ 0 ≤ c.2.2 ∧ c.2.2 ≤ 7) ∧
  cs.length ≤ 500 ∧ q.length + 4000 * cs.length + 20000 < 16000000 ∧ ∀ H' rows' q' (m : Nat) (T : Sq), GStep C H a rows q H' rows' q' → q'.length ≤ q.length + 4000 * cs.length + 10 → q'[m]? = some T → 1 ≤ T.level → T.level ≤ 41 → T.Least → (∀ u v, T.val u v = layC (fun _ _ => 0) cs u v) → Q (.int (m : Int)) H'
theorem mp_field_of {C : Addr} : MonP (sp_field_of C) := fun vs H Q Q' E h ⟨a, rows, q, p, rs, cs, x1, x2, x3, x4, x5, x6, x7, x8, k⟩ => ⟨a, rows, q, p, rs, cs, x1, x2, x3, x4, x5, x6, x7, x8, fun H' r' q' m T g l e f1 f2 f3 f4 => h _ _ (k H' r' q' m T g l e f1 f2 f3 f4)⟩
end
end JF

/-! ### fields: what is trimmed, the least level -/
namespace JF
open PySem PySem.Spec PyProof.Rows L2
/-! #### the plain law -/
theorem lives_wide {S : Sq} (h : 1 ≤ S.level) : S.wide.lives = S.lives := by
  obtain ⟨a, b, c, d, rfl⟩ := Sq.node_of h
  have e := (even_none a.level).1
  show (_ : Int) = a.lives + b.lives + c.lives + d.lives
  simp only [Sq.wide, Sq.lives, e]
  omega
theorem trim_wide {S : Sq} (w : S.wf) (h : 1 ≤ S.level) : S.wide.trim = S.trim := by
  have hm : S.wide.mid = S := by
    obtain ⟨a, b, c, d, rfl⟩ := Sq.node_of h
    rfl
  have e := Sq.trim_mid (Sq.wf_wide w) (by rw [Sq.level_wide h]; omega) (by rw [hm, lives_wide h]; omega)
  rw [hm] at e
  exact e
theorem lives_of_get : ∀ {S : Sq}, S.wf → (∀ x y, 0 ≤ x → x < 2 ^ S.level → 0 ≤ y → y < 2 ^ S.level → S.get x y = 0) → S.lives = 0
  | .leaf s, _, h => by
    have e : s = 0 := h 0 0 (by decide) (by show (0 : Int) < 1; decide) (by decide) (by show (0 : Int) < 1; decide)
    subst e; rfl
  | .node a b c d, ⟨wa, wb, wc, wd, e1, e2, e3⟩, h => by
    have el : (2 : Int) ^ (Sq.node a b c d).level = 2 * 2 ^ a.level := Sq.two_succ _
    rw [el] at h
    have hp := Sq.two_pos a.level
    have ha := lives_of_get wa fun x y h1 h2 h3 h4 => by
      have z := h x y h1 (by omega) h3 (by omega)
      rw [get_node, if_pos h4, if_pos h2] at z
      exact z
    have hb := lives_of_get wb fun x y h1 h2 h3 h4 => by
      rw [e1] at h2 h4
      have z := h (x + 2 ^ a.level) y (by omega) (by omega) h3 (by omega)
      rw [get_node, if_pos h4, if_neg (by omega), Int.add_sub_cancel] at z
      exact z
    have hc := lives_of_get wc fun x y h1 h2 h3 h4 => by
      rw [e2] at h2 h4
      have z := h x (y + 2 ^ a.level) h1 (by omega) (by omega) (by omega)
      rw [get_node, if_neg (by omega), if_pos h2, Int.add_sub_cancel] at z
      exact z
    have hd := lives_of_get wd fun x y h1 h2 h3 h4 => by
      rw [e3] at h2 h4
      have z := h (x + 2 ^ a.level) (y + 2 ^ a.level) (by omega) (by omega) (by omega) (by omega)
      rw [get_node, if_neg (by omega), if_neg (by omega), Int.add_sub_cancel, Int.add_sub_cancel] at z
      exact z
    show a.lives + b.lives + c.lives + d.lives = 0
    omega
theorem two_le (n : Nat) : ∀ k : Nat, (2 : Int) ^ n ≤ 2 ^ (n + k)
  | 0 => Int.le_refl _
  | k + 1 => by
    have h := two_le n k
    have e : (2 : Int) ^ (n + (k + 1)) = 2 * 2 ^ (n + k) := Sq.two_succ (n + k)
    have p := Sq.two_pos (n + k)
    omega
theorem two_mono {n m : Nat} (h : n ≤ m) : (2 : Int) ^ n ≤ 2 ^ m := by
  have e := two_le n (m - n)
  rwa [Nat.add_sub_cancel' h] at e
def InL (r : Nat) (x y : Int) : Prop := -(2 ^ (r - 1)) ≤ x ∧ x < 2 ^ (r - 1) ∧ -(2 ^ (r - 1)) ≤ y ∧ y < 2 ^ (r - 1)
instance (r : Nat) (x y : Int) : Decidable (InL r x y) := by unfold InL; infer_instance
theorem InL.up {r : Nat} {x y : Int} (h : InL r x y) (h1 : 1 ≤ r) : InL (r + 1) x y := by
  have e : (2 : Int) ^ (r + 1 - 1) = 2 * 2 ^ (r - 1) := by
    have e : r + 1 - 1 = (r - 1) + 1 := by omega
    rw [e]; exact Sq.two_succ _
  have hp := Sq.two_pos (r - 1)
  unfold InL at *
  rw [e]
  omega
theorem InL.mono {r : Nat} {x y : Int} (h : InL r x y) (h1 : 1 ≤ r) : ∀ k, InL (r + k) x y
  | 0 => h
  | k + 1 => (InL.mono h h1 k).up (by omega)
theorem val_in {S : Sq} {x y : Int} (h : S.val x y ≠ 0) : InL S.level x y := by
  apply Decidable.byContradiction
  intro z
  apply h
  unfold Sq.val
  exact if_neg z
theorem least_out {S : Sq} (w : S.wf) (h2 : 2 ≤ S.level) (hl : S.mid.lives < S.lives) : ∃ x y, S.val x y ≠ 0 ∧ ¬ InL (S.level - 1) x y := by
  apply Classical.byContradiction
  intro hn
  have hz : ∀ x y, ¬ InL (S.level - 1) x y → S.val x y = 0 := fun x y z => Classical.byContradiction fun y' => hn ⟨x, y, y', z⟩
  obtain ⟨a1, a2, a3, a4, b1, b2, b3, b4, c1, c2, c3, c4, d1, d2, d3, d4, rfl⟩ := Sq.mid_form w h2
  obtain ⟨wa, wb, wc, wd, e1, e2, e3⟩ := w
  simp only [Sq.wf] at wa wb wc wd
  simp only [Sq.level] at e1 e2 e3
  have lv : (Sq.node (Sq.node a1 a2 a3 a4) (Sq.node b1 b2 b3 b4) (Sq.node c1 c2 c3 c4) (Sq.node d1 d2 d3 d4)).level = a1.level + 1 + 1 := rfl
  have h0 := Sq.two_pos a1.level
  have e2' := Sq.two_succ a1.level
  have hlf : (Sq.node (Sq.node a1 a2 a3 a4) (Sq.node b1 b2 b3 b4) (Sq.node c1 c2 c3 c4) (Sq.node d1 d2 d3 d4)).half = 2 * 2 ^ a1.level := e2'
  have lb : b1.level = a1.level := by omega
  have lc : c1.level = a1.level := by omega
  have ld : d1.level = a1.level := by omega
  -- the cell at an offset
  have key : ∀ X Y : Int, 0 ≤ X → X < 4 * 2 ^ a1.level → 0 ≤ Y → Y < 4 * 2 ^ a1.level → ¬ (2 ^ a1.level ≤ X ∧ X < 3 * 2 ^ a1.level ∧ 2 ^ a1.level ≤ Y ∧ Y < 3 * 2 ^ a1.level) →
      (Sq.node (Sq.node a1 a2 a3 a4) (Sq.node b1 b2 b3 b4) (Sq.node c1 c2 c3 c4) (Sq.node d1 d2 d3 d4)).get X Y = 0 := fun X Y h1 h2 h3 h4 h5 => by
    have z := hz (X - 2 * 2 ^ a1.level) (Y - 2 * 2 ^ a1.level) (by
      unfold InL
      have e : a1.level + 1 + 1 - 1 - 1 = a1.level := by omega
      rw [lv, e]
      omega)
    unfold Sq.val at z
    rw [hlf, if_pos (by omega), Int.sub_add_cancel, Int.sub_add_cancel] at z
    exact z
  simp only [get_node, Sq.level, lb, lc, ld, e2'] at key
  have za1 := lives_of_get wa.1 fun x y p1 p2 p3 p4 => by
    have z := key x y p1 (by omega) p3 (by omega) (by omega)
    rwa [if_pos (by omega), if_pos (by omega), if_pos (by omega), if_pos (by omega)] at z
  have za2 := lives_of_get wa.2.1 fun x y p1 p2 p3 p4 => by
    have l2 : a2.level = a1.level := by omega
    rw [l2] at p2 p4
    have z := key (x + 2 ^ a1.level) y (by omega) (by omega) p3 (by omega) (by omega)
    rwa [if_pos (by omega), if_pos (by omega), if_pos (by omega), if_neg (by omega), Int.add_sub_cancel] at z
  have za3 := lives_of_get wa.2.2.1 fun x y p1 p2 p3 p4 => by
    have l2 : a3.level = a1.level := by omega
    rw [l2] at p2 p4
    have z := key x (y + 2 ^ a1.level) (by omega) (by omega) (by omega) (by omega) (by omega)
    rwa [if_pos (by omega), if_pos (by omega), if_neg (by omega), if_pos (by omega), Int.add_sub_cancel] at z
  have zb1 := lives_of_get wb.1 fun x y p1 p2 p3 p4 => by
    rw [lb] at p2 p4
    have z := key (x + 2 * 2 ^ a1.level) y (by omega) (by omega) p3 (by omega) (by omega)
    rwa [if_pos (by omega), if_neg (by omega), if_pos (by omega), if_pos (by omega), Int.add_sub_cancel] at z
  have zb2 := lives_of_get wb.2.1 fun x y p1 p2 p3 p4 => by
    have l2 : b2.level = a1.level := by omega
    rw [l2] at p2 p4
    have z := key (x + 3 * 2 ^ a1.level) y (by omega) (by omega) p3 (by omega) (by omega)
    rw [if_pos (by omega), if_neg (by omega), if_pos (by omega), if_neg (by omega)] at z
    have e : x + 3 * 2 ^ a1.level - 2 * 2 ^ a1.level - 2 ^ a1.level = x := by omega
    rwa [e] at z
  have zb4 := lives_of_get wb.2.2.2.1 fun x y p1 p2 p3 p4 => by
    have l2 : b4.level = a1.level := by omega
    rw [l2] at p2 p4
    have z := key (x + 3 * 2 ^ a1.level) (y + 2 ^ a1.level) (by omega) (by omega) (by omega) (by omega) (by omega)
    rw [if_pos (by omega), if_neg (by omega), if_neg (by omega), if_neg (by omega), Int.add_sub_cancel] at z
    have e : x + 3 * 2 ^ a1.level - 2 * 2 ^ a1.level - 2 ^ a1.level = x := by omega
    rwa [e] at z
  have zc1 := lives_of_get wc.1 fun x y p1 p2 p3 p4 => by
    rw [lc] at p2 p4
    have z := key x (y + 2 * 2 ^ a1.level) (by omega) (by omega) (by omega) (by omega) (by omega)
    rwa [if_neg (by omega), if_pos (by omega), if_pos (by omega), if_pos (by omega), Int.add_sub_cancel] at z
  have zc3 := lives_of_get wc.2.2.1 fun x y p1 p2 p3 p4 => by
    have l2 : c3.level = a1.level := by omega
    rw [l2] at p2 p4
    have z := key x (y + 3 * 2 ^ a1.level) (by omega) (by omega) (by omega) (by omega) (by omega)
    rw [if_neg (by omega), if_pos (by omega), if_neg (by omega), if_pos (by omega)] at z
    have e : y + 3 * 2 ^ a1.level - 2 * 2 ^ a1.level - 2 ^ a1.level = y := by omega
    rwa [e] at z
  have zc4 := lives_of_get wc.2.2.2.1 fun x y p1 p2 p3 p4 => by
    have l2 : c4.level = a1.level := by omega
    rw [l2] at p2 p4
    have z := key (x + 2 ^ a1.level) (y + 3 * 2 ^ a1.level) (by omega) (by omega) (by omega) (by omega) (by omega)
    rw [if_neg (by omega), if_pos (by omega), if_neg (by omega), if_neg (by omega), Int.add_sub_cancel] at z
    have e : y + 3 * 2 ^ a1.level - 2 * 2 ^ a1.level - 2 ^ a1.level = y := by omega
    rwa [e] at z
  have zd2 := lives_of_get wd.2.1 fun x y p1 p2 p3 p4 => by
    have l2 : d2.level = a1.level := by omega
    rw [l2] at p2 p4
    have z := key (x + 3 * 2 ^ a1.level) (y + 2 * 2 ^ a1.level) (by omega) (by omega) (by omega) (by omega) (by omega)
    rw [if_neg (by omega), if_neg (by omega), if_pos (by omega), if_neg (by omega), Int.add_sub_cancel] at z
    have e : x + 3 * 2 ^ a1.level - 2 * 2 ^ a1.level - 2 ^ a1.level = x := by omega
    rwa [e] at z
  have zd3 := lives_of_get wd.2.2.1 fun x y p1 p2 p3 p4 => by
    have l2 : d3.level = a1.level := by omega
    rw [l2] at p2 p4
    have z := key (x + 2 * 2 ^ a1.level) (y + 3 * 2 ^ a1.level) (by omega) (by omega) (by omega) (by omega) (by omega)
    rw [if_neg (by omega), if_neg (by omega), if_neg (by omega), if_pos (by omega), Int.add_sub_cancel] at z
    have e : y + 3 * 2 ^ a1.level - 2 * 2 ^ a1.level - 2 ^ a1.level = y := by omega
    rwa [e] at z
  have zd4 := lives_of_get wd.2.2.2.1 fun x y p1 p2 p3 p4 => by
    have l2 : d4.level = a1.level := by omega
    rw [l2] at p2 p4
    have z := key (x + 3 * 2 ^ a1.level) (y + 3 * 2 ^ a1.level) (by omega) (by omega) (by omega) (by omega) (by omega)
    rw [if_neg (by omega), if_neg (by omega), if_neg (by omega), if_neg (by omega)] at z
    have e : x + 3 * 2 ^ a1.level - 2 * 2 ^ a1.level - 2 ^ a1.level = x := by omega
    have e' : y + 3 * 2 ^ a1.level - 2 * 2 ^ a1.level - 2 ^ a1.level = y := by omega
    rwa [e, e'] at z
  simp only [Sq.mid, Sq.lives] at hl
  omega
end JF

/-! ### sorted of tuples of whole numbers, all of one length, any number of them -/
namespace JF
open PySem PySem.Spec PyProof.Rows L2
def lexL : List Int → List Int → Bool
  | _, [] => false
  | [], _ :: _ => true
  | x :: r, y :: q => if x = y then lexL r q else decide (x < y)
theorem lexL_cons (x y : Int) (r q : List Int) : lexL (x :: r) (y :: q) = if x = y then lexL r q else decide (x < y) := rfl
theorem lexL_nil : ∀ l : List Int, lexL l [] = false
  | [] => rfl
  | _ :: _ => rfl
theorem lexL_asym : ∀ x y : List Int, lexL x y = true → lexL y x = false
  | _, [], h => by rw [lexL_nil] at h; cases h
  | [], _ :: _, _ => rfl
  | x :: r, y :: q, h => by
    rw [lexL_cons] at h ⊢
    by_cases e : x = y
    · rw [if_pos e] at h; rw [if_pos e.symm]; exact lexL_asym r q h
    · rw [if_neg e, decide_eq_true_eq] at h
      rw [if_neg (fun z => e z.symm), decide_eq_false_iff_not]
      omega
theorem lexL_tr : ∀ x y z : List Int, lexL y x = false → lexL z y = false → lexL z x = false
  | [], _, _, _, _ => lexL_nil _
  | _ :: _, [], _, h, _ => by cases h
  | _ :: _, _ :: _, [], _, h => by cases h
  | x :: r, y :: q, z :: s, h1, h2 => by
    rw [lexL_cons] at h1 h2 ⊢
    by_cases e1 : y = x
    · rw [if_pos e1] at h1
      by_cases e2 : z = y
      · rw [if_pos e2] at h2
        rw [if_pos (e2.trans e1)]
        exact lexL_tr r q s h1 h2
      · rw [if_neg e2] at h2
        rw [if_neg (fun w => e2 (w.trans e1.symm))]
        rw [decide_eq_false_iff_not] at h2 ⊢
        omega
    · rw [if_neg e1, decide_eq_false_iff_not] at h1
      by_cases e2 : z = y
      · rw [if_neg (fun w => e1 (e2.symm.trans w)), decide_eq_false_iff_not]
        omega
      · rw [if_neg e2, decide_eq_false_iff_not] at h2
        rw [if_neg (by omega), decide_eq_false_iff_not]
        omega
theorem lexL_eq : ∀ x y : List Int, lexL x y = false → lexL y x = false → x = y
  | [], [], _, _ => rfl
  | [], _ :: _, h, _ => by cases h
  | _ :: _, [], _, h => by cases h
  | x :: r, y :: q, h1, h2 => by
    rw [lexL_cons] at h1 h2
    by_cases e : x = y
    · rw [if_pos e] at h1; rw [if_pos e.symm] at h2
      rw [e, lexL_eq r q h1 h2]
    · rw [if_neg e, decide_eq_false_iff_not] at h1
      rw [if_neg (fun z => e z.symm), decide_eq_false_iff_not] at h2
      omega
/-- two rows in order with the same members, each once -/
abbrev SrtL (l : List (List Int)) : Prop := l.Pairwise fun x y => lexL y x = false
theorem srtL_eq : ∀ {l m : List (List Int)}, SrtL l → SrtL m → l.Perm m → l = m
  | [], m, _, _, p => by rw [List.nil_perm.mp p]
  | x :: l, m, h1, h2, p => by
    cases m with
    | nil => exact absurd p.symm (by simp)
    | cons y m =>
      have hx := List.pairwise_cons.mp h1
      have hy := List.pairwise_cons.mp h2
      have e : x = y := by
        have mx : x ∈ y :: m := p.mem_iff.mp List.mem_cons_self
        have my : y ∈ x :: l := p.mem_iff.mpr List.mem_cons_self
        rcases List.mem_cons.mp mx with z | z
        · exact z
        rcases List.mem_cons.mp my with w | w
        · exact w.symm
        exact lexL_eq _ _ (hy.1 x z) (hx.1 y w)
      subst e
      rw [srtL_eq hx.2 hy.2 (List.perm_cons x |>.mp p)]
theorem perm_of_mem {α : Type} [DecidableEq α] : ∀ {l m : List α}, l.Nodup → m.Nodup → (∀ x, x ∈ l ↔ x ∈ m) → l.Perm m
  | [], m, _, _, h => by
    cases m with
    | nil => exact List.Perm.refl _
    | cons y m => exact absurd ((h y).mpr List.mem_cons_self) (by simp)
  | x :: l, m, h1, h2, h => by
    have hx : x ∈ m := (h x).mp List.mem_cons_self
    have n1 := List.nodup_cons.mp h1
    refine List.Perm.trans (List.Perm.cons x ?_) (List.perm_cons_erase hx).symm
    refine perm_of_mem n1.2 (h2.erase x) fun y => ?_
    rw [h2.mem_erase_iff]
    constructor
    · intro hy
      exact ⟨fun e => n1.1 (e ▸ hy), (h y).mp (List.mem_cons_of_mem _ hy)⟩
    · rintro ⟨ne, hy⟩
      exact (List.mem_cons.mp ((h y).mpr hy)).resolve_left ne
section
variable {prog : Program} {w : World} {A : Around} {E : Value → Shared → Prop} {s : Shared} {Q : Bool → Shared → Prop}
theorem kat_intsL {b : Bool} {xs ys : List Value} {ns ms : List Int} (i : Nat) (hx : IntsAre xs ns) (hy : IntsAre ys ms) (hl : ns.length = ms.length) (h : Q (lexL ns ms) s) : PySem.W.KatLex prog w A b false Q (xs.zip ys) i s := by
  induction hx generalizing ys ms i with
  | nil =>
    cases hy with
    | nil => exact PySem.W.kat_nil h
    | cons q u hy => simp at hl
  | @cons p t xs ns hx ih =>
    cases hy with
    | nil => simp at hl
    | @cons q u ys ms hy =>
      have hl' : ns.length = ms.length := by simpa using hl
      refine PySem.W.kat_cons (wpAny_eqBool_int ?_)
      rw [lexL_cons] at h
      by_cases e : p = q
      · subst e
        rw [if_pos rfl] at h
        rw [beq_self_eq_true]
        exact PySem.W.kat_yes (ih (i + 1) hy hl' h)
      · rw [if_neg e] at h
        rw [show (p == q) = false from beq_eq_false_iff_ne.mpr e]
        exact PySem.W.kat_no (TS.oneLt_ints _ h)
theorem firstsL {h : Heap} : ∀ vs : List Value, (∀ v ∈ vs, ∃ ns : List Int, TS.TupInts h v ns ∧ 1 ≤ ns.length) → ∃ fs, PySem.W.KatTups h vs fs ∧ fs.length = vs.length ∧ ∀ f ∈ fs, ∃ n t, f = Value.int n t
  | [], _ => ⟨[], PySem.W.KatTups.nil, rfl, fun f hf => by cases hf⟩
  | v :: vs, x => by
    obtain ⟨fs, k, hl, hi⟩ := firstsL vs fun u hu => x u (List.mem_cons_of_mem _ hu)
    obtain ⟨ns, ⟨a, xs, rfl, ⟨o, ho, hc, n, hdt⟩, i⟩, hn⟩ := x v List.mem_cons_self
    cases q : xs.toList with
    | nil =>
      rw [q] at i
      have l := i.length
      rw [List.length_nil] at l
      omega
    | cons y ys =>
      obtain ⟨m, t, hy⟩ := i.all y (by rw [q]; exact List.mem_cons_self)
      refine ⟨y :: fs, PySem.W.KatTups.cons ho hc hdt ?_ k, by rw [List.length_cons, List.length_cons, hl], fun f hf => ?_⟩
      · have z := congrArg (fun l : List Value => l[0]?) q
        simpa using z
      · rcases List.mem_cons.mp hf with e | hf
        · exact ⟨m, t, e.trans hy⟩
        · exact hi f hf
end
section
variable {prog : Program} {w : World} {A : Around} {E : Value → Shared → Prop} {s : Shared}
open SrtO Srt PySem.W
theorem swo_L (k : Value → List Int) : Swo fun v u => lexL (k v) (k u) := ⟨fun x y h => lexL_asym _ _ h, fun x y z h1 h2 => lexL_tr _ _ _ h1 h2⟩
theorem cmp_L {vs : List Value} {k : Value → List Int} {d : Nat} (hp : ∀ v ∈ vs, TS.TupInts s.heap v (k v) ∧ (k v).length = d) : Cmp prog w A s (tuples' true) (fun p => p.1 ∈ vs) (lt2 fun v u => lexL (k v) (k u)) := by
  intro p q hm hm'
  obtain ⟨⟨a, xs, e1, ⟨o, ho, hc, n, hdt⟩, i⟩, l1⟩ := hp _ hm
  obtain ⟨⟨a', ys, e2, ⟨o', ho', hc', n', hdt'⟩, i'⟩, l2⟩ := hp _ hm'
  show wpAny _ _ (keyLt' (tuples' true) p.1 q.1) (fun r s' => s' = s ∧ r = lexL (k p.1) (k q.1)) _ s
  generalize hk1 : k p.1 = ns at *
  generalize hk2 : k q.1 = ms at *
  rw [e1, e2]
  refine PySem.W.kat_lt ho hdt ho' hdt' ?_
  have sz : decide (xs.size < ys.size) = false := by
    have z1 := i.length
    have z2 := i'.length
    rw [Array.length_toList] at z1 z2
    exact decide_eq_false (by omega)
  rw [sz]
  exact kat_intsL 0 i i' (by omega) ⟨rfl, rfl⟩
theorem sortable_L {a : Addr} {vs : List Value} {k : Value → List Int} {d : Nat} (hd : 1 ≤ d) (h0 : 0 < vs.length) (hp : ∀ v ∈ vs, TS.TupInts s.heap v (k v) ∧ (k v).length = d) (ha : ∀ o, s.heap.get? a = some o → o.cls ≠ .type "tuple") : SortableO prog w A s a vs fun v u => lexL (k v) (k u) := by
  intro h' keep
  have hp' : ∀ v ∈ vs, TS.TupInts h' v (k v) ∧ (k v).length = d := fun v hm => ⟨(hp v hm).1.keeps fun b o e c => keep b o (fun z => ha o (z ▸ e) c) e, (hp v hm).2⟩
  obtain ⟨fs, h1, h2, h3⟩ := firstsL vs fun v hm => ⟨_, (hp' v hm).1, by rw [(hp' v hm).2]; exact hd⟩
  refine ⟨tuples' true, fun Q E hq => ?_, cmp_L (s := { s with heap := h' }) hp'⟩
  refine PySem.W.kat_kind (T := .type "int") h1 (by omega) (fun f hm => ?_) (by rfl) ?_
  · obtain ⟨x, t, rfl⟩ := h3 f hm
    exact PySem.W.Looks.now
  · have ne : (Value.type "int" != Value.type "tuple") = true := by first | rfl | decide +kernel
    rw [ne]
    exact hq
end
section
variable {X : Cx}
def rSortTL (K : PySem.W.Frag) : List V → Hp → VK → Prop := fun vs H Q => ∃ (a : Addr) (rs : List Addr) (xs : List (List Int)) (d : Nat), vs = [V.ref a] ∧ SqL K H a (rs.map V.ref) ∧ TR H rs xs ∧ 1 ≤ d ∧ (∀ x ∈ xs, x.length = d) ∧
  ∀ (rs' : List Addr) (ys : List (List Int)) (p : Addr), ys.Perm xs → SrtL ys → TR H rs' ys → H p = none → Q (.ref p) (upd H p (.lst (rs'.map V.ref)))
theorem TR.of_list {H : Hp} (k : V → List Int) : ∀ (rs : List Addr), (∀ r ∈ rs, H r = some (.tup ((k (.ref r)).map V.int))) → TR H rs (rs.map fun r => k (.ref r))
  | [], _ => trivial
  | r :: rs, h => ⟨h r List.mem_cons_self, TR.of_list k rs fun r' m => h r' (List.mem_cons_of_mem _ m)⟩
theorem tr_eq {H : Hp} (k : V → List Int) : ∀ {rs : List Addr} {xs : List (List Int)}, TR H rs xs → (∀ r x, H r = some (.tup (x.map V.int)) → k (.ref r) = x) → xs = rs.map fun r => k (.ref r)
  | [], [], _, _ => rfl
  | r :: rs, x :: xs, h, hk => by
    rw [List.map_cons, ← tr_eq k h.2 hk, hk r x h.1]
  | [], _ :: _, h, _ => h.elim
  | _ :: _, [], h, _ => h.elim
open SrtO in
theorem cr_sortTL : CallR X (.builtin "sorted") (rSortTL X.K) := by
  intro pins s σ H vs us Q I r h
  obtain ⟨a, rs, xs, d, rfl, hs, hT, hd, hlen, q⟩ := h
  obtain ⟨its, rv, hl, hz⟩ := I.list hs
  rw [Vals.ref1 r]
  obtain ⟨e1, e2⟩ := refs_back rv fun x m => by
    obtain ⟨t, _, e⟩ := List.mem_map.mp m
    exact ⟨t, e.symm⟩
  let k : V → List Int := fun v => TS.intsOf s.heap (match v with | .ref t => .ref t | _ => .none)
  have tup : ∀ t (x : List Int), H t = some (.tup (x.map V.int)) → TS.TupInts s.heap (.ref t) x := fun t x ht => by
    obtain ⟨_, its2, r2, o, ho, hc, n, hdt⟩ := I.hok _ _ ht
    exact ⟨t, _, rfl, ⟨o, ho, hc, n, hdt⟩, Vals.ints r2⟩
  have hk : ∀ t (x : List Int), H t = some (.tup (x.map V.int)) → k (.ref t) = x := fun t x ht => (tup t x ht).ints
  have mem : ∀ t, V.ref t ∈ rs.map V.ref → ∃ x : List Int, x.length = d ∧ H t = some (.tup (x.map V.int)) := fun t m => by
    obtain ⟨t', m', e⟩ := List.mem_map.mp m
    cases e
    obtain ⟨i, hi, ei⟩ := List.getElem_of_mem m'
    obtain ⟨x, hx, ht⟩ := hT.get (i := i) (by rw [List.getElem?_eq_getElem hi, ei])
    exact ⟨x, hlen x (List.mem_of_getElem? hx), ht⟩
  have val : ∀ v ∈ its, ∃ (t : Addr) (x : List Int), v = Value.ref t ∧ t ∈ rs ∧ x.length = d ∧ H t = some (.tup (x.map V.int)) := fun v hv => by
    obtain ⟨t, rfl⟩ := e2 v hv
    have hm : V.ref t ∈ rs.map V.ref := by rw [e1]; exact List.mem_map.mpr ⟨_, hv, rfl⟩
    obtain ⟨x, h1, h2⟩ := mem t hm
    refine ⟨t, x, rfl, ?_, h1, h2⟩
    obtain ⟨t', m', e⟩ := List.mem_map.mp hm
    cases e
    exact m'
  refine sorted_ord (swo_L fun u => k (backV u)) hl.isList (by rw [← rv.length]; exact hz) (fun h2 h₁ b hb kk => ?_) fun out hs' hb => ?_
  · refine sortable_L (s := { s with heap := h₁ }) hd (by omega) (fun v hv => ?_) fun o e => ?_
    · obtain ⟨t, x, rfl, _, hx, ht⟩ := val v hv
      have ek : k (backV (.ref t)) = x := hk t x ht
      show TS.TupInts h₁ (.ref t) (k (backV (.ref t))) ∧ (k (backV (.ref t))).length = d
      rw [ek]
      exact ⟨(tup t x ht).keeps fun b o e _ => (kk b o e).2, hx⟩
    · have e' := e.symm.trans hb
      cases e'
      intro c
      exact absurd (Value.type.inj c) (by decide)
  · have h3 : ∀ u ∈ out, ∃ a, u = Value.ref a := fun u hu => by
      obtain ⟨t, x, e, _⟩ := val u (hb.perm.mem_iff.mp hu)
      exact ⟨t, e⟩
    obtain ⟨n, hn⟩ := sortedAll_at s.heap its out.toArray
    let rs' : List Addr := out.map fun u => match u with | .ref t => t | _ => 0
    have er : out.map backV = rs'.map V.ref := by
      rw [List.map_map]
      refine List.map_congr_left fun u hu => ?_
      obtain ⟨t, e⟩ := h3 u hu
      rw [e]
      rfl
    have tr : ∀ t ∈ rs', H t = some (.tup ((k (.ref t)).map V.int)) := fun t ht => by
      obtain ⟨u, hu, e⟩ := List.mem_map.mp ht
      obtain ⟨t', x, rfl, _, _, h5⟩ := val u (hb.perm.mem_iff.mp hu)
      have e' : t' = t := e
      subst e'
      rw [hk t' x h5]
      exact h5
    have ei : its.map (fun u => match u with | .ref t => t | _ => 0) = rs := by
      have z : (its.map backV).map (fun v => match v with | V.ref t => t | _ => 0) = (rs.map V.ref).map (fun v => match v with | V.ref t => t | _ => 0) := by rw [e1]
      rw [List.map_map, List.map_map] at z
      have z2 : rs.map ((fun v => match v with | V.ref t => t | _ => 0) ∘ V.ref) = rs := List.map_id rs
      rw [z2] at z
      rw [← z]
      refine List.map_congr_left fun u hu => ?_
      obtain ⟨t, _, e, _⟩ := val u hu
      rw [e]
      rfl
    have pm : (rs'.map fun r => k (.ref r)).Perm xs := by
      rw [tr_eq k hT fun r x h => hk r x h, ← ei]
      exact (hb.perm.map _).map _
    have sr : SrtL (rs'.map fun r => k (.ref r)) := by
      have z := hs'
      have e5 : (rs'.map fun r => k (.ref r)) = out.map fun u => k (backV u) := by
        rw [List.map_map]
        refine List.map_congr_left fun u hu => ?_
        obtain ⟨t, e⟩ := h3 u hu
        rw [e]
        rfl
      rw [e5]
      exact List.pairwise_map.mpr z
    have hsz : s.heap.objs.size ≤ s.heap.objs.size + 1 := Nat.le_succ _
    refine ⟨.ref (s.heap.objs.size + 1), upd H (s.heap.objs.size + 1) (.lst (rs'.map V.ref)), I.laid (t' := s.toks) (fun b o e => sortedAll_old e) hsz ⟨?_, out, n, ?_, hn⟩, rfl, q rs' _ _ pm sr (TR.of_list k rs' tr) (I.hok.fresh hsz)⟩
    · rw [List.length_map, List.length_map, hb.perm.length_eq, ← rv.length]
      exact hz
    · rw [← er]
      exact vals_back h3
theorem cr_sortTLK (K : PySem.W.Frag) (hK : X.K = K) : CallR X (.builtin "sorted") (rSortTL K) := by subst hK; exact cr_sortTL
end
end JF

/-! ### enumerate of a tuple -/
namespace JF
open PySem PySem.Spec PyProof.Rows L2
open AutoSeq1 in
theorem meets_enum_newT (l : Addr) (items : Array Value) (n : Nat) (dct : Option Addr) (sl : Array (Option Value)) :
    Meets (Builtin.«enumerate.__new__» ⟨[.type "enumerate", .ref l], []⟩) (fun _ R s => s.heap.get? l = some { cls := .type "tuple", dict := dct, data := .seq items n, slots := sl } ∧
      R (.ok (.ret (.ref (s.heap.push { cls := .type "tuple_iterator", data := .fields #[.ref l, .int 0 0] }).objs.size)))
        { s with heap := (s.heap.push { cls := .type "tuple_iterator", data := .fields #[.ref l, .int 0 0] }).push { cls := .type "enumerate", data := .fields #[.none, .bool false, .ref s.heap.objs.size, rawInt 0, .none, .none] } }) :=
  .of_wp fun prog w A R s h => by
    obtain ⟨hp, g, d, tk, os⟩ := s
    obtain ⟨hl, h⟩ := h
    have hsub := sub_enumerate
    have hT : Heap.IsTuple (Shared.heap ⟨hp, g, d, tk, os⟩) l items := ⟨_, hl, rfl, n, rfl⟩
    wp_walk using wpAny_loadPart' hl
    refine wpAny_stack_any fun st => wpAny_pure ?_
    split
    · rename_i c _ _ _ _ _
      cases (c == Value.type "enumerate")
      all_goals
        wp_walk using wpAny_loadPart' hl, wpAny_pyIter_tuple hT
        exact ⟨_, rfl, h⟩
    · wp_walk using wpAny_loadPart' hl, wpAny_pyIter_tuple hT
      exact ⟨_, rfl, h⟩
theorem call_enumT {prog : Program} {w : World} {A : Around} {E : Value → Shared → Prop} {s : Shared} {l : Addr} {items : Array Value} {Q : Value → Shared → Prop} (hT : s.heap.IsTuple l items)
    (h : ∀ h', IsEnum h' (s.heap.objs.size + 1) s.heap.objs.size 0 .none → h'.IsTupleIter s.heap.objs.size l 0 → (∀ b o, s.heap.get? b = some o → h'.get? b = some o) → Q (.ref (s.heap.objs.size + 1)) { s with heap := h' }) :
    wpAny (model prog w) A (call (.type "enumerate") [.ref l]) Q E s := by
  obtain ⟨⟨c, dct, dt, sl⟩, hl, hc, n, hd⟩ := hT
  replace hc : c = .type "tuple" := hc
  replace hd : dt = .seq items n := hd
  subst hc hd
  refine callType_new F.called_enumerate (by decide) (F.typeCall_enumerate_1 _) (F.newCall_enumerate_1 _) (fun obj => F.args_object_init_2 obj _) F.entry_enumerate_new (meets_enum_newT l items n dct sl) ⟨hl, ?_⟩
  generalize hg : s.heap.push { cls := .type "tuple_iterator", data := .fields #[.ref l, .int 0 0] } = g1
  have hz : g1.objs.size = s.heap.objs.size + 1 := by rw [← hg]; exact Heap.size_push ..
  have g0 : g1.get? s.heap.objs.size = some { cls := .type "tuple_iterator", data := .fields #[.ref l, .int 0 0] } := by rw [← hg]; exact Heap.get?_push_size _ rfl
  have gk : ∀ b o, s.heap.get? b = some o → g1.get? b = some o := fun b o x => by rw [← hg]; exact Heap.get?_push_of_some _ x
  rw [hz]
  have he : IsEnum (g1.push { cls := .type "enumerate", data := .fields #[.none, .bool false, .ref s.heap.objs.size, rawInt 0, .none, .none] }) (s.heap.objs.size + 1) s.heap.objs.size 0 .none := by
    have z := Heap.get?_push_size g1 (o := { cls := .type "enumerate", data := .fields #[.none, .bool false, .ref s.heap.objs.size, rawInt 0, .none, .none] }) rfl
    rw [hz] at z; exact z
  exact ⟨⟨_, he, rfl⟩, h _ he ⟨_, Heap.get?_push_of_some _ g0, rfl, rfl⟩ fun b o x => Heap.get?_push_of_some _ (gk b o x)⟩
def ItET (a : Addr) : It :=
  ⟨fun i H => ∃ (xs : List V) (x : V), H a = some (.tup xs) ∧ xs[i]? = some x, fun i H v H' => ∃ T x, v = .ref T ∧ H T = none ∧ H' = upd H T (.tup [.int (i : Nat), x]) ∧ ∀ xs, H a = some (.tup xs) → xs[i]? = some x, fun i H => ∃ xs : List V, H a = some (.tup xs) ∧ i = xs.length⟩
theorem turn_enumT {P : Program} {w : World} {K : PySem.W.Frag} {elts : List Expr} {kk : Nat} {tpos : Pos} (a e it : Addr) (hne : e ≠ it) :
    Turn P w K (.Tuple elts kk tpos) (ItET a) [e, it] e (fun i h => (∃ old, IsEnum h e it ((i : Nat) : Int) old) ∧ h.IsTupleIter it a i) where
  mem := by simp
  obj := fun i h st b hb => by
    obtain ⟨⟨old, he⟩, o, ho, hc, hd⟩ := st
    have two : b = e ∨ b = it := by simpa using hb
    rcases two with rfl | rfl
    · exact ⟨_, he, fun v q => nomatch q⟩
    · exact ⟨o, ho, fun v q => by rw [hd] at q; cases q⟩
  keep := fun i h h' st k => by
    obtain ⟨⟨old, he⟩, o, ho, hc, hd⟩ := st
    exact ⟨⟨old, k e (by simp) _ he⟩, o, k it (by simp) _ ho, hc, hd⟩
  item := by
    intro X eP ew eK hc i pins s σ H E I hf st hg
    subst eP ew eK
    obtain ⟨⟨old, he⟩, hit⟩ := st
    obtain ⟨xs, x, hq, hx⟩ := hg
    obtain ⟨hz, its, rv, ht⟩ := (show ObjOk X.prog X.w H s.heap a (.tup xs) from I.hok a _ hq)
    have htu : s.heap.IsTuple a its.toArray := ht
    obtain ⟨u, hu, ru⟩ := rv.get hx
    have el := Heap.lt_size he
    have il : it < s.heap.objs.size := by obtain ⟨_, q, _⟩ := hit; exact Heap.lt_size q
    have eN : e ≠ a := fun z => by
      have n1 := (hf e (by simp)).1
      rw [z, hq] at n1; cases n1
    have iN : it ≠ a := fun z => by
      have n1 := (hf it (by simp)).1
      rw [z, hq] at n1; cases n1
    have ilt : i < its.toArray.size := by
      have := (List.getElem?_eq_some_iff.mp hu).1
      simpa using this
    refine wpAny_pyNext_enum_itemD (Draws.tuple (prog := X.prog) (w := X.w) (A := X.A.in1) (show X.A.in1.handled = none from I.ok.hd hc) it a iN.symm its.toArray) he ⟨hit, htu⟩ ilt hne (by simp [hne, eN]) fun v g tk m ho hit2 hT hsz hk => ?_
    have ev : v = u := by
      have m' : its.toArray[i]? = some v := m
      rw [List.getElem?_toArray, hu] at m'
      exact (Option.some.inj m').symm
    subst ev
    refine ⟨_, rfl, wpAny_letOwnedTupleGo_enum (s := { s with heap := g, toks := tk + 1 }) ho fun g2 he2 sb => ?_⟩
    have hT2 : g2.get? s.heap.objs.size = some { cls := .type "tuple", data := .seq #[.int i tk, v] } := (sb.2 _ (Nat.ne_of_gt el)).trans hT
    have hob : ObjOk X.prog X.w (upd H s.heap.objs.size (.tup [.int (i : Nat), x])) g2 s.heap.objs.size (.tup [.int (i : Nat), x]) :=
      ⟨by show 2 ≤ sizeLine; decide, [.int i tk, v], .cons ⟨_, rfl⟩ (.cons ru .nil), _, hT2, rfl, _, rfl⟩
    have kk : ∀ b o, b ∉ [e, it] → s.heap.get? b = some o → g2.get? b = some o := fun b o hb q => by
      simp only [List.mem_cons, List.not_mem_nil, or_false, not_or] at hb
      exact (sb.2 b hb.1).trans (hk b o hb.1 hb.2 q)
    refine ⟨.ref s.heap.objs.size, _, I.turnedNew (t' := tk + 1) kk hf (Nat.le_refl _) hob, rfl, ⟨_, x, rfl, I.hok.fresh (Nat.le_refl _), rfl, fun ys hy => ?_⟩, ⟨⟨v, ?_⟩, ?_⟩, fun b hb => ?_⟩
    · rw [hq] at hy; cases hy; exact hx
    · have q : ((i + 1 : Nat) : Int) = (i : Int) + 1 := by omega
      rw [q]; exact he2
    · obtain ⟨o, q, r⟩ := hit2.1
      exact ⟨o, (sb.2 it (Ne.symm hne)).trans q, r⟩
    · have lt : b < s.heap.objs.size := by
        have two : b = e ∨ b = it := by simpa using hb
        rcases two with rfl | rfl
        · exact el
        · exact il
      rw [upd_ne (Nat.ne_of_lt lt)]
      exact (hf b hb).1
  done := by
    intro X eP ew eK hc i pins s σ H E I hf st hg
    subst eP ew eK
    obtain ⟨⟨old, he⟩, hit⟩ := st
    obtain ⟨xs, hq, rfl⟩ := hg
    obtain ⟨hz, its, rv, ht⟩ := (show ObjOk X.prog X.w H s.heap a (.tup xs) from I.hok a _ hq)
    have htu : s.heap.IsTuple a its.toArray := ht
    obtain ⟨c0, c1, c2, c3, c4, c5⟩ := hf it (by simp)
    have iN : it ≠ a := fun z => by rw [z, hq] at c0; cases c0
    have es : its.toArray.size = xs.length := by rw [List.size_toArray, rv.length]
    refine wpAny_pyNext_enum_endD (Draws.tuple (prog := X.prog) (w := X.w) (A := X.A.in1) (show X.A.in1.handled = none from I.ok.hd hc) it a iN.symm its.toArray) he ?_ fun g eb => ⟨rfl, I.turned (t' := s.toks) (fun b o hb q => eb b o hb q) c0 c1 c3 c4 c5⟩
    rw [es]
    exact ⟨hit, htu⟩
  self := fun A i s Q E sg => let ⟨⟨_, he⟩, _⟩ := sg; wpAny_pyIter_enum he
def iEnumT (ta : TA) : TI := fun σ H R => ta σ H fun vs H1 => ∃ a xs, vs = [.ref a] ∧ H1 a = some (.tup xs) ∧ R (ItET a) H1
theorem pi_enumT {X : Cx} {e : Expr} {ta : TA} {p pos tpos : Pos} {elts : List Expr} {kk : Nat} (hg : Gl X "enumerate") (hm : X.mg "enumerate" = none) (ha : PA X [e] ta) (hs : starEach [e] X.env = [(false, eval e X.env)] := by rfl) :
    PI X (.Tuple elts kk tpos) (.Call (.Name "enumerate" p) [e] [] pos) (iEnumT ta) := by
  refine ⟨fun pins s σ H R I hh => ?_⟩
  refine Call_ (ld_blt I hg hm boot_enumerate (PyProof.Rows.callWith_type1 (thn (ha.run pos pins s σ H _ I hh) fun _ s1 ⟨_, H1, I1, r1, q1⟩ => ?_) hs rfl))
  obtain ⟨a, xs, rfl, hq, q⟩ := q1
  obtain rfl := Vals.ref1 r1
  obtain ⟨hz, its, rv, ht⟩ := (show ObjOk X.prog X.w H1 s1.heap a (.tup xs) from I1.hok a _ hq)
  have htu : s1.heap.IsTuple a its.toArray := ht
  refine call_enumT htu fun g he hit hk => wpAny_pyIter_enum he ?_
  have I2 : Inv X pins σ H1 { s1 with heap := g } := I1.kept (t' := s1.toks) hk
  refine ⟨s1.heap.objs.size + 1, [s1.heap.objs.size + 1, s1.heap.objs.size], _, _, H1, rfl, I2, turn_enumT a (s1.heap.objs.size + 1) s1.heap.objs.size (Nat.succ_ne_self _), ⟨⟨.none, he⟩, hit⟩, fun b hb => ?_, q⟩
  have le : s1.heap.objs.size ≤ b := by
    simp only [List.mem_cons, List.not_mem_nil, or_false] at hb
    rcases hb with rfl | rfl
    · exact Nat.le_add_right _ _
    · exact Nat.le_refl _
  exact I1.fpOk le (I1.hok.fresh le)
theorem walk_enumT {a : Addr} {xs : List V} : Walk (ItET a) xs.length (fun H => H a = some (.tup xs)) (YPair (fun i => some (.int (i : Nat))) (fun i => xs[i]?)) :=
  ⟨fun i H hi h => ⟨xs, _, h, List.getElem?_eq_getElem hi⟩, fun H h => ⟨xs, h, rfl⟩, fun i H x H' hi h ⟨T, y, e, hT, eH, f⟩ => ⟨T, _, y, e, hT, eH, rfl, f xs h⟩⟩
theorem rd_iET {σ : L2.St} {H : Hp} {tr : TA} {R : It → Hp → Prop} (h : tr σ H fun vs H1 => ∃ a xs, vs = [.ref a] ∧ H1 a = some (.tup xs) ∧ R (ItET a) H1) : iEnumT tr σ H R := h
end JF

/-! ### fields walked down by quarters -/
namespace JF
open PySem PySem.Spec PyProof.Rows L2
/-! #### the plain law -/
/-- the living cells of a square whose upper left cell lies at a place -/
def wi : Sq → Int → Int → List (List Int)
  | .leaf s, x, y => if s = 0 then [] else [[y, x, s]]
  | .node a b c d, x, y => wi a x y ++ wi b (x + 2 ^ a.level) y ++ wi c x (y + 2 ^ a.level) ++ wi d (x + 2 ^ a.level) (y + 2 ^ a.level)
theorem wi_len : ∀ (S : Sq) (x y : Int), ((wi S x y).length : Int) = S.lives
  | .leaf s, x, y => by
    show ((if s = 0 then [] else [[y, x, s]] : List (List Int)).length : Int) = if s = 0 then 0 else 1
    split <;> rfl
  | .node a b c d, x, y => by
    have ha := wi_len a x y; have hb := wi_len b (x + 2 ^ a.level) y; have hc := wi_len c x (y + 2 ^ a.level); have hd := wi_len d (x + 2 ^ a.level) (y + 2 ^ a.level)
    show ((wi a x y ++ wi b (x + 2 ^ a.level) y ++ wi c x (y + 2 ^ a.level) ++ wi d (x + 2 ^ a.level) (y + 2 ^ a.level)).length : Int) = a.lives + b.lives + c.lives + d.lives
    rw [List.length_append, List.length_append, List.length_append]
    omega
theorem wi_none {S : Sq} (h : S.lives = 0) (x y : Int) : wi S x y = [] := by
  have e := wi_len S x y
  rw [h] at e
  exact List.length_eq_zero_iff.mp (by omega)
theorem get_nodeW {A B C D : Sq} (w : (Sq.node A B C D).wf) {x y : Int} (x0 : 0 ≤ x) (x1 : x < 2 ^ A.level) (y0 : 0 ≤ y) (y1 : y < 2 ^ A.level) :
    (Sq.node A B C D).get x y = A.get x y ∧ (Sq.node A B C D).get (x + 2 ^ A.level) y = B.get x y ∧ (Sq.node A B C D).get x (y + 2 ^ A.level) = C.get x y ∧ (Sq.node A B C D).get (x + 2 ^ A.level) (y + 2 ^ A.level) = D.get x y := by
  obtain ⟨h, e⟩ : ∃ h : Int, h = 2 ^ A.level := ⟨_, rfl⟩
  have eq : ∀ u v : Int, (Sq.node A B C D).get u v = (if v < h then (if u < h then A.get u v else B.get (u - h) v) else (if u < h then C.get u (v - h) else D.get (u - h) (v - h))) := fun u v => by rw [e]; rfl
  rw [← e] at x1 y1 ⊢
  have e1 : x + h - h = x := by omega
  have e2 : y + h - h = y := by omega
  refine ⟨?_, ?_, ?_, ?_⟩
  · rw [eq, if_pos y1, if_pos x1]
  · rw [eq, if_pos y1, if_neg (by omega), e1]
  · rw [eq, if_neg (by omega), if_pos x1, e2]
  · rw [eq, if_neg (by omega), if_neg (by omega), e1, e2]
theorem mem_wi : ∀ {S : Sq}, S.wf → ∀ (x y : Int) (t : List Int), t ∈ wi S x y ↔ ∃ i j : Int, 0 ≤ i ∧ i < 2 ^ S.level ∧ 0 ≤ j ∧ j < 2 ^ S.level ∧ S.get i j ≠ 0 ∧ t = [y + j, x + i, S.get i j]
  | .leaf s, _, x, y, t => by
    show t ∈ (if s = 0 then [] else [[y, x, s]] : List (List Int)) ↔ ∃ i j : Int, 0 ≤ i ∧ i < 1 ∧ 0 ≤ j ∧ j < 1 ∧ s ≠ 0 ∧ t = [y + j, x + i, s]
    constructor
    · intro h
      by_cases z : s = 0
      · rw [if_pos z] at h; cases h
      · rw [if_neg z, List.mem_singleton] at h
        exact ⟨0, 0, by decide, by decide, by decide, by decide, z, by rw [h, Int.add_zero, Int.add_zero]⟩
    · rintro ⟨i, j, i0, i1, j0, j1, z, rfl⟩
      obtain rfl : i = 0 := by omega
      obtain rfl : j = 0 := by omega
      rw [if_neg z, Int.add_zero, Int.add_zero]
      exact List.mem_singleton.mpr rfl
  | .node a b c d, w, x, y, t => by
    obtain ⟨wa, wb, wc, wd, e1, e2, e3⟩ := id w
    have ia := mem_wi wa x y t
    have ib := mem_wi wb (x + 2 ^ a.level) y t
    have ic := mem_wi wc x (y + 2 ^ a.level) t
    have id' := mem_wi wd (x + 2 ^ a.level) (y + 2 ^ a.level) t
    rw [e1] at ib; rw [e2] at ic; rw [e3] at id'
    have el : (2 : Int) ^ (Sq.node a b c d).level = 2 * 2 ^ a.level := Sq.two_succ _
    have hp := Sq.two_pos a.level
    have g := fun {u v : Int} (u0 : 0 ≤ u) (u1 : u < 2 ^ a.level) (v0 : 0 ≤ v) (v1 : v < 2 ^ a.level) => get_nodeW w u0 u1 v0 v1
    rw [el]
    show t ∈ wi a x y ++ wi b (x + 2 ^ a.level) y ++ wi c x (y + 2 ^ a.level) ++ wi d (x + 2 ^ a.level) (y + 2 ^ a.level) ↔ _
    rw [List.mem_append, List.mem_append, List.mem_append, ia, ib, ic, id']
    generalize (2 : Int) ^ a.level = h at *
    constructor
    · rintro (((⟨i, j, i0, i1, j0, j1, z, rfl⟩ | ⟨i, j, i0, i1, j0, j1, z, rfl⟩) | ⟨i, j, i0, i1, j0, j1, z, rfl⟩) | ⟨i, j, i0, i1, j0, j1, z, rfl⟩)
      · refine ⟨i, j, i0, by omega, j0, by omega, ?_, ?_⟩
        · rw [(g i0 i1 j0 j1).1]; exact z
        · rw [(g i0 i1 j0 j1).1]
      · refine ⟨i + h, j, by omega, by omega, j0, by omega, ?_, ?_⟩
        · rw [(g i0 i1 j0 j1).2.1]; exact z
        · rw [(g i0 i1 j0 j1).2.1, show x + h + i = x + (i + h) by omega]
      · refine ⟨i, j + h, i0, by omega, by omega, by omega, ?_, ?_⟩
        · rw [(g i0 i1 j0 j1).2.2.1]; exact z
        · rw [(g i0 i1 j0 j1).2.2.1, show y + h + j = y + (j + h) by omega]
      · refine ⟨i + h, j + h, by omega, by omega, by omega, by omega, ?_, ?_⟩
        · rw [(g i0 i1 j0 j1).2.2.2]; exact z
        · rw [(g i0 i1 j0 j1).2.2.2, show y + h + j = y + (j + h) by omega, show x + h + i = x + (i + h) by omega]
    · rintro ⟨i, j, i0, i1, j0, j1, z, rfl⟩
      by_cases ci : i < h <;> by_cases cj : j < h
      · rw [(g i0 ci j0 cj).1] at z ⊢
        exact .inl (.inl (.inl ⟨i, j, i0, ci, j0, cj, z, rfl⟩))
      · have q := (g i0 ci (show 0 ≤ j - h by omega) (by omega)).2.2.1
        rw [Int.sub_add_cancel] at q
        rw [q] at z ⊢
        exact .inl (.inr ⟨i, j - h, i0, ci, by omega, by omega, z, by rw [show y + h + (j - h) = y + j by omega]⟩)
      · have q := (g (show 0 ≤ i - h by omega) (by omega) j0 cj).2.1
        rw [Int.sub_add_cancel] at q
        rw [q] at z ⊢
        exact .inl (.inl (.inr ⟨i - h, j, by omega, by omega, j0, cj, z, by rw [show x + h + (i - h) = x + i by omega]⟩))
      · have q := (g (show 0 ≤ i - h by omega) (by omega) (show 0 ≤ j - h by omega) (by omega)).2.2.2
        rw [Int.sub_add_cancel, Int.sub_add_cancel] at q
        rw [q] at z ⊢
        exact .inr ⟨i - h, j - h, by omega, by omega, by omega, by omega, z, by rw [show y + h + (j - h) = y + j by omega, show x + h + (i - h) = x + i by omega]⟩
theorem wi_nodup : ∀ {S : Sq}, S.wf → ∀ x y : Int, (wi S x y).Nodup
  | .leaf s, _, x, y => by
    show (if s = 0 then [] else [[y, x, s]] : List (List Int)).Nodup
    split <;> simp
  | .node a b c d, w, x, y => by
    obtain ⟨wa, wb, wc, wd, e1, e2, e3⟩ := id w
    have ia := mem_wi wa x y
    have ib := mem_wi wb (x + 2 ^ a.level) y
    have ic := mem_wi wc x (y + 2 ^ a.level)
    have id' := mem_wi wd (x + 2 ^ a.level) (y + 2 ^ a.level)
    have na := wi_nodup wa x y
    have nb := wi_nodup wb (x + 2 ^ a.level) y
    have nc := wi_nodup wc x (y + 2 ^ a.level)
    have nd := wi_nodup wd (x + 2 ^ a.level) (y + 2 ^ a.level)
    rw [e1] at ib; rw [e2] at ic; rw [e3] at id'
    show (wi a x y ++ wi b (x + 2 ^ a.level) y ++ wi c x (y + 2 ^ a.level) ++ wi d (x + 2 ^ a.level) (y + 2 ^ a.level)).Nodup
    generalize (2 : Int) ^ a.level = h at *
    rw [List.nodup_append, List.nodup_append, List.nodup_append]
    refine ⟨⟨⟨na, nb, fun t ht u hu e => ?_⟩, nc, fun t ht u hu e => ?_⟩, nd, fun t ht u hu e => ?_⟩
    · subst e
      obtain ⟨i, j, i0, i1, j0, j1, _, rfl⟩ := (ia t).mp ht
      obtain ⟨i', j', i0', i1', j0', j1', _, e⟩ := (ib _).mp hu
      simp only [List.cons.injEq, and_true] at e
      omega
    · subst e
      obtain ⟨i', j', i0', i1', j0', j1', _, rfl⟩ := (ic t).mp hu
      rcases List.mem_append.mp ht with ht | ht
      · obtain ⟨i, j, i0, i1, j0, j1, _, e⟩ := (ia _).mp ht
        simp only [List.cons.injEq, and_true] at e
        omega
      · obtain ⟨i, j, i0, i1, j0, j1, _, e⟩ := (ib _).mp ht
        simp only [List.cons.injEq, and_true] at e
        omega
    · subst e
      obtain ⟨i', j', i0', i1', j0', j1', _, rfl⟩ := (id' t).mp hu
      rcases List.mem_append.mp ht with ht | ht
      · rcases List.mem_append.mp ht with ht | ht
        · obtain ⟨i, j, i0, i1, j0, j1, _, e⟩ := (ia _).mp ht
          simp only [List.cons.injEq, and_true] at e
          omega
        · obtain ⟨i, j, i0, i1, j0, j1, _, e⟩ := (ib _).mp ht
          simp only [List.cons.injEq, and_true] at e
          omega
      · obtain ⟨i, j, i0, i1, j0, j1, _, e⟩ := (ic _).mp ht
        simp only [List.cons.injEq, and_true] at e
        omega
/-- the living cells of a square about the middle -/
def Sq.cells (S : Sq) : List (List Int) := wi S (-S.half) (-S.half)
theorem mem_cells {S : Sq} (w : S.wf) (h : 1 ≤ S.level) (t : List Int) : t ∈ S.cells ↔ ∃ x y : Int, S.val x y ≠ 0 ∧ t = [y, x, S.val x y] := by
  unfold Sq.cells
  rw [mem_wi w, half_two h]
  constructor
  · rintro ⟨i, j, i0, i1, j0, j1, z, rfl⟩
    have e : S.val (-S.half + i) (-S.half + j) = S.get i j := by
      unfold Sq.val
      rw [if_pos (by omega), show -S.half + i + S.half = i by omega, show -S.half + j + S.half = j by omega]
    exact ⟨-S.half + i, -S.half + j, by rw [e]; exact z, by rw [e]⟩
  · rintro ⟨x, y, z, rfl⟩
    unfold Sq.val at z ⊢
    by_cases c : -S.half ≤ x ∧ x < S.half ∧ -S.half ≤ y ∧ y < S.half
    · rw [if_pos c] at z ⊢
      exact ⟨x + S.half, y + S.half, by omega, by omega, by omega, by omega, z, by rw [show -S.half + (y + S.half) = y by omega, show -S.half + (x + S.half) = x by omega]⟩
    · rw [if_neg c] at z; exact absurd rfl z
theorem cells_nodup {S : Sq} (w : S.wf) : S.cells.Nodup := wi_nodup w _ _
theorem wi_three : ∀ (S : Sq) (x y : Int), ∀ t ∈ wi S x y, t.length = 3
  | .leaf s, x, y, t, h => by
    have h' : t ∈ (if s = 0 then [] else [[y, x, s]] : List (List Int)) := h
    split at h'
    · cases h'
    · rw [List.mem_singleton] at h'; rw [h']; rfl
  | .node a b c d, x, y, t, h => by
    rcases List.mem_append.mp h with h | h
    · rcases List.mem_append.mp h with h | h
      · rcases List.mem_append.mp h with h | h
        · exact wi_three a _ _ t h
        · exact wi_three b _ _ t h
      · exact wi_three c _ _ t h
    · exact wi_three d _ _ t h
/-! #### what is remembered by numbers of squares -/
/-- each number once, each answer right -/
structure KQ (q : List Sq) (R : Sq → V → Prop) (kvs : List (Key × V)) : Prop where
  nd : (kvs.map Prod.fst).Nodup
  ok : ∀ e ∈ kvs, ∃ (n : Nat) (S : Sq), e.1 = Sum.inl (n : Int) ∧ q[n]? = some S ∧ R S e.2
theorem KQ.nil {q : List Sq} {R : Sq → V → Prop} : KQ q R [] := ⟨by simp, fun e h => by cases h⟩
theorem KQ.pre {q q' : List Sq} {R R' : Sq → V → Prop} {kvs : List (Key × V)} (h : KQ q R kvs) (p : q <+: q') (k : ∀ S v, R S v → R' S v) : KQ q' R' kvs := ⟨h.nd, fun e he => let ⟨n, S, a, b, c⟩ := h.ok e he; ⟨n, S, a, pre_get p b, k _ _ c⟩⟩
theorem valV_mem {κ : Type} [DecidableEq κ] {kvs : List (κ × V)} {k : κ} {v : V} (h : valV kvs k = some v) : (k, v) ∈ kvs := by
  unfold valV at h
  cases e : kvs.find? (fun p => decide (p.1 = k)) with
  | none => rw [e] at h; cases h
  | some p =>
    rw [e] at h
    cases h
    have h1 := List.find?_some e
    have h2 := List.mem_of_find?_eq_some e
    have : p.1 = k := of_decide_eq_true h1
    rw [← this]
    exact h2
theorem valV_nonek {κ : Type} [DecidableEq κ] {kvs : List (κ × V)} {k : κ} (h : valV kvs k = none) : k ∉ kvs.map Prod.fst := fun z => by
  obtain ⟨p, hp, e⟩ := List.mem_map.mp z
  unfold valV at h
  cases e2 : kvs.find? (fun p => decide (p.1 = k)) with
  | none =>
    have := List.find?_eq_none.mp e2 p hp
    exact this (decide_eq_true e)
  | some p => rw [e2] at h; cases h
theorem KQ.at {q : List Sq} {R : Sq → V → Prop} {kvs : List (Key × V)} (h : KQ q R kvs) {n : Nat} {S : Sq} {v : V} (hn : q[n]? = some S) (e : valV kvs (Sum.inl (n : Int)) = some v) : R S v := by
  obtain ⟨n', S', a, b, c⟩ := h.ok _ (valV_mem e)
  have : n = n' := by have a' : (Sum.inl (n : Int) : Key) = Sum.inl (n' : Int) := a; injection a' with a'; omega
  subst this
  rw [hn] at b; cases b
  exact c
theorem KQ.put {q : List Sq} {R : Sq → V → Prop} {kvs : List (Key × V)} (h : KQ q R kvs) {n : Nat} {S : Sq} {v : V} (hn : q[n]? = some S) (e : valV kvs (Sum.inl (n : Int)) = none) (hv : R S v) : KQ q R (putK kvs (Sum.inl (n : Int)) v) ∧ putK kvs (Sum.inl (n : Int)) v = kvs ++ [(Sum.inl (n : Int), v)] := by
  have ep : putK kvs (Sum.inl (n : Int)) v = kvs ++ [(Sum.inl (n : Int), v)] := putK_new _ e
  refine ⟨?_, ep⟩
  rw [ep]
  refine ⟨?_, fun x hx => ?_⟩
  · rw [List.map_append, List.nodup_append]
    refine ⟨h.nd, by simp, fun a ha b hb z => ?_⟩
    simp only [List.map_cons, List.map_nil, List.mem_singleton] at hb
    rw [z, hb] at ha
    exact valV_nonek e ha
  · rcases List.mem_append.mp hx with hx | hx
    · exact h.ok x hx
    · rw [List.mem_singleton] at hx
      subst hx
      exact ⟨n, S, rfl, hn, hv⟩
theorem KQ.put2 {q : List Sq} {R : Sq → V → Prop} {kvs : List (Key × V)} (h : KQ q R kvs) {n : Nat} {S : Sq} {v : V} (hn : q[n]? = some S) (hv : R S v) : KQ q R (putK kvs (Sum.inl (n : Int)) v) := by
  cases e : valV kvs (Sum.inl (n : Int)) with
  | none => exact (h.put hn e hv).1
  | some u =>
    have ep : putK kvs (Sum.inl (n : Int)) v = kvs.map fun kv => if kv.1 = Sum.inl (n : Int) then (kv.1, v) else kv := by
      unfold putK
      rw [valV_any, e]
      rfl
    rw [ep]
    refine ⟨?_, fun x hx => ?_⟩
    · rw [List.map_map]
      have em : (Prod.fst ∘ fun kv : Key × V => if kv.1 = Sum.inl (n : Int) then (kv.1, v) else kv) = Prod.fst := by
        funext kv
        show (if kv.1 = Sum.inl (n : Int) then (kv.1, v) else kv).1 = kv.1
        split <;> rfl
      rw [em]; exact h.nd
    · obtain ⟨y, hy, rfl⟩ := List.mem_map.mp hx
      by_cases z : y.1 = Sum.inl (n : Int)
      · rw [if_pos z]; exact ⟨n, S, z, hn, hv⟩
      · rw [if_neg z]; exact h.ok y hy
theorem KQ.len {q : List Sq} {R : Sq → V → Prop} {kvs : List (Key × V)} (h : KQ q R kvs) : kvs.length ≤ q.length := by
  have := nodup_sub_len (kvs.map Prod.fst) ((List.range q.length).map fun n : Nat => (Sum.inl (n : Int) : Key)) h.nd fun x hx => by
    obtain ⟨e, he, rfl⟩ := List.mem_map.mp hx
    obtain ⟨n, S, a, b, _⟩ := h.ok e he
    rw [a]
    exact List.mem_map.mpr ⟨n, List.mem_range.mpr (List.getElem?_eq_some_iff.mp b).1, rfl⟩
  rw [List.length_map, List.length_map, List.length_range] at this
  exact this
/-- but for one object all is as it was -/
def But (d : Addr) (H H' : Hp) : Prop := ∀ b o, H b = some o → b ≠ d → H' b = some o
theorem But.refl (d : Addr) (H : Hp) : But d H H := fun _ _ e _ => e
theorem But.trans {d : Addr} {H H1 H2 : Hp} (x : But d H H1) (y : But d H1 H2) : But d H H2 := fun b o e n => y b o (x b o e n) n
theorem But.of {d : Addr} {H H' : Hp} (s : Same H H') : But d H H' := fun b o e _ => s b o e
theorem But.put {d : Addr} {H : Hp} (o : HO) : But d H (upd H d o) := fun b u e n => by rw [upd_ne n]; exact e
theorem But.tup {d : Addr} {H H' : Hp} {kvs : List (Key × V)} (x : But d H H') (hd : H d = some (.dK kvs)) : Tup H H' := fun b ys e => x b _ e fun z => by rw [z, hd] at e; cases e
theorem GAt.but {C d : Addr} {H H' : Hp} {a : GA} {rows : List (Int × Addr)} {q : List Sq} {kvs : List (Key × V)} (G : GAt C H a rows q) (x : But d H H') (hd : H d = some (.dK kvs)) (out : d ∉ a.muts rows) : GAt C H' a rows q :=
  G.keep fun b o e z => x b o e fun y => by
    subst y
    rcases z with z | z
    · rw [hd] at e; cases e; exact z
    · exact out z
theorem But.same {d : Addr} {H H' : Hp} (x : But d H H') (hd : H d = none) : Same H H' := fun b o e => x b o e (ne_of_none e hd)
theorem TL.keep {H H' : Hp} {p : Addr} {xs : List (List Int)} (h : TL H p xs) (t : Tup H H') (e : ∀ o, H p = some o → H' p = some o) : TL H' p xs := let ⟨rs, a, b⟩ := h; ⟨rs, e _ a, b.keep t⟩
abbrev Rcnt : Sq → V → Prop := fun S v => v = .int S.lives
theorem rd_dnotin {σ : L2.St} {H : Hp} {Q : VK} {td ty : TE} (h : ty σ H fun y H1 => td σ H1 fun x H2 => ∃ a o, x = .ref a ∧ DGet H2 a y o ∧ Q (.bl (!o.isSome)) H2) : tDNotIn ty td σ H Q := h
section
variable {P : Program} {w : World} {K : PySem.W.Frag} {mg : Str → Option Value} {base : Heap}
def sp_count (C : Addr) (L : Nat) : Sp := fun vs H Q _ => ∃ (a : GA) (rows : List (Int × Addr)) (q : List Sq) (n : Nat) (S : Sq) (pk : Addr) (kvs : List (Key × V)), vs = [.ref a.g, .int (n : Int), .ref pk] ∧ GAt C H a rows q ∧ q[n]? = some S ∧ S.level ≤ L ∧ q.length ≤ 15000000 ∧ H pk = some (.dK kvs) ∧ pk ∉ a.muts rows ∧ KQ q Rcnt kvs ∧
  ∀ H' kvs', But pk H H' → H' pk = some (.dK kvs') → KQ q Rcnt kvs' → Q (.int S.lives) H'
theorem mp_count {C : Addr} {L : Nat} : MonP (sp_count C L) := fun vs H Q Q' E h ⟨a, rows, q, n, S, pk, kvs, x1, x2, x3, x4, x5, x6, x7, x8, k⟩ => ⟨a, rows, q, n, S, pk, kvs, x1, x2, x3, x4, x5, x6, x7, x8, fun H' kvs' b c d => h _ _ (k H' kvs' b c d)⟩
end
end JF

/-! ### fields walked down by quarters: the walk, drawn cells -/
namespace JF
open PySem PySem.Spec PyProof.Rows L2
/-- how many cells live in the outer parts of a square's quarters -/
def prt (S : Sq) (k j : Nat) : Sq := match S with
  | .node a b c d => (match ([a, b, c, d].getD k (.leaf 0)) with
    | .node e f g h => [e, f, g, h].getD j (.leaf 0)
    | .leaf _ => .leaf 0)
  | .leaf _ => .leaf 0
def oS (S : Sq) (k : Nat) : Nat → Int
  | 0 => 0
  | j + 1 => oS S k j + (if j = 3 - k then 0 else (prt S k j).lives)
def oT (S : Sq) : Nat → Int
  | 0 => 0
  | k + 1 => oT S k + oS S k 4
theorem oT_lives {S : Sq} (w : S.wf) (h : 2 ≤ S.level) : oT S 4 = S.lives - S.mid.lives := by
  obtain ⟨a1, a2, a3, a4, b1, b2, b3, b4, c1, c2, c3, c4, d1, d2, d3, d4, rfl⟩ := Sq.mid_form w h
  show (0 : Int) + (0 + a1.lives + a2.lives + a3.lives + 0) + (0 + b1.lives + b2.lives + 0 + b4.lives) + (0 + c1.lives + 0 + c3.lives + c4.lives) + (0 + 0 + d2.lives + d3.lives + d4.lives) = _
  simp only [Sq.lives, Sq.mid]
  omega
theorem flat_take {α : Type} (l : List (List α)) (i : Nat) : (l.take i).flatten.length ≤ l.flatten.length := by
  have e : l.flatten = (l.take i).flatten ++ (l.drop i).flatten := by rw [← List.flatten_append, List.take_append_drop]
  rw [e, List.length_append]
  omega
theorem flat_snoc {α : Type} {l : List (List α)} {i : Nat} {x : List α} (h : l[i]? = some x) : (l.take (i + 1)).flatten = (l.take i).flatten ++ x := by
  rw [take_snoc h, List.flatten_append]; simp
theorem TR.cat {H : Hp} : ∀ {rs rs' : List Addr} {xs xs' : List (List Int)}, TR H rs xs → TR H rs' xs' → TR H (rs ++ rs') (xs ++ xs')
  | [], _, [], _, _, h => h
  | r :: rs, _, x :: xs, _, h, h' => ⟨h.1, TR.cat h.2 h'⟩
  | [], _, _ :: _, _, h, _ => h.elim
  | _ :: _, _, [], _, h, _ => h.elim
/-- the rows of a dict by places -/
def rowE (e : List Key × V) : List Int := match e with
  | ([.inl x, .inl y], .int s) => [y, x, s]
  | _ => []
def PairD (kvs : List (List Key × V)) : Prop := (kvs.map Prod.fst).Nodup ∧ ∀ e ∈ kvs, ∃ x y s : Int, e = ([Sum.inl x, Sum.inl y], .int s)
def rowsD (kvs : List (List Key × V)) : List (List Int) := kvs.map rowE
theorem mulP {a b : Int} (h0 : 0 ≤ a) (h1 : a < 2 ^ 70) (h2 : 0 ≤ b) (h3 : b < 2 ^ 70) : CMulW a b := by
  have e1 : (2 : Int) ^ 70 ≤ 2 ^ 2000 := by decide +kernel
  exact mulW_of (by omega) (by omega) (by omega) (by omega)
theorem shlN {b i : Nat} : ((b : Nat) : Int) * 2 ^ ((i : Int)).toNat = b * 2 ^ i := by rw [Int.toNat_natCast]
section
variable {P : Program} {w : World} {K : PySem.W.Frag} {mg : Str → Option Value} {base : Heap}
def sp_wholeI : Sp := fun vs H Q _ => ∃ i : Int, vs = [.int i] ∧ Q (.bl true) H
theorem mp_wholeI : MonP sp_wholeI := fun vs H Q Q' E h ⟨i, x1, q⟩ => ⟨i, x1, h _ _ q⟩
theorem ok_wholeI (T : Env fa fn K mg) : Good P w K mg base CX0 1 ("_law_whole", none) ["_law_found"] sp_wholeI := by
  refine good_mk T 40 (d := d_w_whole) (N := ["_law_found"]) (ps := ["_law_found"]) rfl rfl sc_w_whole (fun _ _ _ _ _ _ us hl => match us, hl with | [_], _ => rfl) (fun vs H Q E h => ?_) (fun f cdv A outer s H vs Q E hr h => ?_)
  · obtain ⟨i, rfl, _⟩ := h; rfl
  · obtain ⟨i, rfl, q⟩ := h
    refine ⟨_, (pss_one (ps_ret (pe_and (pe_callB (call_isiK K rfl) (by rfl) (T.free 25) (by decide +kernel) (pa_cons (pv 0) (pa_cons (pe_bltn (v := V.ty "int") rfl (T.free 12) (by decide +kernel) rfl) pa_nil))) (pe_one (pe_not (pe_callB (call_isiK K rfl) (by rfl) (T.free 25) (by decide +kernel) (pa_cons (pv 0) (pa_cons (pe_bltn (v := V.ty "bool") rfl (T.free 45) (by decide +kernel) rfl) pa_nil)))))))), ?_⟩
    walk_at "rd"
    refine rd_isiI ?_
    walk_at "rd"
    refine rd_isiB ?_
    walk_at "rd"
    exact q
def sp_mixW : Sp := fun vs H Q _ => ∃ c k : Int, vs = [.int c, .int k] ∧ 0 ≤ k ∧ k ≤ 5000 ∧ ∀ z : Int, 0 ≤ z → z < 2305843009213693951 → Q (.int z) H
theorem mp_mixW : MonP sp_mixW := fun vs H Q Q' E h ⟨c, k, x1, x2, x3, q⟩ => ⟨c, k, x1, x2, x3, fun z a b => h _ _ (q z a b)⟩
def sp_bitsW : Sp := fun vs H Q _ => ∃ c : Int, vs = [.int c] ∧ ∀ n : Nat, n ≤ 40 → Q (.int (n : Int)) H
theorem mp_bitsW : MonP sp_bitsW := fun vs H Q Q' E h ⟨c, x1, k⟩ => ⟨c, x1, fun n a => h _ _ (k n a)⟩
def sp_placeW : Sp := fun vs H Q _ => ∃ (c k : Int) (b : Nat), vs = [.int c, .int k, .int (b : Int)] ∧ 0 ≤ k ∧ k ≤ 5000 ∧ b ≤ 40 ∧ ∀ z : Int, -(2 ^ b) ≤ z → z < 2 ^ b → Q (.int z) H
theorem mp_placeW : MonP sp_placeW := fun vs H Q Q' E h ⟨c, k, b, x1, x2, x3, x4, q⟩ => ⟨c, k, b, x1, x2, x3, x4, fun z a b => h _ _ (q z a b)⟩
def sp_is_field (C : Addr) : Sp := fun vs H Q _ => ∃ (a : GA) (rows : List (Int × Addr)) (q : List Sq) (n : Nat) (S : Sq) (pk : Addr) (kvs : List (Key × V)), vs = [.ref a.g, .int (n : Int), .ref pk] ∧ GAt C H a rows q ∧ q[n]? = some S ∧ S.Least ∧ S.level ≤ 42 ∧ q.length ≤ 15000000 ∧ H pk = some (.dK kvs) ∧ pk ∉ a.muts rows ∧ KQ q Rcnt kvs ∧
  ∀ H' kvs', But pk H H' → H' pk = some (.dK kvs') → KQ q Rcnt kvs' → Q (.bl true) H'
theorem mp_is_field {C : Addr} : MonP (sp_is_field C) := fun vs H Q Q' E h ⟨a, rows, q, n, S, pk, kvs, x1, x2, x3, x4, x5, x6, x7, x8, x9, k⟩ => ⟨a, rows, q, n, S, pk, kvs, x1, x2, x3, x4, x5, x6, x7, x8, x9, fun H' kvs' b c d => h _ _ (k H' kvs' b c d)⟩
def sp_within (C : Addr) (L : Nat) : Sp := fun vs H Q _ => ∃ (a : GA) (rows : List (Int × Addr)) (q : List Sq) (n : Nat) (S : Sq) (x y : Int) (pk : Addr) (kvs : List (Key × V)), vs = [.ref a.g, .int (n : Int), .int x, .int y, .ref pk] ∧ GAt C H a rows q ∧ q[n]? = some S ∧ S.level ≤ L ∧ S.level ≤ 45 ∧ q.length ≤ 15000000 ∧ H pk = some (.dK kvs) ∧ pk ∉ a.muts rows ∧ KQ q Rcnt kvs ∧ S.lives ≤ 500 ∧
  ∀ H' kvs' l, But pk H H' → H' pk = some (.dK kvs') → KQ q Rcnt kvs' → H l = none → TL H' l (wi S x y) → Q (.ref l) H'
theorem mp_within {C : Addr} {L : Nat} : MonP (sp_within C L) := fun vs H Q Q' E h ⟨a, rows, q, n, S, x, y, pk, kvs, x1, x2, x3, x4, x5, x6, x7, x8, x9, y1, k⟩ => ⟨a, rows, q, n, S, x, y, pk, kvs, x1, x2, x3, x4, x5, x6, x7, x8, x9, y1, fun H' kvs' l b c d e f => h _ _ (k H' kvs' l b c d e f)⟩
end
end JF

/-! ### fields walked down by quarters: sorted, compared; drawn cells -/
namespace JF
open PySem PySem.Spec PyProof.Rows L2
theorem snoc_get2 {α : Type} {l : List α} {x y : α} {j : Nat} (h : (l ++ [x])[j]? = some y) : l[j]? = some y ∨ (j = l.length ∧ y = x) := by
  rcases Nat.lt_or_ge j l.length with hj | hj
  · rw [List.getElem?_append_left hj] at h
    exact .inl h
  · obtain rfl : j = l.length := by
      have := (List.getElem?_eq_some_iff.mp h).1
      rw [List.length_append] at this
      simp at this
      omega
    rw [List.getElem?_append_right (Nat.le_refl _), Nat.sub_self] at h
    cases h
    exact .inr ⟨rfl, rfl⟩
theorem none_ofW {H H' : Hp} (s : Same H H') {b : Addr} (h : H' b = none) : H b = none := by
  cases e : H b with
  | none => rfl
  | some o => rw [s _ _ e] at h; cases h
theorem Same.putW {H0 H : Hp} {p : Addr} {o : HO} (s : Same H0 H) (h : H0 p = none) : Same H0 (upd H p o) := fun b u e => by
  rw [upd_ne (ne_of_none e h)]
  exact s _ _ e
theorem eqvAll_tr : ∀ xs ys : List (List Int), PyData.eqvAll (xs.map fun x => PyData.tuple (x.map PyData.int)) (ys.map fun x => PyData.tuple (x.map PyData.int)) = decide (xs = ys)
  | [], [] => by simp [PyData.eqvAll]
  | [], _ :: _ => by simp [PyData.eqvAll]
  | _ :: _, [] => by simp [PyData.eqvAll]
  | x :: xs, y :: ys => by
    simp only [List.map_cons, PyData.eqvAll, PyData.eqv, eqvAll_ints x y, eqvAll_tr xs ys, List.cons.injEq]
    by_cases a : x = y <;> by_cases b : xs = ys <;> simp [a, b]
theorem rd_eqTL {K : PySem.W.Frag} {H : Hp} {Q : VK} {p p' : Addr} {xs ys : List (List Int)} (h : TL H p xs) (h' : TL H p' ys) (q : Q (.bl (decide (xs = ys))) H) : rEqD K (.ref p) (.ref p') H Q := by
  obtain ⟨rs, h1, h2⟩ := h
  obtain ⟨rs', h1', h2'⟩ := h'
  refine ⟨_, _, .lst (SqL.of h1) (dp_tr h2), .lst (SqL.of h1') (dp_tr h2'), shaped_tr xs, shaped_tr ys, ?_⟩
  have e : PyData.eqv (.list (xs.map fun x => PyData.tuple (x.map PyData.int))) (.list (ys.map fun x => PyData.tuple (x.map PyData.int))) = decide (xs = ys) := by rw [← eqvAll_tr]; simp only [PyData.eqv]
  rw [e]; exact q
theorem rd_neTL {K : PySem.W.Frag} {H : Hp} {Q : VK} {p p' : Addr} {xs ys : List (List Int)} (h : TL H p xs) (h' : TL H p' ys) (q : Q (.bl (!decide (xs = ys))) H) : rNeD K (.ref p) (.ref p') H Q := by
  obtain ⟨rs, h1, h2⟩ := h
  obtain ⟨rs', h1', h2'⟩ := h'
  refine ⟨_, _, .lst (SqL.of h1) (dp_tr h2), .lst (SqL.of h1') (dp_tr h2'), shaped_tr xs, shaped_tr ys, ?_⟩
  have e : PyData.eqv (.list (xs.map fun x => PyData.tuple (x.map PyData.int))) (.list (ys.map fun x => PyData.tuple (x.map PyData.int))) = decide (xs = ys) := by rw [← eqvAll_tr]; simp only [PyData.eqv]
  rw [e]; exact q
/-! #### dicts by places -/
def dv (kvs : List (List Key × V)) (x y : Int) : Int := match valV kvs [Sum.inl x, Sum.inl y] with
  | some (.int s) => s
  | _ => 0
theorem dv_put (kvs : List (List Key × V)) (a b s x y : Int) : dv (putK kvs [Sum.inl a, Sum.inl b] (.int s)) x y = if x = a ∧ y = b then s else dv kvs x y := by
  unfold dv
  rw [valV_put]
  by_cases h : x = a ∧ y = b
  · rw [if_pos h, if_pos (by rw [h.1, h.2])]
  · rw [if_neg h, if_neg (fun z => by
      simp only [List.cons.injEq, Sum.inl.injEq, and_true] at z
      exact h z)]
theorem putK_cases {κ : Type} [DecidableEq κ] {kvs : List (κ × V)} {k : κ} {x : V} {e : κ × V} (h : e ∈ putK kvs k x) : e ∈ kvs ∨ e = (k, x) := by
  unfold putK at h
  split at h
  · obtain ⟨e', m, z⟩ := List.mem_map.mp h
    by_cases y : e'.1 = k
    · rw [if_pos y] at z
      exact .inr (by rw [← z, y])
    · rw [if_neg y] at z
      exact .inl (z ▸ m)
  · rcases List.mem_append.mp h with m | m
    · exact .inl m
    · exact .inr (List.mem_singleton.mp m)
theorem putK_nodup {κ : Type} [DecidableEq κ] {kvs : List (κ × V)} {k : κ} {x : V} (h : (kvs.map Prod.fst).Nodup) : ((putK kvs k x).map Prod.fst).Nodup := by
  cases e : valV kvs k with
  | none =>
    rw [putK_new _ e, List.map_append, List.nodup_append]
    refine ⟨h, by simp, fun a ha b hb z => ?_⟩
    simp only [List.map_cons, List.map_nil, List.mem_singleton] at hb
    rw [z, hb] at ha
    exact valV_nonek e ha
  | some u =>
    unfold putK
    rw [valV_any, e]
    show ((kvs.map fun kv => if kv.1 = k then (kv.1, x) else kv).map Prod.fst).Nodup
    rw [List.map_map]
    have em : (Prod.fst ∘ fun kv : κ × V => if kv.1 = k then (kv.1, x) else kv) = Prod.fst := by
      funext kv
      show (if kv.1 = k then (kv.1, x) else kv).1 = kv.1
      split <;> rfl
    rw [em]; exact h
theorem PairD.nil : PairD [] := ⟨by simp, fun e h => by cases h⟩
theorem PairD.put {kvs : List (List Key × V)} (h : PairD kvs) (a b s : Int) : PairD (putK kvs [Sum.inl a, Sum.inl b] (.int s)) :=
  ⟨putK_nodup h.1, fun e he => by
    rcases putK_cases he with m | m
    · exact h.2 e m
    · exact ⟨a, b, s, m⟩⟩
def NZ (kvs : List (List Key × V)) : Prop := ∀ e ∈ kvs, e.2 ≠ .int 0
theorem NZ.nil : NZ [] := fun e h => by cases h
theorem NZ.put {kvs : List (List Key × V)} (h : NZ kvs) {s : Int} (hs : s ≠ 0) (k : List Key) : NZ (putK kvs k (.int s)) := fun e he => by
  rcases putK_cases he with m | m
  · exact h e m
  · rw [m]; intro z; injection z with z; exact hs z
theorem mem_valV {κ : Type} [DecidableEq κ] : ∀ {kvs : List (κ × V)} {k : κ} {v : V}, (kvs.map Prod.fst).Nodup → (k, v) ∈ kvs → valV kvs k = some v
  | [], _, _, _, h => by cases h
  | p :: r, k, v, nd, h => by
    rw [List.map_cons, List.nodup_cons] at nd
    rcases List.mem_cons.mp h with h | h
    · subst h; exact valV_pos rfl
    · have ne : ¬ p.1 = k := fun z => nd.1 (by rw [z]; exact List.mem_map.mpr ⟨_, h, rfl⟩)
      rw [valV_neg ne]
      exact mem_valV nd.2 h
theorem mem_rowsD {kvs : List (List Key × V)} (h : PairD kvs) (z : NZ kvs) (t : List Int) : t ∈ rowsD kvs ↔ ∃ x y : Int, dv kvs x y ≠ 0 ∧ t = [y, x, dv kvs x y] := by
  unfold rowsD
  rw [List.mem_map]
  constructor
  · rintro ⟨e, he, rfl⟩
    obtain ⟨x, y, s, rfl⟩ := h.2 e he
    have ev : dv kvs x y = s := by unfold dv; rw [mem_valV h.1 he]
    refine ⟨x, y, ?_, ?_⟩
    · rw [ev]; intro w; exact z _ he (by rw [w])
    · rw [ev]; rfl
  · rintro ⟨x, y, ne, rfl⟩
    unfold dv at ne ⊢
    cases e : valV kvs [Sum.inl x, Sum.inl y] with
    | none => rw [e] at ne; exact absurd rfl ne
    | some v =>
      have hm := valV_mem e
      obtain ⟨x', y', s, e2⟩ := h.2 _ hm
      simp only [Prod.mk.injEq, List.cons.injEq, Sum.inl.injEq, and_true] at e2
      obtain ⟨⟨rfl, rfl⟩, rfl⟩ := e2
      exact ⟨_, hm, rfl⟩
theorem rowsD_nodup {kvs : List (List Key × V)} (h : PairD kvs) : (rowsD kvs).Nodup := by
  unfold rowsD
  have p : kvs.Pairwise fun a b => a.1 ≠ b.1 := List.pairwise_map.mp h.1
  refine List.pairwise_map.mpr (p.imp_of_mem fun {a b} ha hb ne e => ?_)
  obtain ⟨x, y, s, rfl⟩ := h.2 a ha
  obtain ⟨x', y', s', rfl⟩ := h.2 b hb
  have e' : [y, x, s] = [y', x', s'] := e
  simp only [List.cons.injEq, and_true] at e'
  obtain ⟨rfl, rfl, _⟩ := e'
  exact ne rfl
/-- the dict of what lives, the field -/
theorem rows_cells {kvs : List (List Key × V)} {S : Sq} (h : PairD kvs) (z : NZ kvs) (w : S.wf) (l : 1 ≤ S.level) (e : ∀ x y, dv kvs x y = S.val x y) : (rowsD kvs).Perm S.cells :=
  perm_of_mem (rowsD_nodup h) (cells_nodup w) fun t => by
    rw [mem_rowsD h z, mem_cells w l]
    simp only [e]
section
variable {P : Program} {w : World} {K : PySem.W.Frag} {mg : Str → Option Value} {base : Heap}
def sp_walked (C : Addr) : Sp := fun vs H Q _ => ∃ (a : GA) (rows : List (Int × Addr)) (q : List Sq) (n : Nat) (S : Sq), vs = [.ref a.g, .int (n : Int)] ∧ GAt C H a rows q ∧ q[n]? = some S ∧ S.Least ∧ S.level ≤ 42 ∧ q.length ≤ 15000000 ∧ S.lives ≤ 400 ∧
  ∀ H' l xs, Same H H' → H l = none → TL H' l xs → SrtL xs → xs.Perm S.cells → Q (.ref l) H'
theorem mp_walked {C : Addr} : MonP (sp_walked C) := fun vs H Q Q' E h ⟨a, rows, q, n, S, x1, x2, x3, x4, x5, x6, x7, k⟩ => ⟨a, rows, q, n, S, x1, x2, x3, x4, x5, x6, x7, fun H' l xs b c d e f => h _ _ (k H' l xs b c d e f)⟩
def sp_sortedD : Sp := fun vs H Q _ => ∃ (pd : Addr) (kvs : List (List Key × V)), vs = [.ref pd] ∧ H pd = some (.dT kvs) ∧ PairD kvs ∧ kvs.length ≤ 5000 ∧ ∀ H' l xs, Same H H' → H l = none → TL H' l xs → SrtL xs → xs.Perm (rowsD kvs) → Q (.ref l) H'
theorem mp_sortedD : MonP sp_sortedD := fun vs H Q Q' E h ⟨pd, kvs, x1, x2, x3, x4, k⟩ => ⟨pd, kvs, x1, x2, x3, x4, fun H' l xs b c d e f => h _ _ (k H' l xs b c d e f)⟩
def sp_cells_by (K : PySem.W.Frag) : Sp := fun vs H Q _ => ∃ (a : Addr) (ns : List Int) (fst : Int) (b : Nat), vs = [.ref a, .int fst, .int (b : Int)] ∧ SqL K H a (ns.map V.int) ∧ 0 ≤ fst ∧ b ≤ 40 ∧
  ∀ H' l (cs : List Cell3), Same H H' → H l = none → TL H' l (cs.map c3) → cs.length ≤ 12 → (∀ c ∈ cs, InGround c.1 c.2.1 ∧ 1 ≤ c.2.2 ∧ c.2.2 ≤ 7) → Q (.ref l) H'
theorem mp_cells_by : MonP (sp_cells_by K) := fun vs H Q Q' E h ⟨a, ns, f, b, x1, x2, x3, x4, k⟩ => ⟨a, ns, f, b, x1, x2, x3, x4, fun H' l cs b c d e f => h _ _ (k H' l cs b c d e f)⟩
theorem ground_of {b : Nat} (hb : b ≤ 40) {x y : Int} (x0 : -(2 ^ b) ≤ x) (x1 : x < 2 ^ b) (y0 : -(2 ^ b) ≤ y) (y1 : y < 2 ^ b) : InGround x y := by
  have e : (2 : Int) ^ 40 = 1099511627776 := by decide
  have h := two_mono hb
  rw [e] at h
  unfold InGround
  omega
end
end JF

/-! ### fields of the least level with the same values are the same square -/
namespace JF
open PySem PySem.Spec PyProof.Rows L2
theorem sq_ext : ∀ {S T : Sq}, S.wf → T.wf → S.level = T.level → (∀ x y : Int, 0 ≤ x → x < 2 ^ S.level → 0 ≤ y → y < 2 ^ S.level → S.get x y = T.get x y) → S = T
  | .leaf s, .leaf t, _, _, _, h => by
    have e : s = t := h 0 0 (by decide) (by show (0 : Int) < 1; decide) (by decide) (by show (0 : Int) < 1; decide)
    rw [e]
  | .leaf s, .node a b c d, _, _, e, _ => by cases e
  | .node a b c d, .leaf t, _, _, e, _ => by cases e
  | .node a b c d, .node a' b' c' d', w, w', e, h => by
    obtain ⟨wa, wb, wc, wd, e1, e2, e3⟩ := id w
    obtain ⟨wa', wb', wc', wd', f1, f2, f3⟩ := id w'
    have el : a.level = a'.level := by
      have z : a.level + 1 = a'.level + 1 := e
      omega
    have g := fun {u v : Int} (u0 : 0 ≤ u) (u1 : u < 2 ^ a.level) (v0 : 0 ≤ v) (v1 : v < 2 ^ a.level) => get_nodeW w u0 u1 v0 v1
    have g' := fun {u v : Int} (u0 : 0 ≤ u) (u1 : u < 2 ^ a'.level) (v0 : 0 ≤ v) (v1 : v < 2 ^ a'.level) => get_nodeW w' u0 u1 v0 v1
    rw [← el] at g'
    have e2p : (2 : Int) ^ (Sq.node a b c d).level = 2 * 2 ^ a.level := Sq.two_succ _
    rw [e2p] at h
    have hp := Sq.two_pos a.level
    have ha : a = a' := sq_ext wa wa' el fun x y x0 x1 y0 y1 => by
      rw [← (g x0 x1 y0 y1).1, ← (g' x0 x1 y0 y1).1]
      exact h x y x0 (by omega) y0 (by omega)
    have hb : b = b' := sq_ext wb wb' (by omega) fun x y x0 x1 y0 y1 => by
      rw [e1] at x1 y1
      rw [← (g x0 x1 y0 y1).2.1, ← (g' x0 x1 y0 y1).2.1]
      exact h (x + 2 ^ a.level) y (by omega) (by omega) y0 (by omega)
    have hc : c = c' := sq_ext wc wc' (by omega) fun x y x0 x1 y0 y1 => by
      rw [e2] at x1 y1
      rw [← (g x0 x1 y0 y1).2.2.1, ← (g' x0 x1 y0 y1).2.2.1]
      exact h x (y + 2 ^ a.level) x0 (by omega) (by omega) (by omega)
    have hd : d = d' := sq_ext wd wd' (by omega) fun x y x0 x1 y0 y1 => by
      rw [e3] at x1 y1
      rw [← (g x0 x1 y0 y1).2.2.2, ← (g' x0 x1 y0 y1).2.2.2]
      exact h (x + 2 ^ a.level) (y + 2 ^ a.level) (by omega) (by omega) (by omega) (by omega)
    rw [ha, hb, hc, hd]
theorem least_le {S T : Sq} (wT : T.wf) (h1 : 1 ≤ S.level) (hL : T.Least) (hv : ∀ x y, S.val x y = T.val x y) : T.level ≤ S.level := by
  apply Decidable.byContradiction
  intro z
  rcases hL with e | ⟨h2, hl⟩
  · omega
  · obtain ⟨x, y, hxy, hn⟩ := least_out wT h2 hl
    rw [← hv] at hxy
    have y' := (val_in hxy).mono h1 (T.level - 1 - S.level)
    have e : S.level + (T.level - 1 - S.level) = T.level - 1 := by omega
    rw [e] at y'
    exact hn y'
theorem least_eq {S T : Sq} (wS : S.wf) (wT : T.wf) (hS1 : 1 ≤ S.level) (hT1 : 1 ≤ T.level) (hS : S.Least) (hT : T.Least) (hv : ∀ x y, S.val x y = T.val x y) : S = T := by
  have el : S.level = T.level := Nat.le_antisymm (least_le wS hT1 hS fun x y => (hv x y).symm) (least_le wT hS1 hT hv)
  have hh : S.half = T.half := by unfold Sq.half; rw [el]
  have h2 := half_two hS1
  refine sq_ext wS wT el fun x y x0 x1 y0 y1 => ?_
  have z := hv (x - S.half) (y - S.half)
  unfold Sq.val at z
  rw [← hh, if_pos (by omega), if_pos (by omega)] at z
  have e1 : x - S.half + S.half = x := by omega
  have e2 : y - S.half + S.half = y := by omega
  rw [e1, e2] at z
  exact z
end JF

/-! ### sorted by a key of one's own: rows of three numbers, by the second, then by the first -/
namespace JF
open PySem PySem.Spec PyProof.Rows L2
/-- a heap without one object -/
def dropAt (h : Heap) (k : Addr) : Heap := { h with objs := h.objs.setIfInBounds k { cls := .none, data := .freed } }
theorem dropAt_self (h : Heap) (k : Addr) : (dropAt h k).get? k = none := by
  unfold dropAt Heap.get?
  by_cases c : k < h.objs.size
  · simp [Array.getElem?_setIfInBounds, c]
  · simp [Array.getElem?_setIfInBounds, c]
theorem dropAt_ne (h : Heap) {k b : Addr} (n : b ≠ k) : (dropAt h k).get? b = h.get? b := by
  unfold dropAt Heap.get?
  simp [Array.getElem?_setIfInBounds, Ne.symm n]
def ordC (a b : Cell3) : Bool := decide (a.2.1 < b.2.1 ∨ (a.2.1 = b.2.1 ∧ a.1 ≤ b.1))
def byD (c : Cell3) : PyData := .tuple [.int c.2.1, .int c.1]
/-- what the key's function promises -/
def sp_by : Sp := fun vs H Q _ => ∃ (t : Addr) (x y s : Int), vs = [.ref t] ∧ H t = some (.tup [.int x, .int y, .int s]) ∧ ∀ u, H u = none → Q (.ref u) (upd H u (.tup [.int y, .int x]))
def rSortBy (K : PySem.W.Frag) (f : Addr) : List V → List V → Hp → VK → Prop := fun vs zs H Q => ∃ (p : Addr) (rs : List Addr) (cs : List Cell3), vs = [.ref p] ∧ zs = [.ref f] ∧ SqL K H p (rs.map V.ref) ∧ TR H rs (cs.map c3) ∧
  ∀ H' (rs' : List Addr) p', Same H H' → H p' = none → H' p' = some (.lst (rs'.map V.ref)) → TR H' rs' ((cs.mergeSort ordC).map c3) → Q (.ref p') H'
section
variable {X : Cx} {pins : List (Addr × Obj)} {σ : L2.St} {H : Hp} {s : Shared}
theorem reads_of {t : Addr} {y x : Int} (I : Inv X pins σ H s) (h : H t = some (.tup [.int y, .int x])) : Reads s.heap (.ref t) (.tuple [.int y, .int x]) [] := by
  obtain ⟨z, its, r, ob, e, c, n, d⟩ := I.hok t _ h
  obtain ⟨u1, u2, rfl, ⟨t1, rfl⟩, ⟨t2, rfl⟩⟩ := vals2 r
  exact Reads.tuple e c d (ReadsAll.cons (as := []) (bs := []) (Reads.int _ _) (ReadsAll.cons (as := []) (bs := []) (Reads.int _ _) ReadsAll.nil))
/-- where all but two objects of our own are kept, and one of these is a list now -/
theorem Inv.two {kS a : Addr} {s' : Shared} {ys : List V} {its : List Value} {n : Nat} (I : Inv X pins σ H s) (hos : s'.os = s.os) (bare : AllBare s'.gens) (k : ∀ b o, b ≠ kS → b ≠ a → s.heap.get? b = some o → s'.heap.get? b = some o) (hka : H kS = none) (ha : H a = none)
    (e : s'.heap.get? a = some { cls := .type "list", data := .seq its.toArray n }) (hv : Vals ys its) (hz : ys.length ≤ sizeLine)
    (own : ∀ b ∈ [kS, a], (b ∈ X.ex ∨ X.s_0.heap.objs.size ≤ b) ∧ b ≠ X.env.locals ∧ (∀ x c, X.env.cells.lookup x = some c → c ≠ b) ∧ ∀ p ∈ X.pn ++ pins, p.1 ≠ b) : Inv X pins σ (upd H a (.lst ys)) s' := by
  have out : ∀ {b : Addr}, b ∉ [kS, a] → b ≠ kS ∧ b ≠ a := fun {b} n => ⟨fun z => n (by rw [z]; exact List.mem_cons_self), fun z => n (by rw [z]; simp)⟩
  have ne : ∀ {b : Addr} {o : HO}, H b = some o → b ≠ kS ∧ b ≠ a := fun {b o} q => ⟨(fun z => by rw [z, hka] at q; cases q), fun z => by rw [z, ha] at q; cases q⟩
  refine I.call' (ch := [kS, a]) hos ⟨fun b o q _ _ nb => k b o (out nb).1 (out nb).2 q, fun b o q _ _ nb => ⟨o.slots, by rw [k b o (out nb).1 (out nb).2 q]⟩, fun b o q f nb => by rw [upd_ne (out nb).2]; exact f, fun b o q nb => ⟨o, k b o (out nb).1 (out nb).2 q⟩, fun b xs q => by rw [upd_ne (ne q).2]; exact q, fun b o u q => by rw [upd_ne (ne q).2]; exact q, fun b ps q => ⟨#[], by rw [upd_ne (ne q).2, q]; simp⟩⟩ (fun b o q => ?_) bare own
  by_cases c : b = a
  · rw [c, upd_same] at q
    cases q
    rw [c]
    exact ⟨hz, its, n, hv, e⟩
  · rw [upd_ne c] at q
    have nb := ne q
    refine (I.hok b o q).stay (fun d u hd g => ?_) (fun d q' => by rw [upd_ne (ne q').2]; exact q') fun d xs q' => by rw [upd_ne (ne q').2]; exact q'
    rcases hd with hd | hd
    · rw [hd] at g ⊢; exact k b u nb.1 nb.2 g
    · exact k d u (ne hd).1 (ne hd).2 g
/-- an address that is new to us -/
structure NewAt (X : Cx) (pins : List (Addr × Obj)) (b : Addr) : Prop where
  s0 : X.s_0.heap.objs.size ≤ b
  loc : b ≠ X.env.locals
  cell : ∀ x c, X.env.cells.lookup x = some c → c ≠ b
  pin : ∀ p ∈ X.pn ++ pins, p.1 ≠ b
  fs : b ∉ X.fs
theorem NewAt.of {b : Addr} (I : Inv X pins σ H s) (h : s.heap.objs.size ≤ b) : NewAt X pins b := by
  have lt : ∀ {c : Addr} {o : Obj}, s.heap.get? c = some o → c ≠ b := fun {c o} e z => by
    have l := Heap.lt_size e
    rw [z] at l
    exact absurd l (Nat.not_lt_of_le h)
  refine ⟨Nat.le_trans I.sz h, fun z => ?_, fun x c e => ?_, fun p hp => lt (I.pin p hp).1, I.nofs h⟩
  · have l := I.lt
    rw [← z] at l
    exact absurd l (Nat.not_lt_of_le h)
  · obtain ⟨v, hv⟩ := I.cell x c e
    obtain ⟨o, ho, _⟩ := hv
    exact lt ho
/-- one turn: the key of a row -/
theorem key_turn {x pn : Str} {j : Nat} {t : Addr} {c : Cell3} {E : Value → Shared → Prop} (G : Good X.prog X.w X.K X.mg X.base CX0 j (x, none) [pn] sp_by) (hr : Room (j + 2) X.A) (I : Inv X pins σ H s) (ht : H t = some (.tup ((c3 c).map V.int))) :
    wpAny (model X.prog X.w) X.A.in1.in1 (call (.ref (He.fAd X.K (x, none))) [.ref t]) (fun u s' => ∃ H' t', Inv X pins σ H' s' ∧ Same H H' ∧ u = .ref t' ∧ H' t' = some (.tup [.int c.2.1, .int c.1])) E s := by
  obtain ⟨fd, F, b, kp, lk⟩ := G
  have bb := b s [.ref t] I.kIn rfl
  rw [List.append_nil] at bb
  obtain ⟨cx, cy, cz⟩ := c
  have ht' : H t = some (.tup [.int cx, .int cy, .int cz]) := ht
  refine wpAny_call (codeAny_mono (F.run X.A.in1.in1 X.stack s H ⟨[.ref t], []⟩ [.ref t] [.ref t] (fun v H' => Same H H' ∧ ∃ t', v = .ref t' ∧ H' t' = some (.tup [.int cy, .int cx])) (fun _ _ _ => False) hr.in1.in1 I.env0.in1.in1 bb (.cons rfl .nil)
    ⟨t, cx, cy, cz, rfl, ht', fun u hu => ⟨same_upd hu, u, rfl, upd_same⟩⟩) fun r s' hq => ?_)
  cases r with
  | error e => exact hq.elim
  | ok fl =>
    cases fl with
    | ret u =>
      obtain ⟨v', H', I', rv, sm, t', rfl, e⟩ := I.after hq
      exact ⟨H', t', I', sm, rv, e⟩
    | next => exact hq.elim
    | brk => exact hq.elim
    | cont => exact hq.elim
def RKey (H : Hp) (v : Value) (c : Cell3) : Prop := ∃ t, v = .ref t ∧ H t = some (.tup [.int c.2.1, .int c.1])
def RRow (H : Hp) (v : Value) (c : Cell3) : Prop := ∃ t, v = .ref t ∧ H t = some (.tup ((c3 c).map V.int))
theorem rows_each {H : Hp} : ∀ {rs : List Addr} {its : List Value} {cs : List Cell3}, Vals (rs.map V.ref) its → TR H rs (cs.map c3) → PySem.W.EachIs (RRow H) its cs
  | [], its, [], r, _ => by
    cases r
    exact PySem.W.EachIs.nil
  | a :: rs, its, c :: cs, r, tr => by
    cases r with
    | cons r1 r2 =>
      cases r1
      exact PySem.W.EachIs.cons ⟨a, rfl, tr.1⟩ (rows_each r2 tr.2)
  | [], _, _ :: _, _, tr => tr.elim
  | _ :: _, _, [], _, tr => tr.elim
theorem each_rows {H : Hp} : ∀ {out : List Value} {cs : List Cell3}, PySem.W.EachIs (RRow H) out cs → ∃ rs : List Addr, Vals (rs.map V.ref) out ∧ TR H rs (cs.map c3) ∧ rs.length = cs.length
  | [], [], .nil => ⟨[], .nil, trivial, rfl⟩
  | v :: out, c :: cs, .cons h r => by
    obtain ⟨t, rfl, ht⟩ := h
    obtain ⟨rs, a, b, l⟩ := each_rows r
    exact ⟨t :: rs, .cons rfl a, ⟨ht, b⟩, by rw [List.length_cons, List.length_cons, l]⟩
abbrev seqL (its : Array Value) (n : Nat) : Obj := PyProof.Rows.seqObj "list" its n
/-- the pair of objects that is ours while the sorting goes on -/
abbrev pinsS (kS a : Addr) (kA : Array Value) (e e1 : Nat) (pins : List (Addr × Obj)) : List (Addr × Obj) := (kS, seqL kA e) :: (a, seqL #[] e1) :: pins
theorem pin_two {kS a : Addr} {kA : Array Value} {e e1 : Nat} (I : Inv X pins σ H s) (nk : NewAt X pins kS) (na : NewAt X pins a) (hk : H kS = none) (ha : H a = none) (gk : s.heap.get? kS = some (seqL kA e)) (ga : s.heap.get? a = some (seqL #[] e1)) : Inv X (pinsS kS a kA e e1 pins) σ H s :=
  I.pins_of fun p hp => by
    rcases List.mem_cons.mp hp with z | hp
    · rw [z]; exact ⟨gk, hk, nk.loc, nk.fs, fun v => by intro w; cases w⟩
    rcases List.mem_cons.mp hp with z | hp
    · rw [z]; exact ⟨ga, ha, na.loc, na.fs, fun v => by intro w; cases w⟩
    · exact I.pin p (List.mem_append_right _ hp)
theorem unpin_two {kS a : Addr} {kA : Array Value} {e e1 : Nat} (I : Inv X (pinsS kS a kA e e1 pins) σ H s) : Inv X pins σ H s := I.pins_of fun p hp => I.pin p (List.mem_append_right _ (List.mem_cons_of_mem _ (List.mem_cons_of_mem _ hp)))
/-- a key more is kept -/
theorem push_key {kS a : Addr} {kA : Array Value} {e e1 tk : Nat} {v : Value} (I : Inv X (pinsS kS a kA e e1 pins) σ H s) (nk : NewAt X pins kS) (na : NewAt X pins a) (hka : kS ≠ a) :
    ∃ e', Inv X (pinsS kS a (kA.push v) e' e1 pins) σ H { s with heap := s.heap.update kS (Obj.mapSeq (·.push v)), toks := tk } := by
  have pk := I.pin (kS, seqL kA e) (List.mem_append_right _ List.mem_cons_self)
  have pa := I.pin (a, seqL #[] e1) (List.mem_append_right _ (List.mem_cons_of_mem _ List.mem_cons_self))
  have gk := get?_update_seq pk.1 (·.push v)
  have oth : ∀ b o, b ≠ kS → s.heap.get? b = some o → (s.heap.update kS (Obj.mapSeq (·.push v))).get? b = some o := fun b o n q => (Heap.get?_update_other s.heap (Obj.mapSeq (·.push v)) (Ne.symm n)).trans q
  have I0 := unpin_two I
  have I1 : Inv X pins σ H { s with heap := s.heap.update kS (Obj.mapSeq (·.push v)), toks := tk } := I0.turned (it := kS) oth pk.2.1 nk.loc (.inr nk.s0) nk.cell nk.pin
  exact ⟨_, pin_two I1 nk na pk.2.1 pa.2.1 gk (oth _ _ hka.symm pa.1)⟩
open PySem.W in
/-- the keys, one by one, then the sorting -/
theorem sort_rest {x pn : Str} {j : Nat} {kS a : Addr} {e1 : Nat} {its : List Value} {cs : List Cell3} {E' : Value → Shared → Prop} {P : PySem.Fin → Shared → Prop} (G : Good X.prog X.w X.K X.mg X.base CX0 j (x, none) [pn] sp_by) (hr : Room (j + 2) X.A)
    (I : Inv X (pinsS kS a #[] 0 e1 pins) σ H s) (nk : NewAt X pins kS) (na : NewAt X pins a) (hka : kS ≠ a) (each : EachIs (RRow H) its cs) (hz : its.length ≤ sizeLine)
    (fin : ∀ (s' : Shared) (H' : Hp) (rs' : List Addr), Inv X pins σ (upd H' a (.lst (rs'.map V.ref))) s' → Same H H' → H' a = none → TR H' rs' ((cs.mergeSort ordC).map c3) → P (.done (.ret .none)) s') :
    wpAny (model X.prog X.w) X.A.in1.in1 (ksk_rest a (.ref (He.fAd X.K (x, none))) false its.toArray e1 (.ref kS)) P E' s := by
  have len := each.length
  have hu := hr.units
  unfold ksk_rest
  refine (wpAny_bind (wpAny_rule ?_))
  first
    | rw [List.forIn_toArray]
    | (rw [← Array.forIn_toList]; simp only [List.toList_toArray])
  refine (wpAny_bind (ksk_fold (fun i z => ∃ (Hi : Hp) (kA : Array Value) (e : Nat), Inv X (pinsS kS a kA e e1 pins) σ Hi z ∧ Same H Hi ∧ EachIs (RKey Hi) kA.toList (cs.take i)) its 0 s ⟨H, #[], 0, I, Same.refl _, by rw [List.take_zero]; exact EachIs.nil⟩ ?turn ?last))
  case turn =>
    rintro i v z hv ⟨Hi, kA, e, Iz, sm, hk⟩
    simp only [Nat.zero_add] at hk ⊢
    have hi : i < its.length := (List.getElem?_eq_some_iff.mp hv).1
    have hi2 : i < cs.length := by omega
    have hc : cs[i]? = some cs[i] := at_get hi2
    obtain ⟨t, rfl, ht⟩ : RRow H v cs[i] := each.zip (v, cs[i]) (List.mem_of_getElem? (i := i) (by rw [List.getElem?_zip_eq_some]; exact ⟨hv, hc⟩))
    have kl : kA.size ≤ its.length := by
      have q := hk.length
      rw [Array.length_toList, List.length_take] at q
      omega
    refine (wpAny_bind (wpAny_attempt (wpAny_mono (key_turn (E := fun _ _ => False) G hr Iz (sm _ _ ht)) (fun u z2 hq => ?_) fun _ _ bad => bad.elim)))
    obtain ⟨H2, t2, I2, sm2, rfl, ht2⟩ := hq
    have pk := I2.pin (kS, seqL kA e) (List.mem_append_right _ List.mem_cons_self)
    obtain ⟨e2, I3⟩ := push_key (tk := z2.toks) (v := .ref t2) I2 nk na hka
    have ek : cs.take (i + 1) = cs.take i ++ [cs[i]] := take_snoc hc
    refine (wpAny_bind (listUpdate_at pk.1 rfl ?_ (Nat.le_trans kl hz) (Nat.le_trans (Nat.le_of_eq (Array.size_push ..)) (Nat.succ_le_succ (Nat.le_trans kl hz)))))
    refine wpAny_pure ⟨rfl, H2, kA.push (.ref t2), e2, I3, sm.trans sm2, ?_⟩
    rw [ek, show (kA.push (.ref t2)).toList = kA.toList ++ [.ref t2] by simp]
    exact each_snoc ⟨t2, rfl, ht2⟩ (hk.mono fun u d ⟨t, h1, h2⟩ => ⟨t, h1, sm2 _ _ h2⟩)
  case last =>
    rintro z ⟨Hi, kA, e, Iz, sm, hk⟩
    have e3 : cs.take (0 + its.length) = cs := List.take_of_length_le (by omega)
    rw [e3] at hk
    have pk := Iz.pin (kS, seqL kA e) (List.mem_append_right _ List.mem_cons_self)
    have pa := Iz.pin (a, seqL #[] e1) (List.mem_append_right _ (List.mem_cons_of_mem _ List.mem_cons_self))
    have ksz : kA.size = its.length := by
      have q := hk.length
      rw [Array.length_toList] at q
      omega
    have hal : AllAlike (cs.map byD) := AllAlike.of fun _ _ => by simp [alike, alikeAll, byD]
    have hso : Sortable (cs.map byD) := Sortable.tuples fun _ => ⟨_, _, rfl⟩
    have reads : EachIs (fun v d => ∃ as, Reads z.heap v d as) kA.toList (cs.map byD) := each_map byD (hk.mono fun v c ⟨t, h1, h2⟩ => ⟨[], by rw [h1]; exact reads_of Iz h2⟩)
    refine (wpAny_bind (listItems_at pk.1 rfl ?_))
    refine keyH_end (κ := dataKind z.heap (cs.map byD)) (h₁ := dropAt z.heap kS) (fun b o nb q => ?_) (dropAt_self _ _) pk.1 pa.1 hka (SortsAt.data (s := z) reads hal hso fun d hd => ?_) ksz hz fun g tk n kb ng => ?_
    · by_cases c : b = kS
      · rw [c, dropAt_self] at q; cases q
      · rw [dropAt_ne _ c] at q; exact q
    · obtain ⟨c, _, rfl⟩ := List.mem_map.mp hd
      have hd1 : (byD c).depth = 1 := by simp [byD, PyData.depth, PyData.depthAll]
      show X.A.units + 2 + _ < cLine
      omega
    · have ko : KeyedOut false (cs.map byD) its (sortVals (dataKind z.heap (cs.map byD)) false kA.toList its) := ⟨z.heap, kA.toList, hal, rfl, reads⟩
      have eo := keyedOut_each byD ko each
      have ed : dataLe false byD = ordC := (dataLe_ii (fun c : Cell3 => c.2.1) (fun c => c.1)).trans rfl
      rw [ed] at eo
      obtain ⟨rs', rv, tr, rl⟩ := each_rows (eo.mono fun v c ⟨t, h1, h2⟩ => ⟨t, h1, sm _ _ h2⟩)
      have I0 := unpin_two Iz
      refine fin _ Hi rs' (Inv.two (kS := kS) (a := a) I0 rfl I0.bare (fun b o n1 n2 q => kb b o n2 (by rw [dropAt_ne _ n1]; exact q)) pk.2.1 pa.2.1 ng rv ?_ fun b hb => ?_) sm pa.2.1 tr
      · rw [List.length_map, rl, List.length_mergeSort]
        omega
      · rcases List.mem_cons.mp hb with c | hb
        · rw [c]; exact ⟨.inr nk.s0, nk.loc, nk.cell, nk.pin⟩
        · rw [List.mem_singleton] at hb
          rw [hb]; exact ⟨.inr na.s0, na.loc, na.cell, na.pin⟩
open PySem.W in
/-- sorted(rows, key=f), f a def that tells (second, first) -/
theorem cr_sortBy {x pn : Str} {j : Nat} (G : Good X.prog X.w X.K X.mg X.base CX0 j (x, none) [pn] sp_by) (hr : Room (j + 2) X.A) : CallRK X (.builtin "sorted") [Str.ofString "key"] (rSortBy X.K (He.fAd X.K (x, none))) := by
  intro pins s σ H vs zs us ws Q I r rz h
  obtain ⟨p, rs, cs, rfl, rfl, hs, tr, fin⟩ := h
  obtain rfl := Vals.ref1 r
  obtain ⟨w1, rfl, e1⟩ := vals1 rz
  obtain rfl : w1 = Value.ref (He.fAd X.K (x, none)) := e1
  obtain ⟨its, rv, hl, hz⟩ := I.list hs
  have each := rows_each rv tr
  have hz' : its.length ≤ sizeLine := by rw [← rv.length]; exact hz
  show wpAny (model X.prog X.w) X.A (call (.builtin "sorted") [.ref p] [(Str.ofString "key", .ref (He.fAd X.K (x, none)))]) (EP X pins σ Q) X.xe s
  refine sorted_of_sort hl.isList hz' (ksk_s1 _ _) (fun _ => ksk_l1 _ _) fun E' => ?_
  rw [ksk_t1]
  have old : ∀ b o, s.heap.get? b = some o → (copyHeap s.heap its).get? b = some o := fun b o q => copyHeap_old q
  obtain ⟨a, ha⟩ : ∃ a, a = s.heap.objs.size + 1 := ⟨_, rfl⟩
  have hat := copyHeap_at s.heap its
  rw [← ha] at hat ⊢
  have oa : ∀ b o, s.heap.get? b = some o → b ≠ a := fun b o q z => by
    have l := Heap.lt_size q
    rw [z, ha] at l
    exact absurd l (Nat.not_lt_of_le (Nat.le_succ _))
  have ge1 := get?_update_seq hat fun _ => (#[] : Array Value)
  generalize copyHeap s.heap its = h0 at *
  generalize (if (#[] : Array Value).size == its.toArray.size then 0 else 0 + 1) = ep at ge1
  have old1 : ∀ b o, s.heap.get? b = some o → (h0.update a (Obj.mapSeq fun _ => (#[] : Array Value))).get? b = some o := fun b o q => (Heap.get?_update_other h0 (Obj.mapSeq fun _ => (#[] : Array Value)) (Ne.symm (oa b o q))).trans (old b o q)
  unfold ksk_tree
  refine (wpAny_bind (listItems_at hat rfl ?_))
  refine (wpAny_bind (listUpdate_at hat rfl ?_ (by rw [List.size_toArray]; exact hz') (Nat.zero_le _)))
  refine (wpAny_bind (seqEpoch_at ge1 rfl ?_))
  refine (wpAny_bind (wpAny_newTuple ?_ (by show its.length ≤ _; exact hz')))
  refine (wpAny_bind (wpAny_newList ?_ (Nat.zero_le _)))
  refine (wpAny_holding ?_)
  have old2 : ∀ b o, s.heap.get? b = some o → (((h0.update a (Obj.mapSeq fun _ => (#[] : Array Value))).push (seqObj "tuple" its.toArray 0)).push (seqObj "list" #[] 0)).get? b = some o := fun b o q => Heap.get?_push_of_some _ (Heap.get?_push_of_some _ (old1 b o q))
  have ha2 : (((h0.update a (Obj.mapSeq fun _ => (#[] : Array Value))).push (seqObj "tuple" its.toArray 0)).push (seqObj "list" #[] 0)).get? a = some (seqObj "list" #[] ep) := Heap.get?_push_of_some _ (Heap.get?_push_of_some _ ge1)
  obtain ⟨kS, hkS⟩ : ∃ kS, kS = ((h0.update a (Obj.mapSeq fun _ => (#[] : Array Value))).push (seqObj "tuple" its.toArray 0)).objs.size := ⟨_, rfl⟩
  have hk2 : (((h0.update a (Obj.mapSeq fun _ => (#[] : Array Value))).push (seqObj "tuple" its.toArray 0)).push (seqObj "list" #[] 0)).get? kS = some (seqObj "list" #[] 0) := by rw [hkS]; exact Heap.get?_push_size _ rfl
  have ls : a < h0.objs.size := Heap.lt_size hat
  have sk : h0.objs.size < kS := by
    rw [hkS, Heap.size_push, Heap.size_update]
    exact Nat.lt_succ_self _
  have sza : s.heap.objs.size ≤ a := by rw [ha]; exact Nat.le_succ _
  have szk : s.heap.objs.size ≤ kS := Nat.le_trans sza (Nat.le_of_lt (Nat.lt_trans ls sk))
  have hka : kS ≠ a := fun z => by
    rw [z] at sk
    exact absurd sk (Nat.not_lt_of_lt ls)
  show wpAny _ _ (ksk_rest a (.ref (He.fAd X.K (x, none))) false its.toArray ep (.ref ((h0.update a (Obj.mapSeq fun _ => (#[] : Array Value))).push (seqObj "tuple" its.toArray 0)).objs.size)) _ _ _
  rw [← hkS]
  have I1 : Inv X pins σ H { s with heap := ((h0.update a (Obj.mapSeq fun _ => (#[] : Array Value))).push (seqObj "tuple" its.toArray 0)).push (seqObj "list" #[] 0) } := I.kept (t' := s.toks) old2
  have nk := NewAt.of I szk
  have na := NewAt.of I sza
  have Hk := I.hok.fresh szk
  have Ha := I.hok.fresh sza
  exact sort_rest G hr (pin_two I1 nk na Hk Ha hk2 ha2) nk na hka each hz' fun s' H' rs' I' sm ha' tr' => ⟨rfl, ⟨.ref a, _, I', rfl, fin _ rs' a (fun b o q => by rw [upd_ne (fun z => by rw [z, Ha] at q; cases q)]; exact sm _ _ q) Ha upd_same (tr'.keep fun b ys q => by rw [upd_ne (fun z => by rw [z, ha'] at q; cases q)]; exact q)⟩⟩
theorem cr_sortByK (K : PySem.W.Frag) (hK : X.K = K) {x pn : Str} {j : Nat} (G : Good X.prog X.w K X.mg X.base CX0 j (x, none) [pn] sp_by) (hr : Room (j + 2) X.A) : CallRK X (.builtin "sorted") [Str.ofString "key"] (rSortBy K (He.fAd K (x, none))) := by
  subst hK
  exact cr_sortBy G hr
theorem rd_ckw {r : List V → List V → Hp → VK → Prop} {t tk : TA} {σ : L2.St} {H : Hp} {Q : VK} (h : t σ H fun vs H1 => tk σ H1 fun zs H2 => r vs zs H2 Q) : tCKw r t tk σ H Q := h
end
end JF

/-! ### the cells of a field, told -/
namespace JF
open PySem PySem.Spec PyProof.Rows L2
/-- a cell as it is sorted -/
def yx (c : Cell3) : List Int := [c.2.1, c.1, c.2.2]
/-- a square's weight: the turns that its walk takes at most -/
def wgt : Sq → Nat
  | .leaf _ => 1
  | .node a b c d => 1 + wgt a + wgt b + wgt c + wgt d
theorem wgt_pos : ∀ S : Sq, 1 ≤ wgt S
  | .leaf _ => Nat.le_refl _
  | .node a b c d => by show 1 ≤ 1 + wgt a + wgt b + wgt c + wgt d; omega
/-- what waits: a square's number, the square, its place -/
abbrev Wt := Nat × Sq × Int × Int
def wtR (e : Wt) : List Int := [(e.1 : Int), e.2.2.1, e.2.2.2]
def wtW (ws : List Wt) : Nat := (ws.map fun e => wgt e.2.1).sum
def wtC (ws : List Wt) : List (List Int) := (ws.map fun e => wi e.2.1 e.2.2.1 e.2.2.2).flatten
theorem wtW_snoc (ws : List Wt) (e : Wt) : wtW (ws ++ [e]) = wtW ws + wgt e.2.1 := by simp [wtW]
theorem wtC_snoc (ws : List Wt) (e : Wt) : wtC (ws ++ [e]) = wtC ws ++ wi e.2.1 e.2.2.1 e.2.2.2 := by simp [wtC]
theorem TR.unsnoc {H : Hp} : ∀ {rs : List Addr} {xs : List (List Int)} {x : List Int}, TR H rs (xs ++ [x]) → ∃ rs' r, rs = rs' ++ [r] ∧ TR H rs' xs ∧ H r = some (.tup (x.map V.int))
  | [], [], _, h => h.elim
  | [], _ :: _, _, h => h.elim
  | r :: rs, [], x, h => by
    cases rs with
    | nil => exact ⟨[], r, rfl, trivial, h.1⟩
    | cons _ _ => exact h.2.elim
  | r :: rs, y :: xs, x, h => by
    obtain ⟨rs', r', e, h1, h2⟩ := TR.unsnoc (rs := rs) (xs := xs) h.2
    exact ⟨r :: rs', r', by rw [e]; rfl, ⟨h.1, h1⟩, h2⟩
theorem srt_by {S : Sq} (w : S.wf) (l1 : 1 ≤ S.level) {fc : List Cell3} (pm : (fc.map yx).Perm S.cells) : SrtL ((fc.mergeSort ordC).map yx) ∧ ((fc.mergeSort ordC).map yx).Perm S.cells := by
  have pm2 : ((fc.mergeSort ordC).map yx).Perm S.cells := ((List.mergeSort_perm fc ordC).map yx).trans pm
  refine ⟨?_, pm2⟩
  have tr : ∀ a b c : Cell3, ordC a b = true → ordC b c = true → ordC a c = true := fun a b c h1 h2 => by
    unfold ordC at *
    rw [decide_eq_true_eq] at *
    omega
  have tot : ∀ a b : Cell3, (ordC a b || ordC b a) = true := fun a b => by
    unfold ordC
    rw [Bool.or_eq_true, decide_eq_true_eq, decide_eq_true_eq]
    omega
  have p := List.pairwise_mergeSort tr tot fc
  refine List.pairwise_map.mpr (p.imp_of_mem fun {a b} ha hb h => ?_)
  have ma := (mem_cells w l1 _).mp (pm2.mem_iff.mp (List.mem_map.mpr ⟨a, ha, rfl⟩))
  have mb := (mem_cells w l1 _).mp (pm2.mem_iff.mp (List.mem_map.mpr ⟨b, hb, rfl⟩))
  obtain ⟨x, y, _, ea⟩ := ma
  obtain ⟨x', y', _, eb⟩ := mb
  simp only [yx, List.cons.injEq, and_true] at ea eb
  unfold ordC at h
  rw [decide_eq_true_eq] at h
  show lexL [b.2.1, b.1, b.2.2] [a.2.1, a.1, a.2.2] = false
  rw [lexL_cons, lexL_cons, lexL_cons, lexL_nil]
  by_cases c1 : b.2.1 = a.2.1
  · rw [if_pos c1]
    by_cases c2 : b.1 = a.1
    · have e : b.2.2 = a.2.2 := by
        rw [ea.2.2, eb.2.2]
        rw [show x' = x by omega, show y' = y by omega]
      rw [if_pos c2, if_pos e]
    · rw [if_neg c2, decide_eq_false_iff_not]
      omega
  · rw [if_neg c1, decide_eq_false_iff_not]
    omega
section
variable {P : Program} {w : World} {K : PySem.W.Frag} {mg : Str → Option Value} {base : Heap}
theorem ok_by_rows (T : Env fa fn K mg) : Good P w K mg base CX0 1 ("by_rows", none) ["cell"] sp_by := by
  refine good_mk T 1 (d := d_by_rows) (N := ["cell"]) (ps := ["cell"]) rfl rfl sc_by_rows (fun _ _ _ _ _ _ us hl => match us, hl with | [_], _ => rfl) (fun vs H Q E h => ?_) (fun f cdv A outer σ0 H vs Q E hr h => ?_)
  · obtain ⟨t, x, y, s, rfl, _⟩ := h; rfl
  · obtain ⟨t, x, y, s, rfl, ht, k⟩ := h
    refine ⟨_, (pss_one (ps_ret (pe_tup (pa_cons (pe_ix (ix_tupK K rfl) (pv 0) pe_int (fun _ _ => rfl)) (pa_cons (pe_ix (ix_tupK K rfl) (pv 0) pe_int (fun _ _ => rfl)) pa_nil))))), ?_⟩
    walk_at "rd"
    exact rd_new (hn := by show 2 ≤ sizeLine; decide) fun u hu => k u hu
def sp_cells_of (C : Addr) : Sp := fun vs H Q _ => ∃ (a : GA) (rows : List (Int × Addr)) (q : List Sq) (n : Nat) (S : Sq), vs = [.ref a.g, .int (n : Int)] ∧ GAt C H a rows q ∧ q[n]? = some S ∧ 1 ≤ S.level ∧ S.level ≤ 48 ∧ q.length ≤ 15000000 ∧ S.lives ≤ 4096 ∧
  ∀ H' l (cs : List Cell3), Same H H' → H l = none → TL H' l (cs.map c3) → SrtL (cs.map yx) → (cs.map yx).Perm S.cells → Q (.ref l) H'
theorem mp_cells_of {C : Addr} : MonP (sp_cells_of C) := fun vs H Q Q' E h ⟨a, rows, q, n, S, x1, x2, x3, x4, x5, x6, x7, k⟩ => ⟨a, rows, q, n, S, x1, x2, x3, x4, x5, x6, x7, fun H' l cs b c d e f => h _ _ (k H' l cs b c d e f)⟩
end
end JF

/-! ### dicts by places: their cells in a list, sorted; their columns and rows -/
namespace JF
open PySem PySem.Spec PyProof.Rows L2
/-- a cell as it is sorted -/
def yxL (c : Cell3) : List Int := [c.2.1, c.1, c.2.2]
theorem layC_offL : ∀ (cs : List Cell3) (v : Int → Int → Int) (x y : Int), (x, y) ∉ cs.map (fun c => (c.1, c.2.1)) → layC v cs x y = v x y
  | [], _, _, _, _ => rfl
  | c :: cs, v, x, y, h => by
    rw [List.map_cons, List.mem_cons, not_or] at h
    show layC (fun u w => if u = c.1 ∧ w = c.2.1 then c.2.2 else v u w) cs x y = v x y
    rw [layC_offL cs _ x y h.2, if_neg (fun z => h.1 (by rw [z.1, z.2]))]
theorem layC_mem : ∀ (cs : List Cell3) (f : Int → Int → Int) (x y s : Int), (cs.map fun c => (c.1, c.2.1)).Nodup → (x, y, s) ∈ cs → layC f cs x y = s
  | [], _, _, _, _, _, h => by cases h
  | c :: cs, f, x, y, s, nd, h => by
    rw [List.map_cons, List.nodup_cons] at nd
    rcases List.mem_cons.mp h with h | h
    · subst h
      show layC (fun u v => if u = x ∧ v = y then s else f u v) cs x y = s
      rw [layC_offL cs _ x y nd.1, if_pos ⟨rfl, rfl⟩]
    · exact layC_mem cs _ x y s nd.2 h
def cellD (e : List Key × V) : Cell3 := match e with
  | ([Sum.inl x, Sum.inl y], .int s) => (x, y, s)
  | _ => (0, 0, 0)
theorem cellD_nodup {kvs : List (List Key × V)} (h : PairD kvs) : ((kvs.map cellD).map fun c => (c.1, c.2.1)).Nodup := by
  rw [List.map_map]
  have p : kvs.Pairwise fun a b => a.1 ≠ b.1 := List.pairwise_map.mp h.1
  refine List.pairwise_map.mpr (p.imp_of_mem fun {a b} ha hb ne e => ?_)
  obtain ⟨x, y, s, rfl⟩ := h.2 a ha
  obtain ⟨x', y', s', rfl⟩ := h.2 b hb
  have e' : (x, y) = (x', y') := e
  obtain ⟨rfl, rfl⟩ := Prod.mk.inj e'
  exact ne rfl
theorem layC_dict {kvs : List (List Key × V)} (h : PairD kvs) (u v : Int) : layC (fun _ _ => 0) (kvs.map cellD) u v = dv kvs u v := by
  unfold dv
  cases e : valV kvs [Sum.inl u, Sum.inl v] with
  | none =>
    refine layC_offL _ _ _ _ fun z => ?_
    obtain ⟨c, hc, ec⟩ := List.mem_map.mp z
    obtain ⟨e', he, rfl⟩ := List.mem_map.mp hc
    obtain ⟨x, y, s, rfl⟩ := h.2 e' he
    have e2 : (x, y) = (u, v) := ec
    obtain ⟨rfl, rfl⟩ := Prod.mk.inj e2
    exact valV_nonek e (List.mem_map.mpr ⟨_, he, rfl⟩)
  | some z =>
    have hm := valV_mem e
    obtain ⟨x', y', s, e2⟩ := h.2 _ hm
    simp only [Prod.mk.injEq, List.cons.injEq, Sum.inl.injEq, and_true] at e2
    obtain ⟨⟨rfl, rfl⟩, rfl⟩ := e2
    exact layC_mem _ _ _ _ _ (cellD_nodup h) (List.mem_map.mpr ⟨_, hm, rfl⟩)
/-- a number among numbers: the least and the greatest -/
theorem least_of : ∀ (ns : List Int), ns ≠ [] → ∃ m ∈ ns, ∀ y ∈ ns, m ≤ y
  | [], h => absurd rfl h
  | [n], _ => ⟨n, List.mem_singleton.mpr rfl, fun y hy => by rw [List.mem_singleton] at hy; omega⟩
  | n :: k :: ns, _ => by
    obtain ⟨m, hm, le⟩ := least_of (k :: ns) (by simp)
    by_cases c : n ≤ m
    · refine ⟨n, List.mem_cons_self, fun y hy => ?_⟩
      rcases List.mem_cons.mp hy with e | e
      · omega
      · have := le y e; omega
    · refine ⟨m, List.mem_cons_of_mem _ hm, fun y hy => ?_⟩
      rcases List.mem_cons.mp hy with e | e
      · omega
      · exact le y e
theorem most_of : ∀ (ns : List Int), ns ≠ [] → ∃ m ∈ ns, ∀ y ∈ ns, y ≤ m
  | [], h => absurd rfl h
  | [n], _ => ⟨n, List.mem_singleton.mpr rfl, fun y hy => by rw [List.mem_singleton] at hy; omega⟩
  | n :: k :: ns, _ => by
    obtain ⟨m, hm, le⟩ := most_of (k :: ns) (by simp)
    by_cases c : m ≤ n
    · refine ⟨n, List.mem_cons_self, fun y hy => ?_⟩
      rcases List.mem_cons.mp hy with e | e
      · omega
      · have := le y e; omega
    · refine ⟨m, List.mem_cons_of_mem _ hm, fun y hy => ?_⟩
      rcases List.mem_cons.mp hy with e | e
      · omega
      · exact le y e
/-- cells with unlike places: what they say, in any order -/
theorem layC_perm {cs ds : List Cell3} (h : cs.Perm ds) (nd : (ds.map fun c => (c.1, c.2.1)).Nodup) (u v : Int) : layC (fun _ _ => 0) cs u v = layC (fun _ _ => 0) ds u v := by
  have nc : (cs.map fun c => (c.1, c.2.1)).Nodup := (h.map _).nodup_iff.mpr nd
  by_cases m : (u, v) ∈ ds.map fun c => (c.1, c.2.1)
  · obtain ⟨c, hc, e⟩ := List.mem_map.mp m
    obtain ⟨x, y, s⟩ := c
    simp only [Prod.mk.injEq] at e
    obtain ⟨rfl, rfl⟩ := e
    rw [layC_mem ds _ _ _ _ nd hc, layC_mem cs _ _ _ _ nc (h.mem_iff.mpr hc)]
  · have m2 : (u, v) ∉ cs.map fun c => (c.1, c.2.1) := fun z => m ((h.map _).mem_iff.mp z)
    rw [layC_offL _ _ _ _ m, layC_offL _ _ _ _ m2]
theorem srt_cs {fc : List Cell3} (nd : (fc.map fun c => (c.1, c.2.1)).Nodup) : SrtL ((fc.mergeSort ordC).map yxL) := by
  have tr : ∀ a b c : Cell3, ordC a b = true → ordC b c = true → ordC a c = true := fun a b c h1 h2 => by
    unfold ordC at *
    rw [decide_eq_true_eq] at *
    omega
  have tot : ∀ a b : Cell3, (ordC a b || ordC b a) = true := fun a b => by
    unfold ordC
    rw [Bool.or_eq_true, decide_eq_true_eq, decide_eq_true_eq]
    omega
  have p := List.pairwise_mergeSort tr tot fc
  have pm := List.mergeSort_perm fc ordC
  have n2 : ((fc.mergeSort ordC).map fun c => (c.1, c.2.1)).Nodup := (pm.map _).nodup_iff.mpr nd
  have p2 := List.pairwise_map.mp n2
  refine List.pairwise_map.mpr ((p.and p2).imp fun {a b} h => ?_)
  obtain ⟨h, ne⟩ := h
  unfold ordC at h
  rw [decide_eq_true_eq] at h
  show lexL [b.2.1, b.1, b.2.2] [a.2.1, a.1, a.2.2] = false
  rw [lexL_cons, lexL_cons, lexL_cons, lexL_nil]
  by_cases c1 : b.2.1 = a.2.1
  · rw [if_pos c1]
    by_cases c2 : b.1 = a.1
    · exact absurd (by rw [c1, c2]) ne
    · rw [if_neg c2, decide_eq_false_iff_not]
      omega
  · rw [if_neg c1, decide_eq_false_iff_not]
    omega
/-- a dict's column of its keys -/
def kcol (c : Nat) (e : List Key × V) : Int := [(cellD e).1, (cellD e).2.1].getD c 0
section
variable {K : PySem.W.Frag} {σ : L2.St} {H : Hp} {Q : VK}
theorem rd_colD {L i : Nat} {c : Int} {pd : Addr} {kvs : List (List Key × V)} (hi : i < σ.length) (hv : σ[L]? = some (some (.ref pd))) (hLi : L ≠ i) (h : H pd = some (.dT kvs)) (hP : PairD kvs) (hc : c = 0 ∨ c = 1) (hz : kvs.length ≤ sizeLine)
    (hd : ∀ D, H D = none → Q (.ref D) (upd H D (.lst ((kvs.map (kcol c.toNat)).map V.int)))) : tLockE (tLc (iKeys (tVar L)) (gName i) tYes (tOp (rIxT K) (tVar i) (tC (.int c))) [i]) σ H Q := by
  refine ⟨pd, .dT kvs, h, trivial, fun od => ?_⟩
  have F1 : (upd H pd (.frz od (.dT kvs))) pd = some (.frz od (.dT kvs)) := upd_same
  obtain ⟨H1, hH1⟩ : ∃ H1, H1 = upd H pd (.frz od (.dT kvs)) := ⟨_, rfl⟩
  rw [← hH1] at F1 ⊢
  refine rd_lc (rd_iK ⟨_, hv, pd, od, rfl, .inr ⟨kvs, F1, fun D hD => ?_⟩⟩)
  have Dpd : D ≠ pd := fun z => by rw [z, F1] at hD; cases hD
  have D0 : H D = none := by rw [hH1, upd_ne Dpd] at hD; exact hD
  have sm : ∀ o, Same H1 (upd H1 D o) := fun o => same_upd hD
  refine lc_it (walk_keysT (kvs := kvs)) (fun i H' => H' = upd H1 D (.lst (((kvs.take i).map (kcol c.toNat)).map V.int))) rfl (fun i H' _ e => by rw [e]; exact sm _ _ _ F1) ?_ ?_
  · rintro j v Ha Hb hj rfl ⟨rfl, kk, v0, tt, hk, rfl, ht⟩
    obtain ⟨x, y, s, e⟩ := hP.2 _ (List.mem_of_getElem? hk)
    simp only [Prod.mk.injEq] at e
    obtain ⟨rfl, rfl⟩ := e
    have ht' : (upd H1 D (.lst (((kvs.take j).map (kcol c.toNat)).map V.int))) tt = some (.tup [V.int x, V.int y]) := ht
    have hset : (((wipe σ [i]).set i (some (.ref tt)))[i]? : Option (Option V)) = some (some (.ref tt)) := by
      rw [List.getElem?_set_self (by rw [wipe_length]; exact hi)]
    refine rd_gname ⟨by simp only [wipe, List.set_set], ?_⟩
    refine rd_yes (iteT' (rd_op (rd_var hset (rd_c ?_))))
    have ek : atI [V.int x, V.int y] c = some (V.int (kcol c.toNat ([Sum.inl x, Sum.inl y], .int s))) := by
      rcases hc with rfl | rfl
      · exact atI_nat (j := 0) rfl
      · exact atI_nat (j := 1) rfl
    refine rd_ixT (SqT.of ht') ek ?_
    refine ⟨_, upd_same, ?_, ?_⟩
    · simp only [List.length_map, List.length_take]
      omega
    · rw [upd_upd, take_snoc hk, List.map_append, List.map_append]; rfl
  · rintro H' rfl
    rw [List.take_length]
    refine ⟨sm _ _ _ F1, ?_⟩
    have e : upd (upd H1 D (.lst ((kvs.map (kcol c.toNat)).map V.int))) pd (.dT kvs) = upd H D (.lst ((kvs.map (kcol c.toNat)).map V.int)) := by
      funext b
      by_cases z : b = pd
      · rw [z, upd_same, upd_ne Dpd.symm, h]
      · rw [upd_ne z]
        by_cases y : b = D
        · rw [y, upd_same, upd_same]
        · rw [upd_ne y, upd_ne y, hH1, upd_ne z]
    rw [e]
    exact hd D D0
end
section
variable {P : Program} {w : World} {K : PySem.W.Frag} {mg : Str → Option Value} {base : Heap}
theorem ok_by_rowsL (T : Env fa fn K mg) : Good P w K mg base CX0 1 ("_law_by_rows", none) ["_law_cell"] sp_by := by
  refine good_mk T 39 (d := d_w_by_rows) (N := ["_law_cell"]) (ps := ["_law_cell"]) rfl rfl sc_w_by_rows (fun _ _ _ _ _ _ us hl => match us, hl with | [_], _ => rfl) (fun vs H Q E h => ?_) (fun f cdv A outer σ0 H vs Q E hr h => ?_)
  · obtain ⟨t, x, y, s, rfl, _⟩ := h; rfl
  · obtain ⟨t, x, y, s, rfl, ht, k⟩ := h
    refine ⟨_, (pss_one (ps_ret (pe_tup (pa_cons (pe_ix (ix_tupK K rfl) (pv 0) pe_int (fun _ _ => rfl)) (pa_cons (pe_ix (ix_tupK K rfl) (pv 0) pe_int (fun _ _ => rfl)) pa_nil))))), ?_⟩
    walk_at "rd"
    exact rd_new (hn := by show 2 ≤ sizeLine; decide) fun u hu => k u hu
def sp_listed : Sp := fun vs H Q _ => ∃ (pd : Addr) (kvs : List (List Key × V)), vs = [.ref pd] ∧ H pd = some (.dT kvs) ∧ PairD kvs ∧ kvs.length ≤ 5000 ∧ ∀ H' l (cs : List Cell3), Same H H' → H l = none → TL H' l (cs.map c3) → cs.Perm (kvs.map cellD) → SrtL (cs.map yxL) → Q (.ref l) H'
theorem mp_listed : MonP sp_listed := fun vs H Q Q' E h ⟨pd, kvs, x1, x2, x3, x4, k⟩ => ⟨pd, kvs, x1, x2, x3, x4, fun H' l cs b c d e f => h _ _ (k H' l cs b c d e f)⟩
end
end JF

/-! ### rules: clauses and conditions -/
namespace JF
open PySem PySem.Spec PyProof.Rows L2
/-! #### the plain meaning -/
inductive Cond where
  | amt (s : Int) (ns : List Int)
  | plc (ws : List (Option Int))
structure Cla where
  taken : Option Int
  conds : List Cond
  made : Int
def wishOk : Option Int → Int → Bool
  | none, _ => true
  | some w, x => decide (w = x)
def plcOk : List (Option Int) → List Int → Bool
  | w :: ws, x :: xs => wishOk w x && plcOk ws xs
  | _, _ => true
def Cond.holds : Cond → List Int → Bool
  | amt s ns, xs => decide ((xs.count s : Int) ∈ ns)
  | plc ws, xs => plcOk ws xs
def Cla.fits (c : Cla) (cell : Int) (xs : List Int) : Bool := wishOk c.taken cell && c.conds.all fun k => k.holds xs
def firstFit (cell : Int) (xs : List Int) : List Cla → Option Nat
  | [] => none
  | c :: cs => if c.fits cell xs = true then some 0 else (firstFit cell xs cs).map (· + 1)
def ruleMakes (cs : List Cla) (cell : Int) (xs : List Int) : Int :=
  match firstFit cell xs cs with
  | none => cell
  | some i => (cs[i]?.map Cla.made).getD cell
def optV : Option Int → V
  | none => .non
  | some i => .int i
def optN : Option Nat → V
  | none => .non
  | some i => .int (i : Int)
/-! #### in the heap -/
def CondAt (K : PySem.W.Frag) (H : Hp) (v : V) : Cond → Prop
  | .amt s ns => ∃ p dx l, v = .ref p ∧ H p = some (.ins (He.ga K "Amount") dx [("state", .int s), ("numbers", .ref l)]) ∧ H l = some (.lst (ns.map V.int))
  | .plc ws => ∃ p dx l, v = .ref p ∧ H p = some (.ins (He.ga K "Places") dx [("wanted", .ref l)]) ∧ H l = some (.lst (ws.map optV))
def AllV {α : Type} (R : V → α → Prop) : List V → List α → Prop
  | [], [] => True
  | v :: vs, x :: xs => R v x ∧ AllV R vs xs
  | _, _ => False
theorem AllV.len {α : Type} {R : V → α → Prop} : ∀ {vs : List V} {xs : List α}, AllV R vs xs → vs.length = xs.length
  | [], [], _ => rfl
  | _ :: _, _ :: _, h => congrArg (· + 1) (AllV.len h.2)
  | [], _ :: _, h => h.elim
  | _ :: _, [], h => h.elim
theorem AllV.get {α : Type} {R : V → α → Prop} : ∀ {vs : List V} {xs : List α} {i : Nat} {v : V}, AllV R vs xs → vs[i]? = some v → ∃ x, xs[i]? = some x ∧ R v x
  | [], [], _, _, _, e => by simp at e
  | v :: vs, x :: xs, 0, _, h, e => by
    simp only [List.getElem?_cons_zero, Option.some.injEq] at e
    subst e
    exact ⟨x, rfl, h.1⟩
  | v :: vs, x :: xs, i + 1, _, h, e => by
    simp only [List.getElem?_cons_succ] at e ⊢
    exact AllV.get h.2 e
  | [], _ :: _, _, _, h, _ => h.elim
  | _ :: _, [], _, _, h, _ => h.elim
theorem AllV.imp {α : Type} {R R' : V → α → Prop} (k : ∀ v x, R v x → R' v x) : ∀ {vs : List V} {xs : List α}, AllV R vs xs → AllV R' vs xs
  | [], [], _ => trivial
  | _ :: _, _ :: _, h => ⟨k _ _ h.1, AllV.imp k h.2⟩
  | [], _ :: _, h => h.elim
  | _ :: _, [], h => h.elim
theorem AllV.app {α : Type} {R : V → α → Prop} {v : V} {x : α} (r : R v x) : ∀ {vs : List V} {xs : List α}, AllV R vs xs → AllV R (vs ++ [v]) (xs ++ [x])
  | [], [], _ => ⟨r, trivial⟩
  | _ :: _, _ :: _, h => ⟨h.1, AllV.app r h.2⟩
  | [], _ :: _, h => h.elim
  | _ :: _, [], h => h.elim
theorem CondAt.same {K : PySem.W.Frag} {H H' : Hp} {v : V} {c : Cond} (h : CondAt K H v c) (s : Same H H') : CondAt K H' v c := by
  cases c with
  | amt st ns =>
    obtain ⟨p, dx, l, e, h1, h2⟩ := h
    exact ⟨p, dx, l, e, s _ _ h1, s _ _ h2⟩
  | plc ws =>
    obtain ⟨p, dx, l, e, h1, h2⟩ := h
    exact ⟨p, dx, l, e, s _ _ h1, s _ _ h2⟩
def ClaAt (K : PySem.W.Frag) (H : Hp) (v : V) (c : Cla) : Prop := ∃ p dx l ps, v = .ref p ∧ H p = some (.ins (He.ga K "Clause") dx [("taken", optV c.taken), ("conditions", .ref l), ("made", .int c.made)]) ∧ H l = some (.lst ps) ∧ AllV (CondAt K H) ps c.conds
theorem ClaAt.same {K : PySem.W.Frag} {H H' : Hp} {v : V} {c : Cla} (h : ClaAt K H v c) (s : Same H H') : ClaAt K H' v c := by
  obtain ⟨p, dx, l, ps, e, h1, h2, h3⟩ := h
  exact ⟨p, dx, l, ps, e, s _ _ h1, s _ _ h2, h3.imp fun _ _ h => h.same s⟩
def RuleAt (K : PySem.W.Frag) (H : Hp) (v : V) (cs : List Cla) : Prop := ∃ p dx l ps, v = .ref p ∧ H p = some (.ins (He.ga K "Rule") dx [("clauses", .ref l)]) ∧ H l = some (.lst ps) ∧ AllV (ClaAt K H) ps cs
theorem RuleAt.same {K : PySem.W.Frag} {H H' : Hp} {v : V} {cs : List Cla} (h : RuleAt K H v cs) (s : Same H H') : RuleAt K H' v cs := by
  obtain ⟨p, dx, l, ps, e, h1, h2, h3⟩ := h
  exact ⟨p, dx, l, ps, e, s _ _ h1, s _ _ h2, h3.imp fun _ _ h => h.same s⟩
theorem inV_ints (i : Int) (ns : List Int) : inV (.int i) (ns.map V.int) = decide (i ∈ ns) := by
  induction ns with
  | nil => rfl
  | cons n ns ih =>
    have e : inV (.int i) ((n :: ns).map V.int) = (eqV (.int n) (.int i) || inV (.int i) (ns.map V.int)) := rfl
    rw [e, ih]
    by_cases h : i = n
    · subst h
      have : eqV (.int i) (.int i) = true := by simp [eqV]
      simp [this]
    · have : eqV (.int n) (.int i) = false := by simp [eqV, Ne.symm h]
      simp [this, h]
theorem flat_ints (ns : List Int) : (ns.map V.int).all flatV = true := by
  induction ns with
  | nil => rfl
  | cons n ns ih => exact ih
section
variable {K : PySem.W.Frag} {σ : L2.St} {H : Hp} {Q : VK}
theorem rd_inI {p : Addr} {i : Int} {ns : List Int} (h : SqL K H p (ns.map V.int)) (q : Q (.bl (decide (i ∈ ns))) H) : rIn K false (.int i) (.ref p) H Q := ⟨p, _, rfl, .inl h, rfl, flat_ints ns, by rw [inV_ints]; exact q⟩
theorem rd_make {C : Addr} {sp : Sp} {tr : TA} (h : tr σ H fun vs H1 => ∀ x dx, H1 x = none → H1 dx = none → dx ≠ x → sp (.ref x :: (vs ++ [])) (upd (upd H1 dx (.own x)) x (.ins C dx [])) (fun v H2 => v = .non ∧ Q (.ref x) H2) E0) : tMake C sp [] E0 tr σ H Q := h
theorem made_same2 {H : Hp} {x dx : Addr} {o o' : HO} (hx : H x = none) (hdx : H dx = none) : Same H (upd (upd H dx o) x o') := fun b u e => by
  rw [upd_ne (ne_of_none e hx), upd_ne (ne_of_none e hdx)]; exact e
theorem Same.put {H0 H : Hp} {p : Addr} {o : HO} (s : Same H0 H) (h : H0 p = none) : Same H0 (upd H p o) := fun b u e => by
  rw [upd_ne (ne_of_none e h)]; exact s b u e
end
section
variable {P : Program} {w : World} {K : PySem.W.Frag} {mg : Str → Option Value} {base : Heap}
/-! #### conditions on amounts -/
def sp_amt_init (C : Addr) : Sp := fun vs H Q _ => ∃ (p dx l : Addr) (s : Int), vs = [.ref p, .int s, .ref l] ∧ H p = some (.ins C dx []) ∧ Q .non (upd (upd H p (.ins C dx [("state", .int s)])) p (.ins C dx [("state", .int s), ("numbers", .ref l)]))
theorem ok_amt_init (T : Env fa fn K mg) : Good P w K mg base CX0 1 ("Amount", some "__init__") ["self", "state", "numbers"] (sp_amt_init (He.ga K "Amount")) := by
  refine good_mk T 5 (d := d_Amount_init) (N := ["self", "state", "numbers"]) (ps := ["self", "state", "numbers"]) rfl rfl sc_Amount_init (fun _ _ _ _ _ _ us hl => match us, hl with | [_, _, _], _ => rfl) (fun vs H Q E h => ?_) (fun f cdv A outer σ0 H vs Q E hr h => ?_)
  · obtain ⟨p, dx, l, s, rfl, _⟩ := h; rfl
  · obtain ⟨p, dx, l, s, rfl, hp, k⟩ := h
    have cl := T.cls 4
    refine ⟨_, (pss_cons (ps_fld (pv 0) (pv 1) rfl)
      (pss_one (ps_fld (pv 0) (pv 2) rfl))), ?_⟩
    walk_at "rd"
    refine ⟨p, _, dx, [], rfl, hp, cl, T.noat 61, by decide, ?_⟩
    walk_at "rd"
    refine ⟨p, _, dx, _, rfl, upd_same, cl, T.noat 60, (by show 1 < 1000; decide), ?_⟩
    exact k
def sp_amt_holds (C : Addr) : Sp := fun vs H Q _ => ∃ (p dx l r : Addr) (s : Int) (ns xs : List Int), vs = [.ref p, .ref r] ∧ H p = some (.ins C dx [("state", .int s), ("numbers", .ref l)]) ∧ H l = some (.lst (ns.map V.int)) ∧ H r = some (.lst (xs.map V.int)) ∧ Q (.bl ((Cond.amt s ns).holds xs)) H
theorem ok_amt_holds (T : Env fa fn K mg) : Good P w K mg base CX0 1 ("Amount", some "holds") ["self", "around"] (sp_amt_holds (He.ga K "Amount")) := by
  refine good_mk T 6 (d := d_Amount_holds) (N := ["self", "around"]) (ps := ["self", "around"]) rfl rfl sc_Amount_holds (fun _ _ _ _ _ _ us hl => match us, hl with | [_, _], _ => rfl) (fun vs H Q E h => ?_) (fun f cdv A outer σ0 H vs Q E hr h => ?_)
  · obtain ⟨p, dx, l, r, s, ns, xs, rfl, _⟩ := h; rfl
  · obtain ⟨p, dx, l, r, s, ns, xs, rfl, hp, hl, hx, k⟩ := h
    have cl := T.cls 4
    have n1 := T.noat 61
    have n2 := T.noat 60
    refine ⟨_, (pss_one (ps_ret (pe_cmpR (op_inK K rfl) (pe_bm PySem.F.plainAttrs_list PySem.F.slot_list_count PySem.F.type_list_count mt_lcount (pv 1) (pa_cons (pe_fldK K rfl (pv 0) rfl) pa_nil)) (pe_fldK K rfl (pv 0) rfl) (by first | exact nomark _ | rfl)))), ?_⟩
    walk_at "rd"
    refine rd_tyL hx ?_
    walk_at "rd"
    refine ⟨r, xs, s, rfl, rfl, SqL.of hx, ?_⟩
    walk_at "rd"
    exact rd_inI (SqL.of hl) k
/-! #### conditions on places -/
def sp_plc_init (C : Addr) : Sp := fun vs H Q _ => ∃ (p dx l : Addr), vs = [.ref p, .ref l] ∧ H p = some (.ins C dx []) ∧ Q .non (upd H p (.ins C dx [("wanted", .ref l)]))
theorem ok_plc_init (T : Env fa fn K mg) : Good P w K mg base CX0 1 ("Places", some "__init__") ["self", "wanted"] (sp_plc_init (He.ga K "Places")) := by
  refine good_mk T 8 (d := d_Places_init) (N := ["self", "wanted"]) (ps := ["self", "wanted"]) rfl rfl sc_Places_init (fun _ _ _ _ _ _ us hl => match us, hl with | [_, _], _ => rfl) (fun vs H Q E h => ?_) (fun f cdv A outer σ0 H vs Q E hr h => ?_)
  · obtain ⟨p, dx, l, rfl, _⟩ := h; rfl
  · obtain ⟨p, dx, l, rfl, hp, k⟩ := h
    have cl := T.cls 2
    refine ⟨_, (pss_one (ps_fld (pv 0) (pv 1) rfl)), ?_⟩
    walk_at "rd"
    refine ⟨p, _, dx, [], rfl, hp, cl, T.noat 65, by decide, ?_⟩
    exact k
def sp_plc_holds (C : Addr) : Sp := fun vs H Q _ => ∃ (p dx l r : Addr) (ws : List (Option Int)) (xs : List Int), vs = [.ref p, .ref r] ∧ H p = some (.ins C dx [("wanted", .ref l)]) ∧ H l = some (.lst (ws.map optV)) ∧ H r = some (.lst (xs.map V.int)) ∧ ws.length = 8 ∧ xs.length = 8 ∧ ∀ H', Same H H' → Q (.bl ((Cond.plc ws).holds xs)) H'
theorem plcOk_split : ∀ (ws : List (Option Int)) (xs : List Int) (i : Nat) (w : Option Int) (x : Int), ws[i]? = some w → xs[i]? = some x → wishOk w x = false → plcOk ws xs = false
  | w0 :: ws, x0 :: xs, 0, w, x, h1, h2, h3 => by
    simp only [List.getElem?_cons_zero, Option.some.injEq] at h1 h2
    subst h1 h2
    show (wishOk w0 x0 && plcOk ws xs) = false
    rw [h3]; rfl
  | w0 :: ws, x0 :: xs, i + 1, w, x, h1, h2, h3 => by
    show (wishOk w0 x0 && plcOk ws xs) = false
    rw [plcOk_split ws xs i w x h1 h2 h3, Bool.and_false]
  | [], _, _, _, _, h1, _, _ => by simp at h1
  | _ :: _, [], _, _, _, _, h2, _ => by simp at h2
theorem plcOk_all : ∀ (ws : List (Option Int)) (xs : List Int), (∀ (i : Nat) w x, ws[i]? = some w → xs[i]? = some x → wishOk w x = true) → plcOk ws xs = true
  | w :: ws, x :: xs, h => by
    show (wishOk w x && plcOk ws xs) = true
    rw [h 0 w x rfl rfl, plcOk_all ws xs fun i w' x' h1 h2 => h (i + 1) w' x' (by simpa using h1) (by simpa using h2)]; rfl
  | [], _, _ => rfl
  | _ :: _, [], _ => rfl
theorem ok_plc_holds (T : Env fa fn K mg) : Good P w K mg base CX0 1 ("Places", some "holds") ["self", "around"] (sp_plc_holds (He.ga K "Places")) := by
  refine good_mk T 9 (d := d_Places_holds) (N := ["self", "around", "wish", "state"]) (ps := ["self", "around"]) rfl rfl sc_Places_holds (fun _ _ _ _ _ _ us hl => match us, hl with | [_, _], _ => rfl) (fun vs H Q E h => ?_) (fun f cdv A outer σ0 H vs Q E hr h => ?_)
  · obtain ⟨p, dx, l, r, ws, xs, rfl, _⟩ := h; rfl
  · obtain ⟨p, dx, l, r, ws, xs, rfl, hp, hl, hx, hw8, hx8, k⟩ := h
    have cl := T.cls 2
    have n1 := T.noat 65
    refine ⟨_, (pss_cons (ps_for PassesOwn.never rfl (pi_zip (by rfl) (T.free 1) (pa_cons (pe_fldK K rfl (pv 0) rfl) (pa_cons (pv 1) pa_nil))) (pg_tup rfl (pgs_cons (pg_name (i := 2) sc_Places_holds.nd rfl (Or.inl rfl)) (pgs_cons (pg_name (i := 3) sc_Places_holds.nd rfl (Or.inl rfl)) pgs_nil))) (pss_one (ps_if (PW.pt (pw_and (pt_cmpR op_notN (pv 2) pe_non (nomark _)) (pw_and1 (pt_cmpR op_ne (pv 2) (pv 3) (nomark _))))) (pss_one (ps_ret pe_bl)) pss_nil)))
      (pss_one (ps_ret pe_bl))), ?_⟩
    walk_at "rd"
    refine ⟨l, r, _, _, rfl, SqL.of hl, SqL.of hx, ?_⟩
    refine RZ.for_zipL (xs := ws.map optV) (ys := xs.map V.int) (by simp [hw8, hx8]) (fun i σ H' => Same H H' ∧ (∀ (j : Nat) w x, j < i → ws[j]? = some w → xs[j]? = some x → wishOk w x = true) ∧ ∃ x2 x3 : Option V, σ = [some (.ref p), some (.ref r), x2, x3])
      ⟨Same.refl _, fun j w x h => by omega, none, none, rfl⟩ (fun i σ H' h => ⟨SqL.of (h.1 _ _ hl), SqL.of (h.1 _ _ hx)⟩) ?_ ?_
    · rintro i x y T' σ H1 hxi hyi ⟨s1, hall, x2, x3, rfl⟩ hT'
      obtain ⟨w_, hw_, rfl⟩ : ∃ w_, ws[i]? = some w_ ∧ x = optV w_ := by
        rw [List.getElem?_map] at hxi
        cases e : ws[i]? with
        | none => rw [e] at hxi; cases hxi
        | some c => rw [e] at hxi; exact ⟨c, rfl, (Option.some.inj hxi).symm⟩
      obtain ⟨z, hz, rfl⟩ : ∃ z, xs[i]? = some z ∧ y = .int z := by
        rw [List.getElem?_map] at hyi
        cases e : xs[i]? with
        | none => rw [e] at hyi; cases hyi
        | some c => rw [e] at hyi; exact ⟨c, rfl, (Option.some.inj hyi).symm⟩
      have s2 := same_upd (o := HO.tup [optV w_, V.int z]) hT'
      have hT2 : (upd H1 T' (HO.tup [optV w_, V.int z])) T' = some (.tup [optV w_, V.int z]) := upd_same
      have next : wishOk w_ z = true → ∀ (j : Nat) w x, j < i + 1 → ws[j]? = some w → xs[j]? = some x → wishOk w x = true := fun hk j w x hj h1 h2 => by
        rcases Nat.lt_or_ge j i with h | h
        · exact hall j w x h h1 h2
        · have e : j = i := by omega
          subst e
          rw [hw_] at h1; rw [hz] at h2
          cases h1; cases h2
          exact hk
      walk_at "rd"
      cases w_ with
      | none =>
        refine iteF ?_
        walk_at "rd"
        exact ⟨s1.trans s2, next rfl, _, _, rfl⟩
      | some w0 =>
        refine iteT ?_
        walk_at "rd"
        refine rd_neI ?_
        refine rd_bl ?_
        refine ite_nd (fun hne => ?_) (fun he => ?_)
        · walk_at "rd"
          have e : (Cond.plc ws).holds xs = false := plcOk_split ws xs i _ _ hw_ hz (by show decide (w0 = z) = false; exact decide_eq_false hne)
          rw [e] at k
          exact k _ (s1.trans s2)
        · walk_at "rd"
          exact ⟨s1.trans s2, next (by show decide (w0 = z) = true; exact decide_eq_true he), _, _, rfl⟩
    · rintro σ H' ⟨s1, hall, x2, x3, rfl⟩
      walk_at "rd"
      have e : (Cond.plc ws).holds xs = true := plcOk_all ws xs fun i w x h1 h2 => hall i w x (by have := (List.getElem?_eq_some_iff.mp h1).1; rw [List.length_map]; exact this) h1 h2
      rw [e] at k
      exact k _ s1
theorem mp_amt_holds {C : Addr} : MonP (sp_amt_holds C) := fun vs H Q Q' E h ⟨p, dx, l, r, s, ns, xs, x1, x2, x3, x4, q⟩ => ⟨p, dx, l, r, s, ns, xs, x1, x2, x3, x4, h _ _ q⟩
theorem mp_plc_holds {C : Addr} : MonP (sp_plc_holds C) := fun vs H Q Q' E h ⟨p, dx, l, r, ws, xs, x1, x2, x3, x4, x5, x6, q⟩ => ⟨p, dx, l, r, ws, xs, x1, x2, x3, x4, x5, x6, fun H' s => h _ _ (q H' s)⟩
/-! #### clauses -/
def sp_cla_init (C : Addr) : Sp := fun vs H Q _ => ∃ (p dx l : Addr) (t : Option Int) (m : Int), vs = [.ref p, optV t, .ref l, .int m] ∧ H p = some (.ins C dx []) ∧ ∀ H', (∀ b, b ≠ p → H' b = H b) → H' p = some (.ins C dx [("taken", optV t), ("conditions", .ref l), ("made", .int m)]) → Q .non H'
theorem ok_cla_init (T : Env fa fn K mg) : Good P w K mg base CX0 1 ("Clause", some "__init__") ["self", "taken", "conditions", "made"] (sp_cla_init (He.ga K "Clause")) := by
  refine good_mk T 12 (d := d_Clause_init) (N := ["self", "taken", "conditions", "made"]) (ps := ["self", "taken", "conditions", "made"]) rfl rfl sc_Clause_init (fun _ _ _ _ _ _ us hl => match us, hl with | [_, _, _, _], _ => rfl) (fun vs H Q E h => ?_) (fun f cdv A outer σ0 H vs Q E hr h => ?_)
  · obtain ⟨p, dx, l, t, m, rfl, _⟩ := h; rfl
  · obtain ⟨p, dx, l, t, m, rfl, hp, k⟩ := h
    have cl := T.cls 7
    refine ⟨_, (pss_cons (ps_fld (pv 0) (pv 1) rfl)
      (pss_cons (ps_fld (pv 0) (pv 2) rfl)
      (pss_one (ps_fld (pv 0) (pv 3) rfl)))), ?_⟩
    walk_at "rd"
    refine ⟨p, _, dx, [], rfl, hp, cl, T.noat 64, by decide, ?_⟩
    walk_at "rd"
    refine ⟨p, _, dx, _, rfl, upd_same, cl, T.noat 62, (by show 1 < 1000; decide), ?_⟩
    walk_at "rd"
    refine ⟨p, _, dx, _, rfl, upd_same, cl, T.noat 63, (by show 2 < 1000; decide), ?_⟩
    exact k _ (fun b hb => by rw [upd_ne hb, upd_ne hb, upd_ne hb]) upd_same
def CondOk : Cond → Prop
  | .amt _ _ => True
  | .plc ws => ws.length = 8
def sp_fits (K : PySem.W.Frag) : Sp := fun vs H Q _ => ∃ (v : V) (r : Addr) (c : Cla) (cell : Int) (xs : List Int), vs = [v, .int cell, .ref r] ∧ ClaAt K H v c ∧ H r = some (.lst (xs.map V.int)) ∧ xs.length = 8 ∧ (∀ k ∈ c.conds, CondOk k) ∧ ∀ H', Same H H' → Q (.bl (c.fits cell xs)) H'
theorem mp_fits : MonP (sp_fits K) := fun vs H Q Q' E h ⟨v, r, c, cell, xs, x1, x2, x3, x4, x5, k⟩ => ⟨v, r, c, cell, xs, x1, x2, x3, x4, x5, fun H' s => h _ _ (k H' s)⟩
theorem ok_fits (T : Env fa fn K mg) : Good P w K mg base CX0 2 ("Clause", some "fits") ["self", "cell", "around"] (sp_fits K) := by
  have G_Amount_holds := ok_amt_holds (P := P) (w := w) (base := base) T
  have G_Places_holds := ok_plc_holds (P := P) (w := w) (base := base) T
  refine good_mk T 13 (d := d_Clause_fits) (N := ["self", "cell", "around", "condition"]) (ps := ["self", "cell", "around"]) rfl rfl sc_Clause_fits (fun _ _ _ _ _ _ us hl => match us, hl with | [_, _, _], _ => rfl) (fun vs H Q E h => ?_) (fun f cdv A outer σ0 H vs Q E hr h => ?_)
  · obtain ⟨v, r, c, cell, xs, rfl, _⟩ := h; rfl
  · obtain ⟨v, r, c, cell, xs, rfl, ⟨p, dx, l, ps, rfl, hp, hl, hc⟩, hx, hx8, hok, k⟩ := h
    have cl := T.cls 7
    have n1 := T.noat 64
    have n2 := T.noat 62
    refine ⟨_, (pss_cons (ps_if (PW.pt (pw_and (pt_cmpR op_notN (pe_fldK K rfl (pv 0) rfl) pe_non (nomark _)) (pw_and1 (pt_cmpR op_ne (pe_fldK K rfl (pv 0) rfl) (pv 1) (nomark _))))) (pss_one (ps_ret pe_bl)) pss_nil)
      (pss_cons (ps_for PassesOwn.never rfl (pi_listK K rfl (pe_fldK K rfl (pv 0) rfl)) (pg_name (i := 3) sc_Clause_fits.nd rfl (Or.inl rfl)) (pss_one (ps_if (pt_not (pt_val (pe_or (pe_mgK K rfl (pv 3) (T.cls 4) (T.meth 5) G_Amount_holds (hr.mono (by decide)) (pa_cons (pv 2) pa_nil)) (pe_mgK K rfl (pv 3) (T.cls 2) (T.meth 3) G_Places_holds (hr.mono (by decide)) (pa_cons (pv 2) pa_nil))))) (pss_one (ps_ret pe_bl)) pss_nil)))
      (pss_one (ps_ret pe_bl)))), ?_⟩
    have main : wishOk c.taken cell = true → ∀ D : Ends, (D.nx = fun x H' => Q .non H') → D.rt = Q → True := fun _ _ _ _ => trivial
    refine rd_cut (fun σ H' => H' = H ∧ wishOk c.taken cell = true ∧ σ = [some (.ref p), some (.int cell), some (.ref r), none]) (by walk_at "mono") ?_ ?_
    · walk_at "rd"
      obtain ⟨ct, cc, cm⟩ := c
      cases ct with
      | none =>
        refine iteF ?_
        walk_at "rd"
        exact ⟨rfl, rfl, rfl⟩
      | some t =>
        refine iteT ?_
        walk_at "rd"
        refine rd_neI ?_
        refine rd_bl ?_
        refine ite_nd (fun hne => ?_) (fun he => ?_)
        · walk_at "rd"
          have e : (Cla.fits ⟨some t, cc, cm⟩ cell xs) = false := by
            show (decide (t = cell) && _) = false
            rw [decide_eq_false hne]; rfl
          rw [e] at k
          exact k _ (Same.refl _)
        · walk_at "rd"
          exact ⟨rfl, decide_eq_true he, rfl⟩
    rintro σ H1 ⟨rfl, hw, rfl⟩
    walk_at "rd"
    refine ⟨l, rfl, ⟨_, SqL.of hl⟩, ?_⟩
    refine for_it (walk_list (xs := ps)) (fun i σ H' => Same H1 H' ∧ (∀ (j : Nat) kc, j < i → c.conds[j]? = some kc → kc.holds xs = true) ∧ ∃ x3 : Option V, σ = [some (.ref p), some (.int cell), some (.ref r), x3]) ⟨Same.refl _, fun j kc h => by omega, none, rfl⟩ ?_ ?_ ?_
    · rintro i σ H' _ ⟨s1, _⟩
      exact SqL.of (s1 _ _ hl)
    · rintro i x σ Ha Hb hi ⟨s1, hall, x3, rfl⟩ ⟨rfl, hxi⟩
      obtain ⟨kc, hkc, hat⟩ := hc.get hxi
      have hok1 := hok kc (List.mem_of_getElem? hkc)
      have hat' := hat.same s1
      have hx' := s1 _ _ hx
      have stop : kc.holds xs = false → ∀ H', Same H1 H' → Q (.bl false) H' := fun he H' s => by
        have e : c.fits cell xs = false := by
          show (wishOk c.taken cell && c.conds.all fun k => k.holds xs) = false
          have e2 : (c.conds.all fun k => k.holds xs) = false := by
            rw [List.all_eq_false]
            exact ⟨kc, List.mem_of_getElem? hkc, by simp [he]⟩
          rw [e2, Bool.and_false]
        rw [e] at k
        exact k _ s
      have next : kc.holds xs = true → ∀ (j : Nat) kc', j < i + 1 → c.conds[j]? = some kc' → kc'.holds xs = true := fun hk j kc' hj h1 => by
        rcases Nat.lt_or_ge j i with h | h
        · exact hall j kc' h h1
        · have e : j = i := by omega
          subst e
          rw [hkc] at h1
          cases h1
          exact hk
      walk_at "rd"
      cases kc with
      | amt st ns =>
        obtain ⟨q, dq, lq, rfl, hq, hlq⟩ := hat'
        left
        walk_at "rd"
        refine rd_methR hq (by rfl) ?_
        walk_at "rd"
        refine ⟨q, dq, lq, r, st, ns, xs, rfl, hq, hlq, hx', ?_⟩
        refine ⟨_, rfl, ?_⟩
        refine ite_nb (fun hb => ?_) (fun hb => ?_)
        · walk_at "rd"
          exact stop hb _ s1
        · walk_at "rd"
          exact ⟨s1, next hb, _, rfl⟩
      | plc ws =>
        obtain ⟨q, dq, lq, rfl, hq, hlq⟩ := hat'
        right
        walk_at "rd"
        refine rd_methR hq (by rfl) ?_
        walk_at "rd"
        refine ⟨q, dq, lq, r, ws, xs, rfl, hq, hlq, hx', hok1, hx8, fun H2 s2 => ?_⟩
        refine ⟨_, rfl, ?_⟩
        refine ite_nb (fun hb => ?_) (fun hb => ?_)
        · walk_at "rd"
          exact stop hb _ (s1.trans s2)
        · walk_at "rd"
          exact ⟨s1.trans s2, next hb, _, rfl⟩
    · rintro σ H' ⟨s1, hall, x3, rfl⟩
      walk_at "rd"
      have e : c.fits cell xs = true := by
        show (wishOk c.taken cell && c.conds.all fun k => k.holds xs) = true
        have e2 : (c.conds.all fun k => k.holds xs) = true := by
          rw [List.all_eq_true]
          intro kc hm
          obtain ⟨j, hj, rfl⟩ := List.mem_iff_getElem.mp hm
          exact hall j _ (by rw [hc.len]; exact hj) (at_get hj)
        rw [hw, e2]; rfl
      rw [e] at k
      exact k _ s1
end
end JF

/-! ### rules: deciding, reading -/
namespace JF
open PySem PySem.Spec PyProof.Rows L2
theorem fit_at {cell : Int} {xs : List Int} : ∀ {cs : List Cla} {i : Nat} {c : Cla}, (∀ (j : Nat) d, j < i → cs[j]? = some d → d.fits cell xs = false) → cs[i]? = some c → c.fits cell xs = true → firstFit cell xs cs = some i
  | d :: cs, 0, c, _, h2, h3 => by
    simp only [List.getElem?_cons_zero, Option.some.injEq] at h2
    subst h2
    unfold firstFit
    rw [if_pos h3]
  | d :: cs, i + 1, c, h1, h2, h3 => by
    unfold firstFit
    rw [if_neg (by rw [h1 0 d (by omega) rfl]; decide), fit_at (i := i) (c := c) (fun j d' hj e => h1 (j + 1) d' (by omega) (by simpa using e)) (by simpa using h2) h3]
    rfl
  | [], _, _, _, h2, _ => by simp at h2
theorem fit_none {cell : Int} {xs : List Int} : ∀ {cs : List Cla}, (∀ (j : Nat) d, cs[j]? = some d → d.fits cell xs = false) → firstFit cell xs cs = none
  | [], _ => rfl
  | d :: cs, h => by
    unfold firstFit
    rw [if_neg (by rw [h 0 d rfl]; decide), fit_none fun j d' e => h (j + 1) d' (by simpa using e)]
    rfl
theorem fit_lt {cell : Int} {xs : List Int} : ∀ {cs : List Cla} {i : Nat}, firstFit cell xs cs = some i → ∃ c, cs[i]? = some c ∧ c.fits cell xs = true
  | d :: cs, i, h => by
    unfold firstFit at h
    by_cases z : d.fits cell xs = true
    · rw [if_pos z] at h
      cases h
      exact ⟨d, rfl, z⟩
    · rw [if_neg z] at h
      cases e : firstFit cell xs cs with
      | none => rw [e] at h; cases h
      | some j =>
        rw [e] at h
        cases h
        obtain ⟨c, h1, h2⟩ := fit_lt e
        exact ⟨c, by simpa using h1, h2⟩
  | [], _, h => by cases h
def RuleOk (cs : List Cla) : Prop := ∀ c ∈ cs, ∀ k ∈ c.conds, CondOk k
section
variable {P : Program} {w : World} {K : PySem.W.Frag} {mg : Str → Option Value} {base : Heap}
def sp_deciding (K : PySem.W.Frag) : Sp := fun vs H Q _ => ∃ (v : V) (r : Addr) (cs : List Cla) (cell : Int) (xs : List Int), vs = [v, .int cell, .ref r] ∧ RuleAt K H v cs ∧ H r = some (.lst (xs.map V.int)) ∧ xs.length = 8 ∧ RuleOk cs ∧ ∀ H', Same H H' → Q (optN (firstFit cell xs cs)) H'
theorem mp_deciding : MonP (sp_deciding K) := fun vs H Q Q' E h ⟨v, r, cs, cell, xs, x1, x2, x3, x4, x5, k⟩ => ⟨v, r, cs, cell, xs, x1, x2, x3, x4, x5, fun H' s => h _ _ (k H' s)⟩
theorem ok_deciding (T : Env fa fn K mg) : Good P w K mg base CX0 3 ("deciding", none) ["rule", "cell", "around"] (sp_deciding K) := by
  have G_Clause_fits := ok_fits (P := P) (w := w) (base := base) T
  refine good_mk T 17 (d := d_deciding) (N := ["rule", "cell", "around", "at", "clause"]) (ps := ["rule", "cell", "around"]) rfl rfl sc_deciding (fun _ _ _ _ _ _ us hl => match us, hl with | [_, _, _], _ => rfl) (fun vs H Q E h => ?_) (fun f cdv A outer σ0 H vs Q E hr h => ?_)
  · obtain ⟨v, r, cs, cell, xs, rfl, _⟩ := h; rfl
  · obtain ⟨v, r, cs, cell, xs, rfl, ⟨p, dx, l, ps, rfl, hp, hl, hc⟩, hx, hx8, hok, k⟩ := h
    have cl := T.cls 67
    have clc := T.cls 7
    have n1 := T.noat 66
    refine ⟨_, (pss_cons (ps_for PassesOwn.never rfl (pi_enum (by rfl) (T.free 6) (pa_cons (pe_fldK K rfl (pv 0) rfl) pa_nil)) (pg_tup rfl (pgs_cons (pg_name (i := 3) sc_deciding.nd rfl (Or.inl rfl)) (pgs_cons (pg_name (i := 4) sc_deciding.nd rfl (Or.inl rfl)) pgs_nil))) (pss_one (ps_if (pt_val (pe_mgK K rfl (pv 4) (T.cls 7) (T.meth 8) G_Clause_fits (hr.mono (by decide)) (pa_cons (pv 1) (pa_cons (pv 2) pa_nil)))) (pss_one (ps_ret (pv 3))) pss_nil)))
      (pss_one (ps_ret pe_non))), ?_⟩
    walk_at "rd"
    refine ⟨l, ps, rfl, SqL.of hl, ?_⟩
    refine for_it (walk_enum (xs := ps)) (fun i σ H' => Same H H' ∧ (∀ (j : Nat) d, j < i → cs[j]? = some d → d.fits cell xs = false) ∧ ∃ x3 x4 : Option V, σ = [some (.ref p), some (.int cell), some (.ref r), x3, x4]) ⟨Same.refl _, fun j d h => by omega, none, none, rfl⟩ ?_ ?_ ?_
    · rintro i σ H' _ ⟨s1, _⟩
      exact SqL.of (s1 _ _ hl)
    · rintro i x σ Ha Hb hi ⟨s1, hall, x3, x4, rfl⟩ ⟨t, u, v, rfl, ht, rfl, eu, ev⟩
      cases eu
      obtain ⟨c, hcc, hat⟩ := hc.get ev
      have s2 := same_upd (o := HO.tup [V.int (i : Nat), v]) ht
      have hT : (upd Ha t (HO.tup [V.int (i : Nat), v])) t = some (.tup [V.int (i : Nat), v]) := upd_same
      have s12 := s1.trans s2
      have hat' := hat.same s12
      obtain ⟨q, dq, lq, pq, rfl, hq, _⟩ := id hat'
      walk_at "rd"
      refine rd_methR hq (by rfl) ?_
      walk_at "rd"
      refine ⟨_, r, c, cell, xs, rfl, hat', s12 _ _ hx, hx8, hok c (List.mem_of_getElem? hcc), fun H3 s3 => ?_⟩
      refine ⟨_, rfl, ?_⟩
      refine ite_b (fun hb => ?_) (fun hb => ?_)
      · walk_at "rd"
        have e : firstFit cell xs cs = some i := fit_at hall hcc hb
        rw [e] at k
        exact k _ (s12.trans s3)
      · walk_at "rd"
        refine ⟨s12.trans s3, fun j d hj h1 => ?_, _, _, rfl⟩
        rcases Nat.lt_or_ge j i with h | h
        · exact hall j d h h1
        · have e : j = i := by omega
          subst e
          rw [hcc] at h1
          cases h1
          exact hb
    · rintro σ H' ⟨s1, hall, x3, x4, rfl⟩
      walk_at "rd"
      have e : firstFit cell xs cs = none := fit_none fun j d h1 => hall j d (by rw [hc.len]; exact (List.getElem?_eq_some_iff.mp h1).1) h1
      rw [e] at k
      exact k _ s1
def sp_becomes (K : PySem.W.Frag) : Sp := fun vs H Q _ => ∃ (v : V) (r : Addr) (cs : List Cla) (cell : Int) (xs : List Int), vs = [v, .int cell, .ref r] ∧ RuleAt K H v cs ∧ H r = some (.lst (xs.map V.int)) ∧ xs.length = 8 ∧ RuleOk cs ∧ ∀ H', Same H H' → Q (.int (ruleMakes cs cell xs)) H'
theorem mp_becomes : MonP (sp_becomes K) := fun vs H Q Q' E h ⟨v, r, cs, cell, xs, x1, x2, x3, x4, x5, k⟩ => ⟨v, r, cs, cell, xs, x1, x2, x3, x4, x5, fun H' s => h _ _ (k H' s)⟩
theorem AllV.at {α : Type} {R : V → α → Prop} : ∀ {vs : List V} {xs : List α} {i : Nat} {x : α}, AllV R vs xs → xs[i]? = some x → ∃ v, vs[i]? = some v ∧ R v x
  | [], [], _, _, _, e => by simp at e
  | v :: vs, x :: xs, 0, _, h, e => by
    simp only [List.getElem?_cons_zero, Option.some.injEq] at e
    subst e
    exact ⟨v, rfl, h.1⟩
  | v :: vs, x :: xs, i + 1, _, h, e => by
    simp only [List.getElem?_cons_succ] at e ⊢
    exact AllV.at h.2 e
  | [], _ :: _, _, _, h, _ => h.elim
  | _ :: _, [], _, _, h, _ => h.elim
theorem ok_becomes (T : Env fa fn K mg) : Good P w K mg base CX0 4 ("becomes", none) ["rule", "cell", "around"] (sp_becomes K) := by
  have G_deciding := ok_deciding (P := P) (w := w) (base := base) T
  refine good_mk T 18 (d := d_becomes) (N := ["rule", "cell", "around", "at"]) (ps := ["rule", "cell", "around"]) rfl rfl sc_becomes (fun _ _ _ _ _ _ us hl => match us, hl with | [_, _, _], _ => rfl) (fun vs H Q E h => ?_) (fun f cdv A outer σ0 H vs Q E hr h => ?_)
  · obtain ⟨v, r, cs, cell, xs, rfl, _⟩ := h; rfl
  · obtain ⟨v, r, cs, cell, xs, rfl, hR, hx, hx8, hok, k⟩ := h
    have cl := T.cls 67
    have clc := T.cls 7
    have n1 := T.noat 66
    have n2 := T.noat 63
    refine ⟨_, (pss_cons (ps_set (i := 3) sc_becomes.nd rfl (Or.inl rfl) (pe_cgK K rfl G_deciding (hr.mono (by decide)) (T.glo 9) (pa_cons (pv 0) (pa_cons (pv 1) (pa_cons (pv 2) pa_nil)))))
      (pss_cons (ps_if (pt_cmpR op_isN (pv 3) pe_non (nomark _)) (pss_one (ps_ret (pv 1))) pss_nil)
      (pss_one (ps_ret (pe_fldK K rfl (pe_ix (ix_listK K rfl) (pe_fldK K rfl (pv 0) rfl) (pv 3) (fun _ _ => rfl)) rfl))))), ?_⟩
    walk_at "rd"
    refine ⟨_, r, cs, cell, xs, rfl, hR, hx, hx8, hok, fun H2 s2 => ?_⟩
    obtain ⟨p, dx, l, ps, rfl, hp, hl, hc⟩ := hR.same s2
    cases e : firstFit cell xs cs with
    | none =>
      have em : ruleMakes cs cell xs = cell := by unfold ruleMakes; rw [e]
      rw [em] at k
      walk_at "rd"
      refine iteT ?_
      walk_at "rd"
      exact k _ s2
    | some i =>
      obtain ⟨c, hcc, _⟩ := fit_lt e
      have em : ruleMakes cs cell xs = c.made := by
        unfold ruleMakes
        rw [e]
        show (cs[i]?.map Cla.made).getD cell = c.made
        rw [hcc]; rfl
      rw [em] at k
      obtain ⟨v, hv, q, dq, lq, pq, rfl, hq, _⟩ := hc.at hcc
      walk_at "rd"
      refine iteF ?_
      walk_at "rd"
      refine rd_ixL (SqL.of hl) (atI_nat hv) ?_
      walk_at "rd"
      exact k _ s2
/-! #### reading -/
abbrev tx (l : List Nat) : Str := ⟨l.toArray⟩
def wishT : Option Int → Nat
  | none => 42
  | some i => 48 + i.toNat
def condT : Cond → List Nat
  | .amt s ns => (48 + s.toNat) :: 61 :: ns.map fun n => 48 + n.toNat
  | .plc ws => ws.map wishT
def claW (c : Cla) : List (List Nat) := [wishT c.taken] :: (c.conds.map condT ++ [[48 + c.made.toNat]])
def claT (c : Cla) : List Nat := TL.joinL [32] (claW c)
def ruleT (cs : List Cla) : List Nat := TL.joinL [59, 32] (cs.map claT)
def St (s : Int) : Prop := 0 ≤ s ∧ s ≤ 7
def WishW : Option Int → Prop
  | none => True
  | some s => St s
def CondW : Cond → Prop
  | .amt s ns => St s ∧ ns ≠ [] ∧ (∀ n ∈ ns, 0 ≤ n ∧ n ≤ 8) ∧ ns.Pairwise (· < ·)
  | .plc ws => ws.length = 8 ∧ ∀ w ∈ ws, WishW w
def ClaW (c : Cla) : Prop := WishW c.taken ∧ (∀ k ∈ c.conds, CondW k) ∧ St c.made
theorem CondW.ok {c : Cond} (h : CondW c) : CondOk c := by
  cases c with
  | amt s ns => trivial
  | plc ws => exact h.1
theorem sign_digit : ∀ d : Nat, d < 9 → PySem.intText? ⟨#[48 + d]⟩ = some (d : Int) := by decide +kernel
theorem states_has {c : Nat} (h0 : 48 ≤ c) (h1 : c ≤ 55) : c ∈ (Str.ofString "01234567").cps.toList := by
  have e : (Str.ofString "01234567").cps.toList = [48, 49, 50, 51, 52, 53, 54, 55] := by decide +kernel
  rw [e]
  simp only [List.mem_cons, List.not_mem_nil, or_false]
  omega
theorem numbers_has {c : Nat} (h0 : 48 ≤ c) (h1 : c ≤ 56) : c ∈ (Str.ofString "012345678").cps.toList := by
  have e : (Str.ofString "012345678").cps.toList = [48, 49, 50, 51, 52, 53, 54, 55, 56] := by decide +kernel
  rw [e]
  simp only [List.mem_cons, List.not_mem_nil, or_false]
  omega
theorem small_len {n : Nat} (h : n ≤ 1000000) : n ≤ sizeLine := by have := sizeBig; omega
def sp_read_state : Sp := fun vs H Q _ => ∃ s : Int, vs = [.str ⟨#[48 + s.toNat]⟩] ∧ St s ∧ Q (.int s) H
theorem mp_read_state : MonP sp_read_state := fun vs H Q Q' E h ⟨s, x1, x2, k⟩ => ⟨s, x1, x2, h _ _ k⟩
theorem ok_read_state (T : Env fa fn K mg) : Good P w K mg base CX0 1 ("read_state", none) ["word"] sp_read_state := by
  refine good_mk T 19 (d := d_read_state) (N := ["word"]) (ps := ["word"]) rfl rfl sc_read_state (fun _ _ _ _ _ _ us hl => match us, hl with | [_], _ => rfl) (fun vs H Q E h => ?_) (fun f cdv A outer σ0 H vs Q E hr h => ?_)
  · obtain ⟨s, rfl, _⟩ := h; rfl
  · obtain ⟨s, rfl, ⟨h0, h7⟩, k⟩ := h
    obtain ⟨d, rfl⟩ : ∃ d : Nat, s = (d : Int) := ⟨s.toNat, by omega⟩
    rw [Int.toNat_natCast]
    refine ⟨_, (pss_cons (ps_if (PW.pt (pw_or (pt_cmpR op_ne (pe_callB call_len_str (by rfl) (T.free 11) (by decide +kernel) (pa_cons (pv 0) pa_nil)) pe_int (nomark _)) (pw_or1 (pt_cmpR op_notIn_sign (pv 0) (pe_gstr (T.str 10) rfl) rfl)))) pss_never pss_nil)
      (pss_one (ps_ret (pe_callTy call_int_str (by rfl) (T.free 12) (by decide +kernel) (pa_cons (pv 0) pa_nil))))), ?_⟩
    walk_at "rd"
    refine ⟨_, rfl, small_len (by show 1 ≤ 1000000; decide), ?_⟩
    walk_at "rd"
    refine iteF ?_
    walk_at "rd"
    refine ⟨48 + d, _, rfl, rfl, ?_⟩
    rw [decide_eq_true (states_has (by omega) (by omega))]
    walk_at "rd"
    exact ⟨_, (d : Int), rfl, sign_digit d (by omega), by show 1 ≤ 640; decide, k⟩
def sp_read_wish : Sp := fun vs H Q _ => ∃ s : Option Int, vs = [.str ⟨#[wishT s]⟩] ∧ WishW s ∧ Q (optV s) H
theorem mp_read_wish : MonP sp_read_wish := fun vs H Q Q' E h ⟨s, x1, x2, k⟩ => ⟨s, x1, x2, h _ _ k⟩
theorem star_ne {s : Int} (h : St s) : ¬ ((⟨#[wishT (some s)]⟩ : Str) = Str.ofString "*") := by
  intro e
  have e2 : (Str.ofString "*").cps.toList = [42] := by decide +kernel
  have e1 : ([48 + s.toNat] : List Nat) = [42] := by rw [← e2, ← e]; rfl
  simp only [List.cons.injEq, and_true] at e1
  omega
theorem ok_read_wish (T : Env fa fn K mg) : Good P w K mg base CX0 2 ("read_wish", none) ["word"] sp_read_wish := by
  have G_read_state := ok_read_state (P := P) (w := w) (base := base) T
  refine good_mk T 20 (d := d_read_wish) (N := ["word"]) (ps := ["word"]) rfl rfl sc_read_wish (fun _ _ _ _ _ _ us hl => match us, hl with | [_], _ => rfl) (fun vs H Q E h => ?_) (fun f cdv A outer σ0 H vs Q E hr h => ?_)
  · obtain ⟨s, rfl, _⟩ := h; rfl
  · obtain ⟨s, rfl, hw, k⟩ := h
    refine ⟨_, (pss_cons (ps_if (pt_cmpR op_eq (pv 0) pe_str (nomark _)) (pss_one (ps_ret pe_non)) pss_nil)
      (pss_one (ps_ret (pe_cgK K rfl G_read_state (hr.mono (by decide)) (T.glo 13) (pa_cons (pv 0) pa_nil))))), ?_⟩
    cases s with
    | none =>
      walk_at "rd"
      refine iteT ?_
      walk_at "rd"
      exact k
    | some s =>
      obtain ⟨h0, h7⟩ := id hw
      walk_at "rd"
      rw [decide_eq_false (star_ne hw)]
      walk_at "rd"
      exact ⟨s, rfl, hw, k⟩
end
end JF

/-! ### rules: reading texts -/
namespace JF
open PySem PySem.Spec PyProof.Rows L2
theorem len_tx (l : List Nat) : (tx l).length = l.length := TL.len_tl _
theorem cut2 {l : List Nat} : cutS (tx l) (some 2) none = tx (l.drop 2) := by
  refine TL.ext_tl ?_
  have e1 : HT.sIx (tx l).length 0 (some 2) = min 2 (tx l).length := HT.sIx_nat _ _ 2
  have e2 : HT.sIx (tx l).length (tx l).length none = (tx l).length := rfl
  unfold cutS
  rw [e1, e2, len_tx]
  show (l.drop (min 2 l.length)).take (l.length - min 2 l.length) = l.drop 2
  rcases Nat.lt_or_ge l.length 2 with h | h
  · rw [List.drop_eq_nil_of_le (by omega), List.drop_eq_nil_of_le (by omega)]; simp
  · rw [Nat.min_eq_left h, List.take_of_length_le (by rw [List.length_drop]; exact Nat.le_refl _)]
theorem cut_mid (a b : V) (m : List V) : cutV (a :: (m ++ [b])) (some 1) (some (-1)) = m := by
  have n : (a :: (m ++ [b])).length = m.length + 2 := by simp
  have e1 : HT.sIx (a :: (m ++ [b])).length 0 (some 1) = min 1 (a :: (m ++ [b])).length := HT.sIx_nat _ _ 1
  have e2 : HT.sIx (a :: (m ++ [b])).length (a :: (m ++ [b])).length (some (-1)) = m.length + 1 := by
    show (if (-1 : Int) < 0 then ((-1 : Int) + ((a :: (m ++ [b])).length : Int)).toNat else min (-1 : Int).toNat (a :: (m ++ [b])).length) = _
    rw [if_pos (by decide), n]; omega
  unfold cutV
  rw [e1, e2, n]
  have e3 : min 1 (m.length + 2) = 1 := by omega
  rw [e3]
  show (m ++ [b]).take (m.length + 1 - 1) = m
  rw [Nat.add_sub_cancel, List.take_left]
theorem split_tx {y : Str} {s : Nat} {S : List Nat} (ey : TL.tl y = s :: S) (hk : y.cps.all (· < 256) = true) {ws : List (List Nat)} (hne : ws ≠ []) (hp : ∀ w ∈ ws, s ∉ w) : Txt.split (tx (TL.joinL (s :: S) ws)) y = ws.map tx := by
  have e : tx (TL.joinL (s :: S) ws) = Txt.join y (ws.map tx) := by
    refine TL.ext_tl ?_
    rw [TL.join_eq, TL.tl_join, ey, List.map_map]
    show TL.joinL (s :: S) ws = TL.joinL (s :: S) (ws.map fun w => w)
    rw [List.map_id']
  rw [e]
  refine TL.split_join ey hk (by simpa using hne) fun p hm => ?_
  obtain ⟨w, hw, rfl⟩ := List.mem_map.mp hm
  exact hp w hw
/-! what is new -/
def CondAtN (N : Addr → Prop) (K : PySem.W.Frag) (H : Hp) (v : V) : Cond → Prop
  | .amt s ns => ∃ p dx l, v = .ref p ∧ H p = some (.ins (He.ga K "Amount") dx [("state", .int s), ("numbers", .ref l)]) ∧ H l = some (.lst (ns.map V.int)) ∧ N p ∧ N l
  | .plc ws => ∃ p dx l, v = .ref p ∧ H p = some (.ins (He.ga K "Places") dx [("wanted", .ref l)]) ∧ H l = some (.lst (ws.map optV)) ∧ N p ∧ N l
theorem CondAtN.at {N : Addr → Prop} {K : PySem.W.Frag} {H : Hp} {v : V} {c : Cond} (h : CondAtN N K H v c) : CondAt K H v c := by
  cases c with
  | amt s ns => obtain ⟨p, dx, l, e, h1, h2, _⟩ := h; exact ⟨p, dx, l, e, h1, h2⟩
  | plc ws => obtain ⟨p, dx, l, e, h1, h2, _⟩ := h; exact ⟨p, dx, l, e, h1, h2⟩
theorem CondAtN.imp {N N' : Addr → Prop} {K : PySem.W.Frag} {H : Hp} {v : V} {c : Cond} (h : CondAtN N K H v c) (k : ∀ b, N b → N' b) : CondAtN N' K H v c := by
  cases c with
  | amt s ns => obtain ⟨p, dx, l, e, h1, h2, h3, h4⟩ := h; exact ⟨p, dx, l, e, h1, h2, k _ h3, k _ h4⟩
  | plc ws => obtain ⟨p, dx, l, e, h1, h2, h3, h4⟩ := h; exact ⟨p, dx, l, e, h1, h2, k _ h3, k _ h4⟩
theorem CondAtN.same {N : Addr → Prop} {K : PySem.W.Frag} {H H' : Hp} {v : V} {c : Cond} (h : CondAtN N K H v c) (s : Same H H') : CondAtN N K H' v c := by
  cases c with
  | amt st ns => obtain ⟨p, dx, l, e, h1, h2, h3, h4⟩ := h; exact ⟨p, dx, l, e, s _ _ h1, s _ _ h2, h3, h4⟩
  | plc ws => obtain ⟨p, dx, l, e, h1, h2, h3, h4⟩ := h; exact ⟨p, dx, l, e, s _ _ h1, s _ _ h2, h3, h4⟩
theorem CondAtN.upd {N : Addr → Prop} {K : PySem.W.Frag} {H : Hp} {v : V} {c : Cond} {D : Addr} {o : HO} (h : CondAtN N K H v c) (k : ∀ b, N b → b ≠ D) : CondAtN N K (L2.upd H D o) v c := by
  cases c with
  | amt st ns => obtain ⟨p, dx, l, e, h1, h2, h3, h4⟩ := h; exact ⟨p, dx, l, e, by rw [upd_ne (k _ h3)]; exact h1, by rw [upd_ne (k _ h4)]; exact h2, h3, h4⟩
  | plc ws => obtain ⟨p, dx, l, e, h1, h2, h3, h4⟩ := h; exact ⟨p, dx, l, e, by rw [upd_ne (k _ h3)]; exact h1, by rw [upd_ne (k _ h4)]; exact h2, h3, h4⟩
def ClaAtN (N : Addr → Prop) (K : PySem.W.Frag) (H : Hp) (v : V) (c : Cla) : Prop := ∃ p dx l ps, v = .ref p ∧ H p = some (.ins (He.ga K "Clause") dx [("taken", optV c.taken), ("conditions", .ref l), ("made", .int c.made)]) ∧ H l = some (.lst ps) ∧ N p ∧ N l ∧ AllV (CondAtN N K H) ps c.conds
theorem ClaAtN.at {N : Addr → Prop} {K : PySem.W.Frag} {H : Hp} {v : V} {c : Cla} (h : ClaAtN N K H v c) : ClaAt K H v c := by
  obtain ⟨p, dx, l, ps, e, h1, h2, _, _, h3⟩ := h
  exact ⟨p, dx, l, ps, e, h1, h2, h3.imp fun _ _ h => h.at⟩
theorem ClaAtN.imp {N N' : Addr → Prop} {K : PySem.W.Frag} {H : Hp} {v : V} {c : Cla} (h : ClaAtN N K H v c) (k : ∀ b, N b → N' b) : ClaAtN N' K H v c := by
  obtain ⟨p, dx, l, ps, e, h1, h2, h3, h4, h5⟩ := h
  exact ⟨p, dx, l, ps, e, h1, h2, k _ h3, k _ h4, h5.imp fun _ _ h => h.imp k⟩
theorem ClaAtN.same {N : Addr → Prop} {K : PySem.W.Frag} {H H' : Hp} {v : V} {c : Cla} (h : ClaAtN N K H v c) (s : Same H H') : ClaAtN N K H' v c := by
  obtain ⟨p, dx, l, ps, e, h1, h2, h3, h4, h5⟩ := h
  exact ⟨p, dx, l, ps, e, s _ _ h1, s _ _ h2, h3, h4, h5.imp fun _ _ h => h.same s⟩
theorem ClaAtN.upd {N : Addr → Prop} {K : PySem.W.Frag} {H : Hp} {v : V} {c : Cla} {D : Addr} {o : HO} (h : ClaAtN N K H v c) (k : ∀ b, N b → b ≠ D) : ClaAtN N K (L2.upd H D o) v c := by
  obtain ⟨p, dx, l, ps, e, h1, h2, h3, h4, h5⟩ := h
  exact ⟨p, dx, l, ps, e, by rw [upd_ne (k _ h3)]; exact h1, by rw [upd_ne (k _ h4)]; exact h2, h3, h4, h5.imp fun _ _ h => h.upd k⟩
theorem none_of {H H' : Hp} (s : Same H H') {b : Addr} (h : H' b = none) : H b = none := by
  cases e : H b with
  | none => rfl
  | some o => rw [s _ _ e] at h; cases h
theorem small_len16 {n : Nat} (h : n + 2 ≤ 16000000) : n + 2 ≤ sizeLine := by have := sizeBig; omega
section
variable {K : PySem.W.Frag} {σ : L2.St} {H : Hp} {Q : VK}
theorem rd_m1 {r : V → List V → Hp → VK → Prop} {ta tb : TE} (h : ta σ H fun x H1 => (∃ a, x = .str a) ∧ tb σ H1 fun y H2 => r x [y] H2 Q) : tM1 r ta tb σ H Q := h
theorem rd_st {z : Str} {R : Prop} (h : R) : (∃ a, V.str z = .str a) ∧ R := ⟨⟨z, rfl⟩, h⟩
theorem Same.put2 {H0 H : Hp} {p : Addr} {o : HO} (s : Same H0 H) (h : H0 p = none) : Same H0 (upd H p o) := fun b u e => by
  rw [upd_ne (ne_of_none e h)]; exact s b u e
end
section
variable {P : Program} {w : World} {K : PySem.W.Frag} {mg : Str → Option Value} {base : Heap}
def numT (ns : List Int) : List Nat := ns.map fun n => 48 + n.toNat
def sp_read_numbers : Sp := fun vs H Q _ => ∃ ns : List Int, vs = [.str (tx (numT ns))] ∧ (∀ n ∈ ns, 0 ≤ n ∧ n ≤ 8) ∧ ns.Pairwise (· < ·) ∧ ns.length ≤ 1000 ∧ ∀ H' l, Same H H' → H l = none → H' l = some (.lst (ns.map V.int)) → Q (.ref l) H'
theorem mp_read_numbers : MonP sp_read_numbers := fun vs H Q Q' E h ⟨ns, x1, x2, x3, x4, k⟩ => ⟨ns, x1, x2, x3, x4, fun H' l a b c => h _ _ (k H' l a b c)⟩
theorem ok_read_numbers (T : Env fa fn K mg) : Good P w K mg base CX0 1 ("read_numbers", none) ["word"] sp_read_numbers := by
  refine good_mk T 21 (d := d_read_numbers) (N := ["word", "numbers", "sign", "number"]) (ps := ["word"]) rfl rfl sc_read_numbers (fun _ _ _ _ _ _ us hl => match us, hl with | [_], _ => rfl) (fun vs H Q E h => ?_) (fun f cdv A outer σ0 H vs Q E hr h => ?_)
  · obtain ⟨ns, rfl, _⟩ := h; rfl
  · obtain ⟨ns, rfl, hn, hp, hl, k⟩ := h
    refine ⟨_, (pss_cons (ps_set (i := 1) sc_read_numbers.nd rfl (Or.inl rfl) (pe_lst pa_nil))
      (pss_cons (ps_for PassesOwn.never rfl (pi_str (pv 0)) (pg_name (i := 2) sc_read_numbers.nd rfl (Or.inl rfl)) (pss_cons (ps_if (pt_cmpR op_notIn_sign (pv 2) (pe_gstr (T.str 14) rfl) rfl) pss_never pss_nil)
      (pss_cons (ps_set (i := 3) sc_read_numbers.nd rfl (Or.inl rfl) (pe_callTy call_int_str (by rfl) (T.free 12) (by decide +kernel) (pa_cons (pv 2) pa_nil)))
      (pss_cons (ps_if (PW.pt (pw_and (pt_cmpR (op_neDK K rfl hr.units) (pv 1) (pe_lst pa_nil) (nomark _)) (pw_and1 (pt_cmpR op_le (pv 3) (pe_ix (ix_listK K rfl) (pv 1) (pe_un un_neg pe_int) (fun _ _ => rfl)) (nomark _))))) pss_never pss_nil)
      (pss_one (ps_expr (pe_bm PySem.F.plainAttrs_list PySem.F.slot_list_append PySem.F.type_list_append mt_append (pv 1) (pa_cons (pv 3) pa_nil))))))))
      (pss_one (ps_ret (pv 1))))), ?_⟩
    walk_at "rd"
    refine rd_new (hn := by show 0 ≤ sizeLine; decide) fun p hp0 => ?_
    have s0 := same_upd (o := .lst []) hp0
    walk_at "rd"
    refine ⟨_, rfl, ?_⟩
    refine for_it (walk_str (z := tx (numT ns))) (fun i σ H' => Same H H' ∧ H' p = some (.lst ((ns.take i).map V.int)) ∧ ∃ x2 x3 : Option V, σ = [some (.str (tx (numT ns))), some (.ref p), x2, x3]) ⟨s0, upd_same, none, none, rfl⟩ (fun _ _ _ _ _ => trivial) ?_ ?_
    · rintro i x σ Ha Hb hi ⟨s1, h1, x2, x3, rfl⟩ ⟨rfl, c, hc, rfl⟩
      have hi' : i < ns.length := by
        have e : (tx (numT ns)).cps.size = ns.length := by show (numT ns).toArray.size = _; simp [numT]
        omega
      have hc' : (numT ns)[i]? = some c := by rw [← hc]; show _ = (numT ns).toArray[i]?; simp
      have hni := hn ns[i] (List.getElem_mem hi')
      have ec : c = 48 + ns[i].toNat := by
        unfold numT at hc'
        rw [List.getElem?_map, at_get hi'] at hc'
        exact (Option.some.inj hc').symm
      subst ec
      walk_at "rd"
      refine ⟨_, _, rfl, rfl, ?_⟩
      rw [decide_eq_true (numbers_has (by omega) (by omega))]
      walk_at "rd"
      refine ⟨_, _, rfl, sign_digit ns[i].toNat (by omega), by show 1 ≤ 640; decide, ?_⟩
      have en : ((ns[i].toNat : Nat) : Int) = ns[i] := by omega
      rw [en]
      walk_at "rd"
      refine rd_new (hn := by show 0 ≤ sizeLine; decide) fun pe hpe => ?_
      have se := same_upd (o := .lst []) hpe
      refine rd_neLI (ns := ns.take i) (ms := []) (SqL.of (se _ _ h1)) (SqL.of upd_same) ?_
      have h1e := se _ _ h1
      have fin : ∀ (x2 x3 : Option V), Same H (upd (upd Hb pe (.lst [])) p (.lst ((ns.take i).map V.int ++ [V.int ns[i]]))) ∧ (upd (upd Hb pe (.lst [])) p (.lst ((ns.take i).map V.int ++ [V.int ns[i]]))) p = some (.lst ((ns.take (i + 1)).map V.int)) ∧ ∃ y2 y3 : Option V, [some (V.str (tx (numT ns))), some (.ref p), x2, x3] = [some (V.str (tx (numT ns))), some (.ref p), y2, y3] := fun x2 x3 => by
        refine ⟨Same.put2 (s1.trans se) hp0, ?_, _, _, rfl⟩
        rw [upd_same, take_snoc (at_get hi'), List.map_append]; rfl
      have hlen : ((ns.take i).map V.int).length < sizeLine := by rw [List.length_map, List.length_take]; have := sizeBig; omega
      by_cases z : ns.take i = []
      · rw [decide_eq_true z]
        walk_at "rd"
        refine rd_tyL h1e ?_
        walk_at "rd"
        refine rd_append h1e hlen ?_
        walk_at "rd"
        exact fin _ _
      · rw [decide_eq_false z]
        walk_at "rd"
        obtain ⟨j, hj⟩ : ∃ j, i = j + 1 := by
          cases i with
          | zero => exact absurd rfl z
          | succ j => exact ⟨j, rfl⟩
        subst hj
        have hjn : j < ns.length := by omega
        have et : ns.take (j + 1) = ns.take j ++ [ns[j]] := take_snoc (at_get hjn)
        refine rd_ixL (SqL.of h1e) (v := .int ns[j]) (by rw [et, List.map_append]; exact atI_last _ _) ?_
        walk_at "rd"
        have hlt : ns[j] < ns[j + 1] := (List.pairwise_iff_getElem.mp hp) j (j + 1) hjn hi' (by omega)
        rw [decide_eq_false (by omega)]
        walk_at "rd"
        refine rd_tyL h1e ?_
        walk_at "rd"
        refine rd_append h1e hlen ?_
        walk_at "rd"
        exact fin _ _
    · rintro σ H' ⟨s1, h1, x2, x3, rfl⟩
      walk_at "rd"
      have e : (tx (numT ns)).cps.size = ns.length := by show (numT ns).toArray.size = _; simp [numT]
      rw [e, List.take_length] at h1
      exact k _ _ s1 hp0 h1
def sp_read_condition (K : PySem.W.Frag) : Sp := fun vs H Q _ => ∃ c : Cond, vs = [.str (tx (condT c))] ∧ CondW c ∧ ∀ H' v, Same H H' → CondAtN (fun b => H b = none) K H' v c → Q v H'
theorem mp_read_condition : MonP (sp_read_condition K) := fun vs H Q Q' E h ⟨c, x1, x2, k⟩ => ⟨c, x1, x2, fun H' v a b => h _ _ (k H' v a b)⟩
theorem nums_le : ∀ {ns : List Int} {a : Int}, (∀ n ∈ ns, a ≤ n ∧ n ≤ 8) → ns.Pairwise (· < ·) → (ns.length : Int) ≤ 9 - a ∨ ns = []
  | [], a, _, _ => .inr rfl
  | [n], a, h, _ => by
    have := h n List.mem_cons_self
    left; simp; omega
  | n :: m :: ns, a, h, hp => by
    left
    have hn := h n List.mem_cons_self
    rw [List.pairwise_cons] at hp
    rcases nums_le (ns := m :: ns) (a := n + 1) (fun x hx => ⟨by have := hp.1 x hx; omega, (h x (List.mem_cons_of_mem _ hx)).2⟩) hp.2 with e | e
    · simp only [List.length_cons] at e ⊢; omega
    · cases e
theorem eq_sign {d : Nat} (h : d ≠ 61) : ¬ ((⟨#[d]⟩ : Str) = Str.ofString "=") := by
  intro e
  have e2 : (Str.ofString "=").cps.toList = [61] := by decide +kernel
  have e1 : ([d] : List Nat) = [61] := by rw [← e2, ← e]
  simp only [List.cons.injEq, and_true] at e1
  exact h e1
theorem wish_ne {s : Option Int} (h : WishW s) : wishT s ≠ 61 := by
  cases s with
  | none => decide
  | some s =>
    have z : St s := h
    show 48 + s.toNat ≠ 61
    unfold St at z
    omega
set_option maxHeartbeats 8000000 in
theorem ok_read_condition (T : Env fa fn K mg) : Good P w K mg base CX0 3 ("read_condition", none) ["word"] (sp_read_condition K) := by
  have G_read_state := ok_read_state (P := P) (w := w) (base := base) T
  have G_read_wish := ok_read_wish (P := P) (w := w) (base := base) T
  have G_read_numbers := ok_read_numbers (P := P) (w := w) (base := base) T
  have G_Amount_init := ok_amt_init (P := P) (w := w) (base := base) T
  have G_Places_init := ok_plc_init (P := P) (w := w) (base := base) T
  refine good_mk T 22 (d := d_read_condition) (N := ["word", "sign"]) (ps := ["word"]) rfl rfl sc_read_condition (fun _ _ _ _ _ _ us hl => match us, hl with | [_], _ => rfl) (fun vs H Q E h => ?_) (fun f cdv A outer σ0 H vs Q E hr h => ?_)
  · obtain ⟨c, rfl, _⟩ := h; rfl
  · obtain ⟨c, rfl, hc, k⟩ := h
    refine ⟨_, (pss_cons (ps_if (PW.pt (pw_and (pt_cmpR op_gt (pe_callB call_len_str (by rfl) (T.free 11) (by decide +kernel) (pa_cons (pv 0) pa_nil)) pe_int (nomark _)) (pw_and1 (pt_cmpR op_eq (pe_ix ix_str (pv 0) pe_int (fun _ _ => rfl)) pe_str (nomark _))))) (pss_one (ps_ret (pe_mkgK K rfl (T.mkr 15) G_Amount_init (hr.mono (by decide)) (T.glo 16) (pa_cons (pe_cgK K rfl G_read_state (hr.mono (by decide)) (T.glo 13) (pa_cons (pe_ix ix_str (pv 0) pe_int (fun _ _ => rfl)) pa_nil)) (pa_cons (pe_cgK K rfl G_read_numbers (hr.mono (by decide)) (T.glo 17) (pa_cons (pe_slice sl_str (pv 0) (po_some pe_int) po_none) pa_nil)) pa_nil))))) pss_nil)
      (pss_cons (ps_if (pt_cmpR op_ne (pe_callB call_len_str (by rfl) (T.free 11) (by decide +kernel) (pa_cons (pv 0) pa_nil)) pe_int (nomark _)) pss_never pss_nil)
      (pss_one (ps_ret (pe_mkgK K rfl (T.mkr 18) G_Places_init (hr.mono (by decide)) (T.glo 19) (pa_cons (pe_lc (own := [("sign", 1)]) (tt := tYes) rfl sc_read_condition.nd (pi_str (pv 0)) (blkOk_by (own := [("sign", 1)]) (N := ["word", "sign"]) (sc := defScope st_read_condition) (by decide +kernel)) (fun _ _ _ _ _ => by exact (pg_name (i := 1) sc_read_condition.nd rfl (Or.inl rfl))) (fun _ _ _ _ _ => by exact pts_nil) (fun _ _ _ _ _ => by exact (pe_cgK K rfl G_read_wish (hr.mono (by decide)) (T.glo 20) (pa_cons (pv 1) pa_nil)))) pa_nil)))))), ?_⟩
    cases c with
    | amt s ns =>
      obtain ⟨hs, hne, hn, hp⟩ := hc
      have hnl : ns.length ≤ 9 := by
        rcases nums_le hn hp with e | e
        · omega
        · rw [e]; simp
      have hl0 : 0 < ns.length := List.length_pos_iff.mpr hne
      have el : (tx (condT (.amt s ns))).length = ns.length + 2 := by rw [len_tx]; simp [condT]
      walk_at "rd"
      refine ⟨_, rfl, small_len (by rw [el]; omega), ?_⟩
      rw [el]
      walk_at "rd"
      rw [decide_eq_true (by omega)]
      walk_at "rd"
      refine ⟨_, _, 61, rfl, rfl, small_len (by rw [el]; omega), atI_nat (j := 1) rfl, ?_⟩
      walk_at "rd"
      refine iteT ?_
      walk_at "rd"
      refine rd_make ?_
      walk_at "rd"
      refine ⟨_, _, 48 + s.toNat, rfl, rfl, small_len (by rw [el]; omega), atI_nat (j := 0) rfl, ?_⟩
      walk_at "rd"
      refine ⟨s, rfl, hs, ?_⟩
      walk_at "rd"
      refine ⟨_, rfl, small_len (by rw [el]; omega), ?_⟩
      rw [cut2]
      walk_at "rd"
      refine ⟨ns, rfl, hn, hp, by omega, fun H2 l s2 hln hl => ?_⟩
      walk_at "rd"
      intro x dx hx hdx hne2
      refine ⟨x, dx, l, s, rfl, upd_same, rfl, ?_⟩
      have hlx : l ≠ x := ne_of_none hl hx
      have hldx : l ≠ dx := ne_of_none hl hdx
      refine k _ _ (s2.trans (Same.put2 (Same.put2 (made_same2 hx hdx) hx) hx)) ⟨x, dx, l, rfl, upd_same, ?_, none_of s2 hx, hln⟩
      rw [upd_ne hlx, upd_ne hlx, upd_ne hlx, upd_ne hldx]
      exact hl
    | plc ws =>
      obtain ⟨h8, hw⟩ := hc
      have el : (tx (condT (.plc ws))).length = 8 := by rw [len_tx]; show (ws.map wishT).length = 8; rw [List.length_map]; exact h8
      walk_at "rd"
      refine ⟨_, rfl, small_len (by rw [el]; decide), ?_⟩
      rw [el]
      walk_at "rd"
      refine iteT ?_
      walk_at "rd"
      have h1 : 1 < ws.length := by omega
      refine ⟨_, _, wishT ws[1], rfl, rfl, small_len (by rw [el]; decide), ?_, ?_⟩
      · refine atI_nat (j := 1) ?_
        show (ws.map wishT)[1]? = _
        rw [List.getElem?_map, at_get h1]; rfl
      walk_at "rd"
      rw [decide_eq_false (eq_sign (wish_ne (hw _ (List.getElem_mem h1))))]
      walk_at "rd"
      refine ⟨_, rfl, small_len (by rw [el]; decide), ?_⟩
      rw [el]
      walk_at "rd"
      refine iteF ?_
      walk_at "rd"
      refine rd_make ?_
      walk_at "rd"
      refine ⟨_, rfl, fun D hD => ?_⟩
      refine lc_it (walk_str (z := tx (ws.map wishT))) (fun i H' => H' = upd H D (.lst ((ws.take i).map optV))) rfl (fun _ _ _ _ => trivial) ?_ ?_
      · rintro i x Ha Hb hi rfl ⟨rfl, c, hcc, rfl⟩
        have hi' : i < ws.length := by
          have e : (tx (ws.map wishT)).cps.size = ws.length := by show (ws.map wishT).toArray.size = _; simp
          omega
        have hc' : (ws.map wishT)[i]? = some c := by rw [← hcc]; show _ = (ws.map wishT).toArray[i]?; simp
        rw [List.getElem?_map, at_get hi'] at hc'
        have ec : c = wishT ws[i] := (Option.some.inj hc').symm
        subst ec
        walk_at "rd"
        refine ⟨rfl, ?_⟩
        walk_at "rd"
        refine ⟨ws[i], rfl, hw _ (List.getElem_mem hi'), ?_⟩
        refine ⟨_, upd_same, ?_, ?_⟩
        · rw [List.length_map, List.length_take]; exact small1000 (by omega)
        · rw [upd_upd, take_snoc (at_get hi'), List.map_append]; rfl
      · rintro H2 rfl
        have e : (tx (ws.map wishT)).cps.size = ws.length := by show (ws.map wishT).toArray.size = _; simp
        rw [e, List.take_length]
        have sD := same_upd (o := .lst (ws.map optV)) hD
        walk_at "rd"
        intro x dx hx hdx hne2
        refine ⟨x, dx, D, rfl, upd_same, rfl, ?_⟩
        have hL : (upd H D (.lst (ws.map optV))) D = some (.lst (ws.map optV)) := upd_same
        have hlx : D ≠ x := ne_of_none hL hx
        have hldx : D ≠ dx := ne_of_none hL hdx
        refine k _ _ (sD.trans (Same.put2 (made_same2 hx hdx) hx)) ⟨x, dx, D, rfl, upd_same, ?_, none_of sD hx, hD⟩
        rw [upd_ne hlx, upd_ne hlx, upd_ne hldx]
        exact hL
/-! #### clauses -/
theorem claW_no {c : Cla} (h : ClaW c) : ∀ w ∈ claW c, (32 : Nat) ∉ w ∧ (59 : Nat) ∉ w := by
  have wish : ∀ s : Option Int, WishW s → wishT s ≠ 32 ∧ wishT s ≠ 59 := fun s hs => by
    cases s with
    | none => decide
    | some s =>
      have z : St s := hs
      unfold St at z
      show 48 + s.toNat ≠ 32 ∧ 48 + s.toNat ≠ 59
      omega
  obtain ⟨h1, h2, h3⟩ := h
  intro w hw
  unfold claW at hw
  rcases List.mem_cons.mp hw with rfl | hw
  · have := wish _ h1
    simp only [List.mem_singleton]
    exact ⟨Ne.symm this.1, Ne.symm this.2⟩
  · rcases List.mem_append.mp hw with hw | hw
    · obtain ⟨k, hk, rfl⟩ := List.mem_map.mp hw
      have hc := h2 k hk
      cases k with
      | amt s ns =>
        obtain ⟨hs, _, hn, _⟩ := hc
        unfold St at hs
        unfold condT
        simp only [List.mem_cons, List.mem_map, not_or, not_exists, not_and]
        refine ⟨⟨by omega, by decide, fun n hm => ?_⟩, ⟨by omega, by decide, fun n hm => ?_⟩⟩
        · have := hn n hm; omega
        · have := hn n hm; omega
      | plc ws =>
        obtain ⟨_, hs⟩ := hc
        unfold condT
        simp only [List.mem_map, not_exists, not_and]
        exact ⟨fun x hm => (wish x (hs x hm)).1, fun x hm => (wish x (hs x hm)).2⟩
    · rw [List.mem_singleton] at hw
      subst hw
      unfold St at h3
      simp only [List.mem_singleton]
      omega
theorem tl_space : TL.tl (Str.ofString " ") = [32] := by decide +kernel
theorem tl_semi : TL.tl (Str.ofString "; ") = [59, 32] := by decide +kernel
def sp_read_clause (K : PySem.W.Frag) : Sp := fun vs H Q _ => ∃ c : Cla, vs = [.str (tx (claT c))] ∧ ClaW c ∧ (claT c).length ≤ 100000 ∧ c.conds.length ≤ 1000 ∧ ∀ H' v, Same H H' → ClaAtN (fun b => H b = none) K H' v c → Q v H'
theorem mp_read_clause : MonP (sp_read_clause K) := fun vs H Q Q' E h ⟨c, x1, x2, x3, x4, k⟩ => ⟨c, x1, x2, x3, x4, fun H' v a b => h _ _ (k H' v a b)⟩
set_option maxHeartbeats 8000000 in
theorem ok_read_clause (T : Env fa fn K mg) : Good P w K mg base CX0 4 ("read_clause", none) ["part"] (sp_read_clause K) := by
  have G_read_state := ok_read_state (P := P) (w := w) (base := base) T
  have G_read_wish := ok_read_wish (P := P) (w := w) (base := base) T
  have G_read_condition := ok_read_condition (P := P) (w := w) (base := base) T
  have G_Clause_init := ok_cla_init (P := P) (w := w) (base := base) T
  refine good_mk T 23 (d := d_read_clause) (N := ["part", "words", "conditions", "word"]) (ps := ["part"]) rfl rfl sc_read_clause (fun _ _ _ _ _ _ us hl => match us, hl with | [_], _ => rfl) (fun vs H Q E h => ?_) (fun f cdv A outer σ0 H vs Q E hr h => ?_)
  · obtain ⟨c, rfl, _⟩ := h; rfl
  · obtain ⟨c, rfl, hc, hlen, hcl, k⟩ := h
    have hno := claW_no hc
    refine ⟨_, (pss_cons (ps_set (i := 1) sc_read_clause.nd rfl (Or.inl rfl) (pe_split (pv 0) pe_str))
      (pss_cons (ps_if (pt_cmpR op_lt (pe_callB (call_lenK K rfl) (by rfl) (T.free 11) (by decide +kernel) (pa_cons (pv 1) pa_nil)) pe_int (nomark _)) pss_never pss_nil)
      (pss_cons (ps_setLc (i := 2) (own := [("word", 3)]) (tt := tYes) rfl sc_read_clause.nd rfl rfl (sw_true rfl rfl rfl (by decide +kernel)) (pi_listK K rfl (pe_slice (sl_listK K rfl) (pv 1) (po_some pe_int) (po_some (pe_un un_neg pe_int)))) (blkOk_by (own := [("word", 3)]) (N := ["part", "words", "conditions", "word"]) (sc := defScope st_read_clause) (by decide +kernel)) (fun _ _ _ _ _ => by exact (pg_name (i := 3) sc_read_clause.nd rfl (Or.inl rfl))) (fun _ _ _ _ _ => by exact pts_nil) (fun _ _ _ _ _ => by exact (pe_cgK K rfl G_read_condition (hr.mono (by decide)) (T.glo 21) (pa_cons (pv 3) pa_nil))))
      (pss_one (ps_ret (pe_mkgK K rfl (T.mkr 22) G_Clause_init (hr.mono (by decide)) (T.glo 23) (pa_cons (pe_cgK K rfl G_read_wish (hr.mono (by decide)) (T.glo 20) (pa_cons (pe_ix (ix_listK K rfl) (pv 1) pe_int (fun _ _ => rfl)) pa_nil)) (pa_cons (pv 2) (pa_cons (pe_cgK K rfl G_read_state (hr.mono (by decide)) (T.glo 13) (pa_cons (pe_ix (ix_listK K rfl) (pv 1) (pe_un un_neg pe_int) (fun _ _ => rfl)) pa_nil)) pa_nil))))))))), ?_⟩
    walk_at "rd"
    refine rd_m1 ?_
    walk_at "rd"
    refine rd_st ?_
    walk_at "rd"
    refine ⟨_, _, rfl, rfl, by decide +kernel, small_len (by rw [len_tx]; omega), fun pw hpw => ?_⟩
    have esp : Txt.split (tx (claT c)) (Str.ofString " ") = (claW c).map tx := split_tx tl_space (by decide +kernel) (by simp [claW]) fun w hw => (hno w hw).1
    rw [esp]
    have eW : ((claW c).map tx).map V.str = V.str (tx [wishT c.taken]) :: ((c.conds.map fun k => V.str (tx (condT k))) ++ [V.str (tx [48 + c.made.toNat])]) := by
      simp [claW, List.map_map, Function.comp_def]
    rw [eW]
    have s1 := same_upd (o := .lst (V.str (tx [wishT c.taken]) :: ((c.conds.map fun k => V.str (tx (condT k))) ++ [V.str (tx [48 + c.made.toNat])]))) hpw
    have L1 : (upd H pw (.lst (V.str (tx [wishT c.taken]) :: ((c.conds.map fun k => V.str (tx (condT k))) ++ [V.str (tx [48 + c.made.toNat])])))) pw = some (.lst (V.str (tx [wishT c.taken]) :: ((c.conds.map fun k => V.str (tx (condT k))) ++ [V.str (tx [48 + c.made.toNat])]))) := upd_same
    generalize upd H pw (.lst (V.str (tx [wishT c.taken]) :: ((c.conds.map fun k => V.str (tx (condT k))) ++ [V.str (tx [48 + c.made.toNat])]))) = H1 at s1 L1 ⊢
    walk_at "rd"
    refine rd_len (SqL.of L1) ?_
    walk_at "rd"
    rw [decide_eq_false (by simp only [List.length_cons, List.length_append, List.length_map, List.length_nil]; omega)]
    walk_at "rd"
    refine ⟨pw, _, rfl, SqL.of L1, fun p2 hp2 => ?_⟩
    rw [show ((-(1 : Int))) = -1 from rfl, cut_mid]
    have s2 := same_upd (o := .lst (c.conds.map fun k => V.str (tx (condT k)))) hp2
    have L2 : (upd H1 p2 (.lst (c.conds.map fun k => V.str (tx (condT k))))) p2 = some (.lst (c.conds.map fun k => V.str (tx (condT k)))) := upd_same
    generalize upd H1 p2 (.lst (c.conds.map fun k => V.str (tx (condT k)))) = H2 at s2 L2 ⊢
    refine ⟨p2, rfl, ⟨_, SqL.of L2⟩, fun D hD => ?_⟩
    have sD := fun o => same_upd (o := o) hD
    refine lc_list (K := K) (xs := c.conds.map fun k => V.str (tx (condT k))) (fun i H' => Same H2 H' ∧ ∃ us, H' D = some (.lst us) ∧ AllV (CondAtN (fun b => b ≠ D ∧ H b = none) K H') us (c.conds.take i)) ?_ ?_ ?_ ?_
    · exact ⟨sD _, [], upd_same, trivial⟩
    · rintro i H' _ ⟨s3, _⟩
      exact SqL.of (s3 _ _ L2)
    · rintro i x H' hx ⟨s3, us, hus, hall⟩
      obtain ⟨kc, hk, rfl⟩ : ∃ kc, c.conds[i]? = some kc ∧ x = V.str (tx (condT kc)) := by
        rw [List.getElem?_map] at hx
        cases e : c.conds[i]? with
        | none => rw [e] at hx; cases hx
        | some y => rw [e] at hx; exact ⟨y, rfl, (Option.some.inj hx).symm⟩
      have hi := (List.getElem?_eq_some_iff.mp hk).1
      walk_at "rd"
      refine ⟨rfl, ?_⟩
      walk_at "rd"
      refine ⟨kc, rfl, hc.2.1 kc (List.mem_of_getElem? hk), fun H4 v s4 hv => ?_⟩
      have hus4 := s4 _ _ hus
      have t : Same H2 (upd H4 D (.lst (us ++ [v]))) := Same.put2 (s3.trans s4) hD
      have hv' : CondAtN (fun b => b ≠ D ∧ H b = none) K H4 v kc := hv.imp fun b hb => ⟨fun z => (by rw [z, hus] at hb; cases hb), none_of ((s1.trans s2).trans s3) hb⟩
      refine ⟨us, hus4, ?_, t, us ++ [v], upd_same, ?_⟩
      · have := hall.len
        rw [List.length_take] at this
        exact small1000 (by omega)
      · rw [take_snoc hk]
        exact ((hall.imp fun _ _ h => h.same s4).app hv').imp fun _ _ h => h.upd fun b hb => hb.1
    · rintro H3 ⟨s3, us, hus, hall⟩
      rw [List.length_map, List.take_length] at hall
      have L3 := s3 _ _ (s2 _ _ L1)
      walk_at "rd"
      refine rd_make ?_
      walk_at "rd"
      refine rd_ixL (SqL.of L3) (v := V.str (tx [wishT c.taken])) (atI_nat (j := 0) rfl) ?_
      walk_at "rd"
      refine ⟨c.taken, rfl, hc.1, ?_⟩
      walk_at "rd"
      refine rd_ixL (SqL.of L3) (v := V.str (tx [48 + c.made.toNat])) (atI_last (_ :: _) _) ?_
      walk_at "rd"
      refine ⟨c.made, rfl, hc.2.2, ?_⟩
      walk_at "rd"
      intro x dx hx hdx hne
      refine ⟨x, dx, D, c.taken, c.made, rfl, upd_same, fun H4 ho hx4 => ⟨rfl, ?_⟩⟩
      have s0 := (s1.trans s2).trans s3
      have s4 : Same H3 H4 := fun b o e => by
        rw [ho b (ne_of_none e hx), upd_ne (ne_of_none e hx), upd_ne (ne_of_none e hdx)]; exact e
      refine k _ _ (s0.trans s4) ⟨x, dx, D, us, rfl, hx4, s4 _ _ hus, none_of s0 hx, none_of (s1.trans s2) hD, (hall.imp fun _ _ h => (h.same s4).imp fun b hb => hb.2)⟩
/-! #### rules -/
def eights : List Int := [0, 0, 0, 0, 0, 0, 0, 0]
def RuleW (cs : List Cla) : Prop := (∀ c ∈ cs, ClaW c) ∧ (∀ c ∈ cs, (claT c).length ≤ 100000 ∧ c.conds.length ≤ 1000) ∧ cs.length ≤ 1000 ∧ (ruleT cs).length ≤ 10000000 ∧ ruleMakes cs 0 eights = 0
theorem RuleW.ok {cs : List Cla} (h : RuleW cs) : RuleOk cs := fun c hc k hk => ((h.1 c hc).2.1 k hk).ok
theorem joinL_pos {S : List Nat} {x : List Nat} (h : x ≠ []) (xs : List (List Nat)) : TL.joinL S (x :: xs) ≠ [] := by
  cases xs with
  | nil => exact h
  | cons y ys =>
    show x ++ _ ≠ []
    intro e
    exact h (List.append_eq_nil_iff.mp e).1
theorem claT_pos (c : Cla) : claT c ≠ [] := joinL_pos (by simp) _
theorem no_semi {c : Cla} (h : ClaW c) : (59 : Nat) ∉ claT c := by
  have hno := claW_no h
  have gen : ∀ ws : List (List Nat), (∀ w ∈ ws, (59 : Nat) ∉ w) → (59 : Nat) ∉ TL.joinL [32] ws := fun ws => by
    induction ws with
    | nil => intro _; simp [TL.joinL]
    | cons x ws ih =>
      intro hw
      cases ws with
      | nil => exact hw x List.mem_cons_self
      | cons y ys =>
        show (59 : Nat) ∉ x ++ ([32] ++ TL.joinL [32] (y :: ys))
        simp only [List.mem_append, List.mem_singleton, not_or]
        exact ⟨hw x List.mem_cons_self, by decide, ih fun w hw' => hw w (List.mem_cons_of_mem _ hw')⟩
  exact gen _ fun w hw => (hno w hw).2
def sp_read_rule (K : PySem.W.Frag) : Sp := fun vs H Q _ => ∃ cs : List Cla, vs = [.str (tx (ruleT cs))] ∧ RuleW cs ∧ ∀ H' v, Same H H' → RuleAt K H' v cs → Q v H'
theorem mp_read_rule : MonP (sp_read_rule K) := fun vs H Q Q' E h ⟨cs, x1, x2, k⟩ => ⟨cs, x1, x2, fun H' v a b => h _ _ (k H' v a b)⟩
def sp_rule_init (C : Addr) : Sp := fun vs H Q _ => ∃ (p dx l : Addr), vs = [.ref p, .ref l] ∧ H p = some (.ins C dx []) ∧ Q .non (upd H p (.ins C dx [("clauses", .ref l)]))
theorem ok_rule_init (T : Env fa fn K mg) : Good P w K mg base CX0 1 ("Rule", some "__init__") ["self", "clauses"] (sp_rule_init (He.ga K "Rule")) := by
  refine good_mk T 16 (d := d_Rule_init) (N := ["self", "clauses"]) (ps := ["self", "clauses"]) rfl rfl sc_Rule_init (fun _ _ _ _ _ _ us hl => match us, hl with | [_, _], _ => rfl) (fun vs H Q E h => ?_) (fun f cdv A outer σ0 H vs Q E hr h => ?_)
  · obtain ⟨p, dx, l, rfl, _⟩ := h; rfl
  · obtain ⟨p, dx, l, rfl, hp, k⟩ := h
    have cl := T.cls 67
    refine ⟨_, (pss_one (ps_fld (pv 0) (pv 1) rfl)), ?_⟩
    walk_at "rd"
    refine ⟨p, _, dx, [], rfl, hp, cl, T.noat 66, by decide, ?_⟩
    exact k
theorem isi_str {z : Str} {H : Hp} {Q : VK} (q : Q (.bl true) H) : rIsi K [.str z, .ty "str"] H Q := isi_ty (.base (.str z)) (by decide +kernel : kitB "str" "str" = some true) q
set_option maxHeartbeats 8000000 in
theorem ok_read_rule (T : Env fa fn K mg) : Good P w K mg base CX0 5 ("read_rule", none) ["text"] (sp_read_rule K) := by
  have G_read_clause := ok_read_clause (P := P) (w := w) (base := base) T
  have G_Rule_init := ok_rule_init (P := P) (w := w) (base := base) T
  have G_becomes := ok_becomes (P := P) (w := w) (base := base) T
  refine good_mk T 24 (d := d_read_rule) (N := ["text", "clauses", "rule", "part"]) (ps := ["text"]) rfl rfl sc_read_rule (fun _ _ _ _ _ _ us hl => match us, hl with | [_], _ => rfl) (fun vs H Q E h => ?_) (fun f cdv A outer σ0 H vs Q E hr h => ?_)
  · obtain ⟨cs, rfl, _⟩ := h; rfl
  · obtain ⟨cs, rfl, hR, k⟩ := h
    obtain ⟨hw, hlen, hcl, hrl, hz⟩ := id hR
    have mp1 := mp_read_clause (K := K)
    refine ⟨_, (pss_cons (ps_if (pt_not (pt_val (pe_callB (call_isiK K rfl) (by rfl) (T.free 25) (by decide +kernel) (pa_cons (pv 0) (pa_cons (pe_bltn (v := V.ty "str") rfl (T.free 24) (by decide +kernel) rfl) pa_nil))))) pss_never pss_nil)
      (pss_cons (ps_set (i := 1) sc_read_rule.nd rfl (Or.inl rfl) (pe_lst pa_nil))
      (pss_cons (ps_if (pt_cmpR op_ne (pv 0) pe_str (nomark _)) (pss_one (ps_setLc (i := 1) (own := [("part", 3)]) (tt := tYes) rfl sc_read_rule.nd rfl rfl (sw_true rfl rfl rfl (by decide +kernel)) (pi_listK K rfl (pe_split (pv 0) pe_str)) (blkOk_by (own := [("part", 3)]) (N := ["text", "clauses", "rule", "part"]) (sc := defScope st_read_rule) (by decide +kernel)) (fun _ _ _ _ _ => by exact (pg_name (i := 3) sc_read_rule.nd rfl (Or.inl rfl))) (fun _ _ _ _ _ => by exact pts_nil) (fun _ _ _ _ _ => by exact (pe_cgK K rfl G_read_clause (hr.mono (by decide)) (T.glo 26) (pa_cons (pv 3) pa_nil))))) pss_nil)
      (pss_cons (ps_set (i := 2) sc_read_rule.nd rfl (Or.inl rfl) (pe_mkgK K rfl (T.mkr 27) G_Rule_init (hr.mono (by decide)) (T.glo 28) (pa_cons (pv 1) pa_nil)))
      (pss_cons (ps_if (pt_cmpR op_ne (pe_cgK K rfl G_becomes (hr.mono (by decide)) (T.glo 29) (pa_cons (pv 2) (pa_cons pe_int (pa_cons (pe_lst (pa_cons pe_int (pa_cons pe_int (pa_cons pe_int (pa_cons pe_int (pa_cons pe_int (pa_cons pe_int (pa_cons pe_int (pa_cons pe_int pa_nil))))))))) pa_nil)))) pe_int (nomark _)) pss_never pss_nil)
      (pss_one (ps_ret (pv 2)))))))), ?_⟩
    walk_at "rd"
    refine isi_str ?_
    walk_at "rd"
    refine rd_new (hn := by show 0 ≤ sizeLine; decide) fun p0 hp0 => ?_
    have s0 := same_upd (o := .lst []) hp0
    have L0 : (upd H p0 (.lst [])) p0 = some (.lst []) := upd_same
    generalize upd H p0 (.lst []) = H0 at s0 L0 ⊢
    walk_at "rhi"
    refine rd_cut (fun σ H1 => ∃ (l : Addr) (us : List V) (x3 : Option V), σ = [some (.str (tx (ruleT cs))), some (.ref l), none, x3] ∧ Same H H1 ∧ H1 l = some (.lst us) ∧ AllV (ClaAt K H1) us cs) (by walk_at "mono") ?_ ?_
    · walk_at "rd"
      cases cs with
      | nil =>
        rw [show (decide ((tx (ruleT [])) = Str.ofString "")) = true from by decide +kernel]
        walk_at "rd"
        exact ⟨p0, [], none, rfl, s0, L0, trivial⟩
      | cons c cs =>
        have hne : ¬ (tx (ruleT (c :: cs)) = Str.ofString "") := fun e => by
          have e2 : (Str.ofString "").cps.toList = [] := by decide +kernel
          have e1 : ruleT (c :: cs) = [] := by rw [← e2, ← e]
          exact joinL_pos (claT_pos c) _ e1
        rw [decide_eq_false hne]
        walk_at "rd"
        refine rd_m1 ?_
        walk_at "rd"
        refine rd_st ?_
        walk_at "rd"
        refine ⟨_, _, rfl, rfl, by decide +kernel, small_len16 (by rw [len_tx]; omega), fun pw hpw => ?_⟩
        have esp : Txt.split (tx (ruleT (c :: cs))) (Str.ofString "; ") = ((c :: cs).map claT).map tx := split_tx tl_semi (by decide +kernel) (by simp) fun w hw' => by
          obtain ⟨d, hd, rfl⟩ := List.mem_map.mp hw'
          exact no_semi (hw d hd)
        rw [esp]
        have eW : (((c :: cs).map claT).map tx).map V.str = (c :: cs).map fun d => V.str (tx (claT d)) := by simp only [List.map_map, Function.comp_def]
        rw [eW]
        generalize hcs : c :: cs = ds at *
        have s2 := same_upd (o := .lst (ds.map fun d => V.str (tx (claT d)))) hpw
        have L2 : (upd H0 pw (.lst (ds.map fun d => V.str (tx (claT d))))) pw = some (.lst (ds.map fun d => V.str (tx (claT d)))) := upd_same
        generalize upd H0 pw (.lst (ds.map fun d => V.str (tx (claT d)))) = H2 at s2 L2 ⊢
        refine ⟨pw, rfl, ⟨_, SqL.of L2⟩, fun D hD => ?_⟩
        have sD := fun o => same_upd (o := o) hD
        refine lc_list (K := K) (xs := ds.map fun d => V.str (tx (claT d))) (fun i H' => Same H2 H' ∧ ∃ us, H' D = some (.lst us) ∧ AllV (ClaAtN (fun b => b ≠ D) K H') us (ds.take i)) ?_ ?_ ?_ ?_
        · exact ⟨sD _, [], upd_same, trivial⟩
        · rintro i H' _ ⟨s3, _⟩
          exact SqL.of (s3 _ _ L2)
        · rintro i x H' hx ⟨s3, us, hus, hall⟩
          obtain ⟨d, hk, rfl⟩ : ∃ d, ds[i]? = some d ∧ x = V.str (tx (claT d)) := by
            rw [List.getElem?_map] at hx
            cases e : ds[i]? with
            | none => rw [e] at hx; cases hx
            | some y => rw [e] at hx; exact ⟨y, rfl, (Option.some.inj hx).symm⟩
          have hi := (List.getElem?_eq_some_iff.mp hk).1
          have hm := List.mem_of_getElem? hk
          walk_at "rd"
          refine ⟨rfl, ?_⟩
          walk_at "rd"
          refine ⟨d, rfl, hw d hm, (hlen d hm).1, (hlen d hm).2, fun H4 v s4 hv => ?_⟩
          have hus4 := s4 _ _ hus
          have hv' : ClaAtN (fun b => b ≠ D) K H4 v d := hv.imp fun b hb z => by rw [z, hus] at hb; cases hb
          refine ⟨us, hus4, ?_, Same.put2 (s3.trans s4) hD, us ++ [v], upd_same, ?_⟩
          · have := hall.len
            rw [List.length_take] at this
            exact small1000 (by omega)
          · rw [take_snoc hk]
            exact ((hall.imp fun _ _ h => h.same s4).app hv').imp fun _ _ h => h.upd fun b hb => hb
        · rintro H3 ⟨s3, us, hus, hall⟩
          rw [List.length_map, List.take_length] at hall
          walk_at "rd"
          exact ⟨D, us, none, rfl, (s0.trans s2).trans s3, hus, hall.imp fun _ _ h => h.at⟩
    rintro σ H1 ⟨l, us, x3, rfl, s1, hl, hall⟩
    walk_at "rd"
    refine rd_make ?_
    walk_at "rd"
    intro x dx hx hdx hne
    refine ⟨x, dx, l, rfl, upd_same, rfl, ?_⟩
    have s2 : Same H1 (upd (upd (upd H1 dx (.own x)) x (.ins (He.ga K "Rule") dx [])) x (.ins (He.ga K "Rule") dx [("clauses", .ref l)])) := Same.put2 (made_same2 hx hdx) hx
    have hat : RuleAt K (upd (upd (upd H1 dx (.own x)) x (.ins (He.ga K "Rule") dx [])) x (.ins (He.ga K "Rule") dx [("clauses", .ref l)])) (.ref x) cs := ⟨x, dx, l, us, rfl, upd_same, s2 _ _ hl, hall.imp fun _ _ h => h.same s2⟩
    generalize upd (upd (upd H1 dx (.own x)) x (.ins (He.ga K "Rule") dx [])) x (.ins (He.ga K "Rule") dx [("clauses", .ref l)]) = H2 at s2 hat ⊢
    walk_at "rd"
    refine rd_new (hn := by show 8 ≤ sizeLine; decide) fun pz hpz => ?_
    have s3 := same_upd (o := .lst [V.int 0, V.int 0, V.int 0, V.int 0, V.int 0, V.int 0, V.int 0, V.int 0]) hpz
    walk_at "rd"
    refine ⟨_, pz, cs, 0, eights, rfl, hat.same s3, upd_same, rfl, hR.ok, fun H4 s4 => ?_⟩
    rw [hz]
    walk_at "rd"
    refine iteF ?_
    walk_at "rd"
    exact k _ _ (((s1.trans s2).trans s3).trans s4) ((hat.same s3).same s4)
end
end JF

/-! ### rules: helpers of the laws -/
namespace JF
open PySem PySem.Spec PyProof.Rows L2
theorem tl_tx (l : List Nat) : TL.tl (tx l) = l := rfl
theorem tl_int {d : Nat} (h : d < 10) : TL.tl (Str.ofString (toString (d : Int))) = [48 + d] := by rw [TL.tl_num, TL.numL_lt h]
theorem take_sign {t : Nat} (h : t < 9) : ((Str.ofString "01234567*").cps.toList)[t]? = some (if t = 8 then 42 else 48 + t) := by
  have e : (Str.ofString "01234567*").cps.toList = [48, 49, 50, 51, 52, 53, 54, 55, 42] := by decide +kernel
  rw [e]
  match t, h with
  | 0, _ => rfl
  | 1, _ => rfl
  | 2, _ => rfl
  | 3, _ => rfl
  | 4, _ => rfl
  | 5, _ => rfl
  | 6, _ => rfl
  | 7, _ => rfl
  | 8, _ => rfl
theorem add_ok {i j : Str} (h : (TL.tl i).length + (TL.tl j).length ≤ 1000000) : i.length + j.length ≤ sizeLine := by
  rw [TL.len_tl i, TL.len_tl j]
  exact small_len h
theorem log_ok {i : Int} (h : i.natAbs < 1000) : i.natAbs.log2 < 1920 := Nat.lt_of_le_of_lt (Nat.log2_le_self _) (by omega)
theorem sum_len : ∀ nu : List Int, (nu.map (List.length ∘ fun n : Int => [48 + n.toNat])).sum = nu.length
  | [] => rfl
  | n :: ns => by
    have ih := sum_len ns
    simp only [List.map_cons, List.sum_cons, ih, Function.comp_apply, List.length_cons, List.length_nil]
    omega
theorem join_one : ∀ nu : List Int, TL.joinL [] (nu.map fun n => [48 + n.toNat]) = numT nu
  | [] => rfl
  | [n] => rfl
  | n :: m :: ns => by
    show [48 + n.toNat] ++ ([] ++ TL.joinL [] ((m :: ns).map fun n => [48 + n.toNat])) = _
    rw [join_one (m :: ns)]; rfl
theorem rule_one (c : Cla) (cell : Int) (xs : List Int) : ruleMakes [c] cell xs = if c.fits cell xs = true then c.made else cell := by
  unfold ruleMakes firstFit
  by_cases h : c.fits cell xs = true
  · rw [if_pos h, if_pos h]; rfl
  · rw [if_neg h, if_neg h]; rfl
theorem fits_one (tk : Nat) (s m : Int) (nu : List Int) (cell : Int) (xs : List Int) : Cla.fits ⟨if tk = 8 then none else some (tk : Int), [.amt s nu], m⟩ cell xs = (decide ((tk : Int) = cell ∨ (tk : Int) = 8) && decide (((xs.count s : Nat) : Int) ∈ nu)) := by
  show (wishOk (if tk = 8 then none else some (tk : Int)) cell && ([Cond.amt s nu].all fun k => k.holds xs)) = _
  have e : ([Cond.amt s nu].all fun k => k.holds xs) = decide (((xs.count s : Nat) : Int) ∈ nu) := by simp [Cond.holds]
  rw [e]
  by_cases z : tk = 8
  · rw [if_pos z, decide_eq_true (by omega : (tk : Int) = cell ∨ (tk : Int) = 8)]; rfl
  · rw [if_neg z]
    show (decide ((tk : Int) = cell) && _) = _
    by_cases y : (tk : Int) = cell
    · rw [decide_eq_true y, decide_eq_true (Or.inl y)]
    · rw [decide_eq_false y, decide_eq_false (by omega : ¬ ((tk : Int) = cell ∨ (tk : Int) = 8))]
section
variable {P : Program} {w : World} {K : PySem.W.Frag} {mg : Str → Option Value} {base : Heap}
def sp_whole : Sp := fun vs H Q _ => ∃ x : V, vs = [x] ∧ ((∃ i, x = .int i) ∨ (∃ b, x = .bl b) ∨ (∃ z, x = .str z) ∨ x = .non) ∧ Q (.bl (wholeV x)) H
theorem mp_whole : MonP sp_whole := fun vs H Q Q' E h ⟨x, x1, x2, q⟩ => ⟨x, x1, x2, h _ _ q⟩
theorem ok_whole (T : Env fa fn K mg) : Good P w K mg base CX0 1 ("_law_whole", none) ["_law_found"] sp_whole := by
  refine good_mk T 40 (d := d_w_whole) (N := ["_law_found"]) (ps := ["_law_found"]) rfl rfl sc_w_whole (fun _ _ _ _ _ _ us hl => match us, hl with | [_], _ => rfl) (fun vs H Q E h => ?_) (fun f cdv A outer s H vs Q E hr h => ?_)
  · obtain ⟨x, rfl, _⟩ := h; rfl
  · obtain ⟨x, rfl, hx, k⟩ := h
    refine ⟨_, (pss_one (ps_ret (pe_and (pe_callB (call_isiK K rfl) (by rfl) (T.free 25) (by decide +kernel) (pa_cons (pv 0) (pa_cons (pe_bltn (v := V.ty "int") rfl (T.free 12) (by decide +kernel) rfl) pa_nil))) (pe_one (pe_not (pe_callB (call_isiK K rfl) (by rfl) (T.free 25) (by decide +kernel) (pa_cons (pv 0) (pa_cons (pe_bltn (v := V.ty "bool") rfl (T.free 45) (by decide +kernel) rfl) pa_nil)))))))), ?_⟩
    walk_at "rd"
    rcases hx with ⟨i, rfl⟩ | ⟨b, rfl⟩ | ⟨z, rfl⟩ | rfl
    · refine isi_ty (.base (.int i)) (by decide +kernel : kitB "int" "int" = some true) ?_
      walk_at "rd"
      refine isi_ty (.base (.int i)) (by decide +kernel : kitB "int" "bool" = some false) ?_
      walk_at "rd"
      exact k
    · refine isi_ty (.base (.bl b)) (by decide +kernel : kitB "bool" "int" = some true) ?_
      walk_at "rd"
      refine isi_ty (.base (.bl b)) (by decide +kernel : kitB "bool" "bool" = some true) ?_
      walk_at "rd"
      exact k
    · refine isi_ty (.base (.str z)) (by decide +kernel : kitB "str" "int" = some false) ?_
      walk_at "rd"
      exact k
    · refine isi_ty (.base .non) (by decide +kernel : kitB "NoneType" "int" = some false) ?_
      walk_at "rd"
      exact k
end
end JF

/-! ### rules, and that their lists are new -/
namespace JF
open PySem PySem.Spec PyProof.Rows L2
def RuleAtN (N : Addr → Prop) (K : PySem.W.Frag) (H : Hp) (v : V) (cs : List Cla) : Prop := ∃ p dx l ps, v = .ref p ∧ H p = some (.ins (He.ga K "Rule") dx [("clauses", .ref l)]) ∧ H l = some (.lst ps) ∧ N p ∧ N l ∧ AllV (ClaAtN N K H) ps cs
theorem RuleAtN.at {N : Addr → Prop} {K : PySem.W.Frag} {H : Hp} {v : V} {cs : List Cla} (h : RuleAtN N K H v cs) : RuleAt K H v cs := by
  obtain ⟨p, dx, l, ps, e, h1, h2, _, _, h3⟩ := h
  exact ⟨p, dx, l, ps, e, h1, h2, h3.imp fun _ _ h => h.at⟩
theorem RuleAtN.imp {N N' : Addr → Prop} {K : PySem.W.Frag} {H : Hp} {v : V} {cs : List Cla} (h : RuleAtN N K H v cs) (k : ∀ b, N b → N' b) : RuleAtN N' K H v cs := by
  obtain ⟨p, dx, l, ps, e, h1, h2, h3, h4, h5⟩ := h
  exact ⟨p, dx, l, ps, e, h1, h2, k _ h3, k _ h4, h5.imp fun _ _ h => h.imp k⟩
theorem RuleAtN.same {N : Addr → Prop} {K : PySem.W.Frag} {H H' : Hp} {v : V} {cs : List Cla} (h : RuleAtN N K H v cs) (s : Same H H') : RuleAtN N K H' v cs := by
  obtain ⟨p, dx, l, ps, e, h1, h2, h3, h4, h5⟩ := h
  exact ⟨p, dx, l, ps, e, s _ _ h1, s _ _ h2, h3, h4, h5.imp fun _ _ h => h.same s⟩
/-- what stands in a heap is kept where only other addresses are written -/
theorem CondAtN.fr {N : Addr → Prop} {K : PySem.W.Frag} {H H' : Hp} {v : V} {c : Cond} {S : List Addr} (h : CondAtN N K H v c) (f : Fr S H H') (k : ∀ b, N b → b ∉ S) : CondAtN N K H' v c := by
  cases c with
  | amt s ns => obtain ⟨p, dx, l, e, h1, h2, h3, h4⟩ := h; exact ⟨p, dx, l, e, f _ _ h1 (k _ h3), f _ _ h2 (k _ h4), h3, h4⟩
  | plc ws => obtain ⟨p, dx, l, e, h1, h2, h3, h4⟩ := h; exact ⟨p, dx, l, e, f _ _ h1 (k _ h3), f _ _ h2 (k _ h4), h3, h4⟩
theorem ClaAtN.fr {N : Addr → Prop} {K : PySem.W.Frag} {H H' : Hp} {v : V} {c : Cla} {S : List Addr} (h : ClaAtN N K H v c) (f : Fr S H H') (k : ∀ b, N b → b ∉ S) : ClaAtN N K H' v c := by
  obtain ⟨p, dx, l, ps, e, h1, h2, h3, h4, h5⟩ := h
  exact ⟨p, dx, l, ps, e, f _ _ h1 (k _ h3), f _ _ h2 (k _ h4), h3, h4, h5.imp fun _ _ h => h.fr f k⟩
theorem RuleAtN.fr {N : Addr → Prop} {K : PySem.W.Frag} {H H' : Hp} {v : V} {cs : List Cla} {S : List Addr} (h : RuleAtN N K H v cs) (f : Fr S H H') (k : ∀ b, N b → b ∉ S) : RuleAtN N K H' v cs := by
  obtain ⟨p, dx, l, ps, e, h1, h2, h3, h4, h5⟩ := h
  exact ⟨p, dx, l, ps, e, f _ _ h1 (k _ h3), f _ _ h2 (k _ h4), h3, h4, h5.imp fun _ _ h => h.fr f k⟩
section
variable {P : Program} {w : World} {K : PySem.W.Frag} {mg : Str → Option Value} {base : Heap}
def sp_read_ruleN (K : PySem.W.Frag) : Sp := fun vs H Q _ => ∃ cs : List Cla, vs = [.str (tx (ruleT cs))] ∧ RuleW cs ∧ ∀ H' v, Same H H' → RuleAtN (fun b => H b = none) K H' v cs → Q v H'
theorem mp_read_ruleN : MonP (sp_read_ruleN K) := fun vs H Q Q' E h ⟨cs, x1, x2, k⟩ => ⟨cs, x1, x2, fun H' v a b => h _ _ (k H' v a b)⟩
set_option maxHeartbeats 8000000 in
theorem ok_read_ruleN (T : Env fa fn K mg) : Good P w K mg base CX0 5 ("read_rule", none) ["text"] (sp_read_ruleN K) := by
  have G_read_clause := ok_read_clause (P := P) (w := w) (base := base) T
  have G_Rule_init := ok_rule_init (P := P) (w := w) (base := base) T
  have G_becomes := ok_becomes (P := P) (w := w) (base := base) T
  refine good_mk T 24 (d := d_read_rule) (N := ["text", "clauses", "rule", "part"]) (ps := ["text"]) rfl rfl sc_read_rule (fun _ _ _ _ _ _ us hl => match us, hl with | [_], _ => rfl) (fun vs H Q E h => ?_) (fun f cdv A outer σ0 H vs Q E hr h => ?_)
  · obtain ⟨cs, rfl, _⟩ := h; rfl
  · obtain ⟨cs, rfl, hR, k⟩ := h
    obtain ⟨hw, hlen, hcl, hrl, hz⟩ := id hR
    have mp1 := mp_read_clause (K := K)
    refine ⟨_, (pss_cons (ps_if (pt_not (pt_val (pe_callB (call_isiK K rfl) (by rfl) (T.free 25) (by decide +kernel) (pa_cons (pv 0) (pa_cons (pe_bltn (v := V.ty "str") rfl (T.free 24) (by decide +kernel) rfl) pa_nil))))) pss_never pss_nil)
      (pss_cons (ps_set (i := 1) sc_read_rule.nd rfl (Or.inl rfl) (pe_lst pa_nil))
      (pss_cons (ps_if (pt_cmpR op_ne (pv 0) pe_str (nomark _)) (pss_one (ps_setLc (i := 1) (own := [("part", 3)]) (tt := tYes) rfl sc_read_rule.nd rfl rfl (sw_true rfl rfl rfl (by decide +kernel)) (pi_listK K rfl (pe_split (pv 0) pe_str)) (blkOk_by (own := [("part", 3)]) (N := ["text", "clauses", "rule", "part"]) (sc := defScope st_read_rule) (by decide +kernel)) (fun _ _ _ _ _ => by exact (pg_name (i := 3) sc_read_rule.nd rfl (Or.inl rfl))) (fun _ _ _ _ _ => by exact pts_nil) (fun _ _ _ _ _ => by exact (pe_cgK K rfl G_read_clause (hr.mono (by decide)) (T.glo 26) (pa_cons (pv 3) pa_nil))))) pss_nil)
      (pss_cons (ps_set (i := 2) sc_read_rule.nd rfl (Or.inl rfl) (pe_mkgK K rfl (T.mkr 27) G_Rule_init (hr.mono (by decide)) (T.glo 28) (pa_cons (pv 1) pa_nil)))
      (pss_cons (ps_if (pt_cmpR op_ne (pe_cgK K rfl G_becomes (hr.mono (by decide)) (T.glo 29) (pa_cons (pv 2) (pa_cons pe_int (pa_cons (pe_lst (pa_cons pe_int (pa_cons pe_int (pa_cons pe_int (pa_cons pe_int (pa_cons pe_int (pa_cons pe_int (pa_cons pe_int (pa_cons pe_int pa_nil))))))))) pa_nil)))) pe_int (nomark _)) pss_never pss_nil)
      (pss_one (ps_ret (pv 2)))))))), ?_⟩
    walk_at "rd"
    refine isi_str ?_
    walk_at "rd"
    refine rd_new (hn := by show 0 ≤ sizeLine; decide) fun p0 hp0 => ?_
    have s0 := same_upd (o := .lst []) hp0
    have L0 : (upd H p0 (.lst [])) p0 = some (.lst []) := upd_same
    generalize upd H p0 (.lst []) = H0 at s0 L0 ⊢
    walk_at "rhi"
    refine rd_cut (fun σ H1 => ∃ (l : Addr) (us : List V) (x3 : Option V), σ = [some (.str (tx (ruleT cs))), some (.ref l), none, x3] ∧ Same H H1 ∧ H1 l = some (.lst us) ∧ H l = none ∧ AllV (ClaAtN (fun b => H b = none) K H1) us cs) (by walk_at "mono") ?_ ?_
    · walk_at "rd"
      cases cs with
      | nil =>
        rw [show (decide ((tx (ruleT [])) = Str.ofString "")) = true from by decide +kernel]
        walk_at "rd"
        exact ⟨p0, [], none, rfl, s0, L0, hp0, trivial⟩
      | cons c cs =>
        have hne : ¬ (tx (ruleT (c :: cs)) = Str.ofString "") := fun e => by
          have e2 : (Str.ofString "").cps.toList = [] := by decide +kernel
          have e1 : ruleT (c :: cs) = [] := by rw [← e2, ← e]
          exact joinL_pos (claT_pos c) _ e1
        rw [decide_eq_false hne]
        walk_at "rd"
        refine rd_m1 ?_
        walk_at "rd"
        refine rd_st ?_
        walk_at "rd"
        refine ⟨_, _, rfl, rfl, by decide +kernel, small_len16 (by rw [len_tx]; omega), fun pw hpw => ?_⟩
        have esp : Txt.split (tx (ruleT (c :: cs))) (Str.ofString "; ") = ((c :: cs).map claT).map tx := split_tx tl_semi (by decide +kernel) (by simp) fun w hw' => by
          obtain ⟨d, hd, rfl⟩ := List.mem_map.mp hw'
          exact no_semi (hw d hd)
        rw [esp]
        have eW : (((c :: cs).map claT).map tx).map V.str = (c :: cs).map fun d => V.str (tx (claT d)) := by simp only [List.map_map, Function.comp_def]
        rw [eW]
        generalize hcs : c :: cs = ds at *
        have s2 := same_upd (o := .lst (ds.map fun d => V.str (tx (claT d)))) hpw
        have L2 : (upd H0 pw (.lst (ds.map fun d => V.str (tx (claT d))))) pw = some (.lst (ds.map fun d => V.str (tx (claT d)))) := upd_same
        generalize upd H0 pw (.lst (ds.map fun d => V.str (tx (claT d)))) = H2 at s2 L2 ⊢
        refine ⟨pw, rfl, ⟨_, SqL.of L2⟩, fun D hD => ?_⟩
        have sD := fun o => same_upd (o := o) hD
        refine lc_list (K := K) (xs := ds.map fun d => V.str (tx (claT d))) (fun i H' => Same H2 H' ∧ ∃ us, H' D = some (.lst us) ∧ AllV (ClaAtN (fun b => b ≠ D ∧ H b = none) K H') us (ds.take i)) ?_ ?_ ?_ ?_
        · exact ⟨sD _, [], upd_same, trivial⟩
        · rintro i H' _ ⟨s3, _⟩
          exact SqL.of (s3 _ _ L2)
        · rintro i x H' hx ⟨s3, us, hus, hall⟩
          obtain ⟨d, hk, rfl⟩ : ∃ d, ds[i]? = some d ∧ x = V.str (tx (claT d)) := by
            rw [List.getElem?_map] at hx
            cases e : ds[i]? with
            | none => rw [e] at hx; cases hx
            | some y => rw [e] at hx; exact ⟨y, rfl, (Option.some.inj hx).symm⟩
          have hi := (List.getElem?_eq_some_iff.mp hk).1
          have hm := List.mem_of_getElem? hk
          walk_at "rd"
          refine ⟨rfl, ?_⟩
          walk_at "rd"
          refine ⟨d, rfl, hw d hm, (hlen d hm).1, (hlen d hm).2, fun H4 v s4 hv => ?_⟩
          have hus4 := s4 _ _ hus
          have hv' : ClaAtN (fun b => b ≠ D ∧ H b = none) K H4 v d := hv.imp fun b hb => ⟨(fun z => by rw [z, hus] at hb; cases hb), none_of ((s0.trans s2).trans s3) hb⟩
          refine ⟨us, hus4, ?_, Same.put2 (s3.trans s4) hD, us ++ [v], upd_same, ?_⟩
          · have := hall.len
            rw [List.length_take] at this
            exact small1000 (by omega)
          · rw [take_snoc hk]
            exact ((hall.imp fun _ _ h => h.same s4).app hv').imp fun _ _ h => h.upd fun b hb => hb.1
        · rintro H3 ⟨s3, us, hus, hall⟩
          rw [List.length_map, List.take_length] at hall
          walk_at "rd"
          exact ⟨D, us, none, rfl, (s0.trans s2).trans s3, hus, none_of (s0.trans s2) hD, hall.imp fun _ _ h => h.imp fun b hb => hb.2⟩
    rintro σ H1 ⟨l, us, x3, rfl, s1, hl, hln, hall⟩
    walk_at "rd"
    refine rd_make ?_
    walk_at "rd"
    intro x dx hx hdx hne
    refine ⟨x, dx, l, rfl, upd_same, rfl, ?_⟩
    have s2 : Same H1 (upd (upd (upd H1 dx (.own x)) x (.ins (He.ga K "Rule") dx [])) x (.ins (He.ga K "Rule") dx [("clauses", .ref l)])) := Same.put2 (made_same2 hx hdx) hx
    have hat : RuleAtN (fun b => H b = none) K (upd (upd (upd H1 dx (.own x)) x (.ins (He.ga K "Rule") dx [])) x (.ins (He.ga K "Rule") dx [("clauses", .ref l)])) (.ref x) cs := ⟨x, dx, l, us, rfl, upd_same, s2 _ _ hl, none_of s1 hx, hln, hall.imp fun _ _ h => h.same s2⟩
    generalize upd (upd (upd H1 dx (.own x)) x (.ins (He.ga K "Rule") dx [])) x (.ins (He.ga K "Rule") dx [("clauses", .ref l)]) = H2 at s2 hat ⊢
    walk_at "rd"
    refine rd_new (hn := by show 8 ≤ sizeLine; decide) fun pz hpz => ?_
    have s3 := same_upd (o := .lst [V.int 0, V.int 0, V.int 0, V.int 0, V.int 0, V.int 0, V.int 0, V.int 0]) hpz
    walk_at "rd"
    refine ⟨_, pz, cs, 0, eights, rfl, (hat.same s3).at, upd_same, rfl, hR.ok, fun H4 s4 => ?_⟩
    rw [hz]
    walk_at "rd"
    refine iteF ?_
    walk_at "rd"
    exact k _ _ (((s1.trans s2).trans s3).trans s4) ((hat.same s3).same s4)
end
end JF

/-! ### drawn clauses: what the laws draw -/
namespace JF
open PySem PySem.Spec PyProof.Rows L2
def wishOf (w : Int) : Option Int := if w = 8 then none else some w
/-- a condition as the laws hold it: a tuple -/
def LCond (H : Hp) (v : V) : Cond → Prop
  | .amt s ns => ∃ (t l : Addr), v = .ref t ∧ H t = some (.tup [.str "amount", .int s, .ref l]) ∧ H l = some (.lst (ns.map V.int))
  | .plc ws => ∃ (t l : Addr) (wv : List Int), v = .ref t ∧ H t = some (.tup [.str "places", .ref l]) ∧ H l = some (.lst (wv.map V.int)) ∧ ws = wv.map wishOf ∧ ∀ w ∈ wv, 0 ≤ w ∧ w ≤ 8
theorem LCond.same {H H' : Hp} {v : V} {c : Cond} (h : LCond H v c) (s : Same H H') : LCond H' v c := by
  cases c with
  | amt st ns => obtain ⟨t, l, e, h1, h2⟩ := h; exact ⟨t, l, e, s _ _ h1, s _ _ h2⟩
  | plc ws => obtain ⟨t, l, wv, e, h1, h2, h3⟩ := h; exact ⟨t, l, wv, e, s _ _ h1, s _ _ h2, h3⟩
def LCondN (N : Addr → Prop) (H : Hp) (v : V) : Cond → Prop
  | .amt s ns => ∃ (t l : Addr), v = .ref t ∧ H t = some (.tup [.str "amount", .int s, .ref l]) ∧ H l = some (.lst (ns.map V.int)) ∧ N l
  | .plc ws => ∃ (t l : Addr) (wv : List Int), v = .ref t ∧ H t = some (.tup [.str "places", .ref l]) ∧ H l = some (.lst (wv.map V.int)) ∧ N l ∧ ws = wv.map wishOf ∧ ∀ w ∈ wv, 0 ≤ w ∧ w ≤ 8
theorem LCondN.at {N : Addr → Prop} {H : Hp} {v : V} {c : Cond} (h : LCondN N H v c) : LCond H v c := by
  cases c with
  | amt st ns => obtain ⟨t, l, e, h1, h2, _⟩ := h; exact ⟨t, l, e, h1, h2⟩
  | plc ws => obtain ⟨t, l, wv, e, h1, h2, _, h3⟩ := h; exact ⟨t, l, wv, e, h1, h2, h3⟩
theorem LCondN.imp {N N' : Addr → Prop} {H : Hp} {v : V} {c : Cond} (h : LCondN N H v c) (k : ∀ b, N b → N' b) : LCondN N' H v c := by
  cases c with
  | amt st ns => obtain ⟨t, l, e, h1, h2, h3⟩ := h; exact ⟨t, l, e, h1, h2, k _ h3⟩
  | plc ws => obtain ⟨t, l, wv, e, h1, h2, h3, h4⟩ := h; exact ⟨t, l, wv, e, h1, h2, k _ h3, h4⟩
theorem LCondN.same {N : Addr → Prop} {H H' : Hp} {v : V} {c : Cond} (h : LCondN N H v c) (s : Same H H') : LCondN N H' v c := by
  cases c with
  | amt st ns => obtain ⟨t, l, e, h1, h2, h3⟩ := h; exact ⟨t, l, e, s _ _ h1, s _ _ h2, h3⟩
  | plc ws => obtain ⟨t, l, wv, e, h1, h2, h3, h4⟩ := h; exact ⟨t, l, wv, e, s _ _ h1, s _ _ h2, h3, h4⟩
theorem LCondN.upd {N : Addr → Prop} {H : Hp} {v : V} {c : Cond} {D : Addr} {o : HO} {xs : List V} (h : LCondN N H v c) (hD : H D = some (.lst xs)) (k : ∀ b, N b → b ≠ D) : LCondN N (L2.upd H D o) v c := by
  have tn : ∀ t ys, H t = some (.tup ys) → t ≠ D := fun t ys e z => by rw [z, hD] at e; cases e
  cases c with
  | amt st ns => obtain ⟨t, l, e, h1, h2, h3⟩ := h; exact ⟨t, l, e, by rw [upd_ne (tn _ _ h1)]; exact h1, by rw [upd_ne (k _ h3)]; exact h2, h3⟩
  | plc ws => obtain ⟨t, l, wv, e, h1, h2, h3, h4⟩ := h; exact ⟨t, l, wv, e, by rw [upd_ne (tn _ _ h1)]; exact h1, by rw [upd_ne (k _ h3)]; exact h2, h3, h4⟩
def takenN (t : Option Int) : Int := t.getD 8
def LCla (H : Hp) (v : V) (c : Cla) : Prop := ∃ t l ps, v = .ref t ∧ H t = some (.tup [.int (takenN c.taken), .ref l, .int c.made]) ∧ H l = some (.lst ps) ∧ AllV (LCond H) ps c.conds
theorem LCla.same {H H' : Hp} {v : V} {c : Cla} (h : LCla H v c) (s : Same H H') : LCla H' v c := by
  obtain ⟨t, l, ps, e, h1, h2, h3⟩ := h
  exact ⟨t, l, ps, e, s _ _ h1, s _ _ h2, h3.imp fun _ _ h => h.same s⟩
section
variable {P : Program} {w : World} {K : PySem.W.Frag} {mg : Str → Option Value} {base : Heap}
/-- some number from 0 on -/
def sp_mix : Sp := fun vs H Q _ => ∃ c k : Int, vs = [.int c, .int k] ∧ 0 ≤ k ∧ k ≤ 100000 ∧ ∀ z : Int, 0 ≤ z → z < 2147483648 → Q (.int z) H
theorem mp_mix : MonP sp_mix := fun vs H Q Q' E h ⟨c, k, x1, x2, x3, q⟩ => ⟨c, k, x1, x2, x3, fun z a b => h _ _ (q z a b)⟩
theorem mid_mul {a b : Int} (h1 : -(2 ^ 100) < a) (h2 : a < 2 ^ 100) (h3 : -(2 ^ 100) < b) (h4 : b < 2 ^ 100) : CMulW a b := by
  have e1 : (2 : Int) ^ 100 ≤ 2 ^ 2000 := by decide +kernel
  exact mulW_of (by omega) (by omega) (by omega) (by omega)
theorem ok_mix (T : Env fa fn K mg) : Good P w K mg base CX0 1 ("_law_mix", none) ["_law_cell", "_law_k"] sp_mix := by
  refine good_mk T 29 (d := d_w_mix) (N := ["_law_cell", "_law_k", "_law_value"]) (ps := ["_law_cell", "_law_k"]) rfl rfl sc_w_mix (fun _ _ _ _ _ _ us hl => match us, hl with | [_, _], _ => rfl) (fun vs H Q E h => ?_) (fun f cdv A outer σ0 H vs Q E hr h => ?_)
  · obtain ⟨c, k, rfl, _⟩ := h; rfl
  · obtain ⟨c, kk, rfl, h0, h1, k⟩ := h
    refine ⟨_, (pss_cons (ps_set (i := 2) sc_w_mix.nd rfl (Or.inl rfl) (pe_op op_mod (pe_op op_mulW (pe_op op_add (pe_op op_add (pe_op op_mod (pv 0) pe_int) (pe_op op_mulW pe_int (pv 1))) pe_int) (pe_op op_add pe_int (pe_op op_mulW pe_int (pv 1)))) pe_int))
      (pss_one (ps_ret (pe_op op_fdivW (pe_op op_mod (pe_op op_mulW (pe_op op_add (pe_op op_fdivW (pv 2) pe_int) (pv 1)) pe_int) pe_int) pe_int)))), ?_⟩
    walk_at "rd"
    refine rd_I (mid_mul (by decide) (by decide) (by omega) (by omega)) ?_
    walk_at "rd"
    refine rd_I (mid_mul (by decide) (by decide) (by omega) (by omega)) ?_
    walk_at "rd"
    refine rd_I (mid_mul (by omega) (by omega) (by omega) (by omega)) ?_
    walk_at "rd"
    generalize hm : (c % 998244353 + 17 * kk + 5) * (48271 + 2 * kk) % 2147483647 = m
    have m0 : 0 ≤ m := by rw [← hm]; exact Int.emod_nonneg _ (by decide)
    have m1 : m < 2147483647 := by rw [← hm]; exact Int.emod_lt_of_pos _ (by decide)
    refine rd_I (mid_mul (by omega) (by omega) (by omega) (by omega)) ?_
    walk_at "rd"
    refine k _ (by omega) (by omega)
def sp_state_by : Sp := fun vs H Q _ => ∃ (t : Addr) (a b v : Int), vs = [.ref t, .int v] ∧ H t = some (.tup [.int a, .int b]) ∧ St a ∧ St b ∧ ∀ s, St s → Q (.int s) H
theorem mp_state_by : MonP sp_state_by := fun vs H Q Q' E h ⟨t, a, b, v, x1, x2, x3, x4, q⟩ => ⟨t, a, b, v, x1, x2, x3, x4, fun s hs => h _ _ (q s hs)⟩
theorem ok_state_by (T : Env fa fn K mg) : Good P w K mg base CX0 1 ("_law_state_by", none) ["_law_mains", "_law_value"] sp_state_by := by
  refine good_mk T 30 (d := d_w_state_by) (N := ["_law_mains", "_law_value"]) (ps := ["_law_mains", "_law_value"]) rfl rfl sc_w_state_by (fun _ _ _ _ _ _ us hl => match us, hl with | [_, _], _ => rfl) (fun vs H Q E h => ?_) (fun f cdv A outer σ0 H vs Q E hr h => ?_)
  · obtain ⟨t, a, b, v, rfl, _⟩ := h; rfl
  · obtain ⟨t, a, b, v, rfl, ht, ha, hb, k⟩ := h
    refine ⟨_, (pss_cons (ps_if (pt_cmpR op_lt (pe_op op_mod (pv 1) pe_int) pe_int (nomark _)) (pss_one (ps_ret (pe_ix (ix_tupK K rfl) (pv 0) (pe_op op_mod (pv 1) pe_int) (fun _ _ => rfl)))) pss_nil)
      (pss_one (ps_ret (pe_op op_mod (pe_op op_fdivW (pv 1) pe_int) pe_int)))), ?_⟩
    walk_at "rd"
    refine ite_d (fun h1 => ?_) (fun h1 => ?_)
    · walk_at "rd"
      rcases (by omega : v % 3 = 0 ∨ v % 3 = 1) with z | z <;> rw [z]
      · exact rd_ixT (SqT.of ht) (atI_nat (j := 0) rfl) (k _ ha)
      · exact rd_ixT (SqT.of ht) (atI_nat (j := 1) rfl) (k _ hb)
    · walk_at "rd"
      exact k _ ⟨by omega, by omega⟩
def bitsOf (v : Int) : Nat → List Int
  | 0 => []
  | k + 1 => bitsOf v k ++ (if (v / 2 ^ k) % 2 = 1 then [(k : Int)] else [])
theorem bitsOf_mem {v : Int} : ∀ {k : Nat} {n : Int}, n ∈ bitsOf v k → 0 ≤ n ∧ n < (k : Int)
  | 0, n, h => by cases h
  | k + 1, n, h => by
    rcases List.mem_append.mp h with h | h
    · have := bitsOf_mem h; omega
    · split at h
      · rw [List.mem_singleton] at h; omega
      · cases h
theorem bitsOf_inc {v : Int} : ∀ k : Nat, (bitsOf v k).Pairwise (· < ·)
  | 0 => .nil
  | k + 1 => by
    unfold bitsOf
    rw [List.pairwise_append]
    refine ⟨bitsOf_inc k, by split <;> simp, fun a ha b hb => ?_⟩
    split at hb
    · rw [List.mem_singleton] at hb
      have := bitsOf_mem ha
      omega
    · cases hb
theorem bitsOf_len {v : Int} : ∀ k : Nat, (bitsOf v k).length ≤ k
  | 0 => Nat.le_refl _
  | k + 1 => by
    have h := bitsOf_len (v := v) k
    unfold bitsOf
    rw [List.length_append]
    split
    · simp only [List.length_cons, List.length_nil]; omega
    · simp only [List.length_nil]; omega
theorem bitsOf_ne {v : Int} (h1 : 1 ≤ v) (h2 : v ≤ 511) : bitsOf v 9 ≠ [] := by
  intro e
  simp only [bitsOf, List.append_eq_nil_iff, List.nil_append] at e
  obtain ⟨⟨⟨⟨⟨⟨⟨⟨e0, e1⟩, e2⟩, e3⟩, e4⟩, e5⟩, e6⟩, e7⟩, e8⟩ := e
  have z : ∀ (k : Nat), (if (v / 2 ^ k) % 2 = 1 then [(k : Int)] else []) = [] → ¬ (v / 2 ^ k) % 2 = 1 := fun k h y => by rw [if_pos y] at h; cases h
  have z0 := z 0 e0; have z1 := z 1 e1; have z2 := z 2 e2; have z3 := z 3 e3; have z4 := z 4 e4; have z5 := z 5 e5; have z6 := z 6 e6; have z7 := z 7 e7; have z8 := z 8 e8
  omega
theorem band1'' (i : Int) : Builtin.bitAnd i 1 = i % 2 := PySem.W.kbt_mask i 1
theorem wishW_of {w : Int} (h0 : 0 ≤ w) (h8 : w ≤ 8) : WishW (wishOf w) := by
  unfold wishOf
  by_cases z : w = 8
  · rw [if_pos z]; trivial
  · rw [if_neg z]; show St w; unfold St; omega
def sp_condition_by : Sp := fun vs H Q _ => ∃ (t : Addr) (a b sd j : Int), vs = [.ref t, .int sd, .int j] ∧ H t = some (.tup [.int a, .int b]) ∧ St a ∧ St b ∧ 0 ≤ j ∧ j ≤ 90000 ∧ ∀ H' v (c : Cond), Same H H' → LCondN (fun b => H b = none) H' v c → CondW c → Q v H'
theorem mp_condition_by : MonP sp_condition_by := fun vs H Q Q' E h ⟨t, a, b, sd, j, x1, x2, x3, x4, x5, x6, q⟩ => ⟨t, a, b, sd, j, x1, x2, x3, x4, x5, x6, fun H' v c a b d => h _ _ (q H' v c a b d)⟩
set_option maxHeartbeats 8000000 in
theorem ok_condition_by (T : Env fa fn K mg) : Good P w K mg base CX0 2 ("_law_condition_by", none) ["_law_mains", "_law_seed", "_law_j"] sp_condition_by := by
  have G_w_mix := ok_mix (P := P) (w := w) (base := base) T
  have G_w_state_by := ok_state_by (P := P) (w := w) (base := base) T
  refine good_mk T 31 (d := d_w_condition_by) (N := ["_law_mains", "_law_seed", "_law_j", "_law_wanted", "_law_k", "_law_value", "_law_mask"]) (ps := ["_law_mains", "_law_seed", "_law_j"]) rfl rfl sc_w_condition_by (fun _ _ _ _ _ _ us hl => match us, hl with | [_, _, _], _ => rfl) (fun vs H Q E h => ?_) (fun f cdv A outer σ0 H vs Q E hr h => ?_)
  · obtain ⟨t, a, b, sd, j, rfl, _⟩ := h; rfl
  · obtain ⟨t, a, b, sd, j, rfl, ht, ha, hb, h0, h1, k⟩ := h
    refine ⟨_, (pss_cons (ps_if (pt_cmpR op_eq (pe_op op_mod (pe_cgK K rfl G_w_mix (hr.mono (by decide)) (T.glo 35) (pa_cons (pv 1) (pa_cons (pv 2) pa_nil))) pe_int) pe_int (nomark _)) (pss_cons (ps_set (i := 3) sc_w_condition_by.nd rfl (Or.inl rfl) (pe_lst pa_nil))
      (pss_cons (ps_for PassesOwn.never rfl (pi_range1 (by rfl) (T.free 36) (pa_cons pe_int pa_nil)) (pg_name (i := 4) sc_w_condition_by.nd rfl (Or.inl rfl)) (pss_cons (ps_set (i := 5) sc_w_condition_by.nd rfl (Or.inl rfl) (pe_cgK K rfl G_w_mix (hr.mono (by decide)) (T.glo 35) (pa_cons (pv 1) (pa_cons (pe_op op_add (pe_op op_add (pv 2) pe_int) (pv 4)) pa_nil))))
      (pss_one (ps_if (pt_cmpR op_eq (pe_op op_mod (pe_op op_fdivW (pv 5) pe_int) pe_int) pe_int (nomark _)) (pss_one (ps_expr (pe_bm PySem.F.plainAttrs_list PySem.F.slot_list_append PySem.F.type_list_append mt_append (pv 3) (pa_cons (pe_cgK K rfl G_w_state_by (hr.mono (by decide)) (T.glo 37) (pa_cons (pv 0) (pa_cons (pv 5) pa_nil))) pa_nil)))) (pss_one (ps_expr (pe_bm PySem.F.plainAttrs_list PySem.F.slot_list_append PySem.F.type_list_append mt_append (pv 3) (pa_cons pe_int pa_nil))))))))
      (pss_one (ps_ret (pe_tup (pa_cons pe_str (pa_cons (pv 3) pa_nil))))))) pss_nil)
      (pss_cons (ps_set (i := 6) sc_w_condition_by.nd rfl (Or.inr rfl) (pe_op op_add (pe_op op_mod (pe_cgK K rfl G_w_mix (hr.mono (by decide)) (T.glo 35) (pa_cons (pv 1) (pa_cons (pe_op op_add (pv 2) pe_int) pa_nil))) pe_int) pe_int))
      (pss_one (ps_ret (pe_tup (pa_cons pe_str (pa_cons (pe_cgK K rfl G_w_state_by (hr.mono (by decide)) (T.glo 37) (pa_cons (pv 0) (pa_cons (pe_cgK K rfl G_w_mix (hr.mono (by decide)) (T.glo 35) (pa_cons (pv 1) (pa_cons (pe_op op_add (pv 2) pe_int) pa_nil))) pa_nil))) (pa_cons (pe_lc (own := [("_law_k", 4)]) rfl sc_w_condition_by.nd (pi_range1 (by rfl) (T.free 36) (pa_cons pe_int pa_nil)) (blkOk_by (own := [("_law_k", 4)]) (N := ["_law_mains", "_law_seed", "_law_j", "_law_wanted", "_law_k", "_law_value", "_law_mask"]) (sc := defScope st_w_condition_by) (by decide +kernel)) (fun _ _ _ _ _ => by exact (pg_name (i := 4) sc_w_condition_by.nd rfl (Or.inl rfl))) (fun _ _ _ _ _ => by exact (pts_one (pt_cmpR op_eq (pe_op op_and (pe_op op_shr (pv 6) (pv 4)) pe_int) pe_int (nomark _)))) (fun _ _ _ _ _ => by exact (pv 4))) pa_nil)))))))), ?_⟩
    walk_at "rd"
    refine ⟨sd, j, rfl, h0, by omega, fun z0 _ _ => ?_⟩
    walk_at "rd"
    refine ite_d (fun hc => ?_) (fun hc => ?_)
    · walk_at "rd"
      refine rd_new (hn := by show 0 ≤ sizeLine; decide) fun l hl => ?_
      have s0 := same_upd (o := .lst []) hl
      walk_at "rd"
      refine ⟨8, rfl, by decide, by decide, ?_⟩
      refine for_it (walk_r0 (n := 8)) (fun i σ H' => Same H H' ∧ ∃ (xs : List Int) (x4 x5 : Option V), σ = [some (.ref t), some (.int sd), some (.int j), some (.ref l), x4, x5, none] ∧ H' l = some (.lst (xs.map V.int)) ∧ xs.length = i ∧ ∀ w ∈ xs, 0 ≤ w ∧ w ≤ 8) ⟨s0, [], none, none, rfl, upd_same, rfl, by simp⟩ (fun _ _ _ _ _ => trivial) ?_ ?_
      · rintro i x σ Ha Hb hi ⟨s1, xs, x4, x5, rfl, hx, hxl, hbd⟩ ⟨rfl, rfl⟩
        have hlt : (xs.map V.int).length < sizeLine := by rw [List.length_map]; exact small1000 (by omega)
        have fin : ∀ z : Int, 0 ≤ z → z ≤ 8 → ∀ w ∈ xs ++ [z], 0 ≤ w ∧ w ≤ 8 := fun z g0 g8 w hw => by
          rcases List.mem_append.mp hw with hw | hw
          · exact hbd w hw
          · rw [List.mem_singleton] at hw; subst hw; exact ⟨g0, g8⟩
        walk_at "rd"
        refine ⟨sd, j + 1 + (i : Int), rfl, by omega, by omega, fun z1 _ _ => ?_⟩
        walk_at "rd"
        refine ite_d (fun h => ?_) (fun h => ?_)
        · walk_at "rd"
          refine rd_tyL hx ?_
          walk_at "rd"
          refine ⟨t, a, b, z1, rfl, s1 _ _ ht, ha, hb, fun s hs => ?_⟩
          walk_at "rd"
          refine rd_append hx hlt ?_
          walk_at "rd"
          exact ⟨Same.put2 s1 hl, xs ++ [s], _, _, rfl, by rw [upd_same, List.map_append]; rfl, by rw [List.length_append, hxl]; rfl, fin s hs.1 (by have := hs.2; omega)⟩
        · walk_at "rd"
          refine rd_tyL hx ?_
          walk_at "rd"
          refine rd_append hx hlt ?_
          walk_at "rd"
          exact ⟨Same.put2 s1 hl, xs ++ [8], _, _, rfl, by rw [upd_same, List.map_append]; rfl, by rw [List.length_append, hxl]; rfl, fin 8 (by decide) (by decide)⟩
      · rintro σ H' ⟨s1, xs, x4, x5, rfl, hx, hxl, hbd⟩
        walk_at "rd"
        refine rd_new (hn := by show 2 ≤ sizeLine; decide) fun t2 ht2 => ?_
        have s2 := same_upd (o := .tup [V.str "places", V.ref l]) ht2
        refine k _ _ (.plc (xs.map wishOf)) (s1.trans s2) ⟨t2, l, xs, rfl, upd_same, s2 _ _ hx, hl, rfl, hbd⟩ ⟨by rw [List.length_map]; exact hxl, fun w hw => ?_⟩
        obtain ⟨w0, hw0, rfl⟩ := List.mem_map.mp hw
        exact wishW_of (hbd w0 hw0).1 (hbd w0 hw0).2
    · walk_at "rd"
      refine ⟨sd, j + 10, rfl, by omega, by omega, fun z1 _ _ => ?_⟩
      walk_at "rd"
      have v1 : 1 ≤ z1 % 511 + 1 := by omega
      have v2 : z1 % 511 + 1 ≤ 511 := by omega
      generalize z1 % 511 + 1 = v at v1 v2
      refine ⟨sd, j + 9, rfl, by omega, by omega, fun z2 _ _ => ?_⟩
      walk_at "rd"
      refine ⟨t, a, b, z2, rfl, ht, ha, hb, fun s hs => ?_⟩
      walk_at "rd"
      refine ⟨9, rfl, by decide, by decide, fun pn hpn => ?_⟩
      refine lc_it (walk_r0 (n := 9)) (fun i H' => H' = upd H pn (.lst ((bitsOf v i).map V.int))) rfl (fun _ _ _ _ => trivial) ?_ ?_
      · rintro i x Ha Hb hi rfl ⟨rfl, rfl⟩
        walk_at "rd"
        refine ⟨rfl, ?_⟩
        walk_at "rd"
        refine rd_I (by omega) ?_
        walk_at "rd"
        rw [band1'', Int.toNat_natCast]
        have en : bitsOf v (i + 1) = bitsOf v i ++ (if (v / 2 ^ i) % 2 = 1 then [(i : Int)] else []) := rfl
        refine ite_d (fun hb' => ?_) (fun hb' => ?_)
        · walk_at "rd"
          refine ⟨_, upd_same, ?_, ?_⟩
          · rw [List.length_map]
            have : (bitsOf v i).length ≤ i := bitsOf_len i
            exact small1000 (by omega)
          · rw [upd_upd, en, if_pos hb', List.map_append]; rfl
        · rw [en, if_neg hb', List.append_nil]
      rintro H1 rfl
      have s1 := same_upd (o := .lst ((bitsOf v 9).map V.int)) hpn
      have L1 : (upd H pn (.lst ((bitsOf v 9).map V.int))) pn = some (.lst ((bitsOf v 9).map V.int)) := upd_same
      generalize upd H pn (.lst ((bitsOf v 9).map V.int)) = H1 at s1 L1 ⊢
      walk_at "rd"
      refine rd_new (hn := by show 3 ≤ sizeLine; decide) fun t2 ht2 => ?_
      have s2 := same_upd (o := .tup [V.str "amount", V.int s, V.ref pn]) ht2
      exact k _ _ (.amt s (bitsOf v 9)) (s1.trans s2) ⟨t2, pn, rfl, upd_same, s2 _ _ L1, hpn⟩ ⟨hs, bitsOf_ne v1 v2, fun n hn => by have := bitsOf_mem hn; omega, bitsOf_inc 9⟩
end
end JF

/-! ### drawn clauses: clause_by, holds, decides, becomes -/
namespace JF
open PySem PySem.Spec PyProof.Rows L2
def LClaN (N : Addr → Prop) (H : Hp) (v : V) (c : Cla) : Prop := ∃ t l ps, v = .ref t ∧ H t = some (.tup [.int (takenN c.taken), .ref l, .int c.made]) ∧ H l = some (.lst ps) ∧ N l ∧ AllV (LCondN N H) ps c.conds
theorem LClaN.at {N : Addr → Prop} {H : Hp} {v : V} {c : Cla} (h : LClaN N H v c) : LCla H v c := by
  obtain ⟨t, l, ps, e, h1, h2, _, h3⟩ := h
  exact ⟨t, l, ps, e, h1, h2, h3.imp fun _ _ h => h.at⟩
theorem LClaN.imp {N N' : Addr → Prop} {H : Hp} {v : V} {c : Cla} (h : LClaN N H v c) (k : ∀ b, N b → N' b) : LClaN N' H v c := by
  obtain ⟨t, l, ps, e, h1, h2, h3, h4⟩ := h
  exact ⟨t, l, ps, e, h1, h2, k _ h3, h4.imp fun _ _ h => h.imp k⟩
theorem LClaN.same {N : Addr → Prop} {H H' : Hp} {v : V} {c : Cla} (h : LClaN N H v c) (s : Same H H') : LClaN N H' v c := by
  obtain ⟨t, l, ps, e, h1, h2, h3, h4⟩ := h
  exact ⟨t, l, ps, e, s _ _ h1, s _ _ h2, h3, h4.imp fun _ _ h => h.same s⟩
theorem LClaN.upd {N : Addr → Prop} {H : Hp} {v : V} {c : Cla} {D : Addr} {o : HO} {xs : List V} (h : LClaN N H v c) (hD : H D = some (.lst xs)) (k : ∀ b, N b → b ≠ D) : LClaN N (L2.upd H D o) v c := by
  have tn : ∀ t ys, H t = some (.tup ys) → t ≠ D := fun t ys e z => by rw [z, hD] at e; cases e
  obtain ⟨t, l, ps, e, h1, h2, h3, h4⟩ := h
  exact ⟨t, l, ps, e, by rw [upd_ne (tn _ _ h1)]; exact h1, by rw [upd_ne (k _ h3)]; exact h2, h3, h4.imp fun _ _ h => h.upd hD k⟩
theorem takenN_wish {w : Int} : takenN (wishOf w) = w := by
  unfold wishOf takenN
  by_cases z : w = 8
  · rw [if_pos z, z]; rfl
  · rw [if_neg z]; rfl
section
variable {P : Program} {w : World} {K : PySem.W.Frag} {mg : Str → Option Value} {base : Heap}
def sp_clause_by : Sp := fun vs H Q _ => ∃ (t : Addr) (a b sd j : Int), vs = [.ref t, .int sd, .int j] ∧ H t = some (.tup [.int a, .int b]) ∧ St a ∧ St b ∧ 0 ≤ j ∧ j ≤ 50000 ∧ ∀ H' v (c : Cla), Same H H' → LClaN (fun b => H b = none) H' v c → ClaW c → c.conds.length ≤ 8 → Q v H'
theorem mp_clause_by : MonP sp_clause_by := fun vs H Q Q' E h ⟨t, a, b, sd, j, x1, x2, x3, x4, x5, x6, q⟩ => ⟨t, a, b, sd, j, x1, x2, x3, x4, x5, x6, fun H' v c a b d e => h _ _ (q H' v c a b d e)⟩
set_option maxHeartbeats 8000000 in
theorem ok_clause_by (T : Env fa fn K mg) : Good P w K mg base CX0 3 ("_law_clause_by", none) ["_law_mains", "_law_seed", "_law_j"] sp_clause_by := by
  have G_w_mix := ok_mix (P := P) (w := w) (base := base) T
  have G_w_state_by := ok_state_by (P := P) (w := w) (base := base) T
  have G_w_condition_by := ok_condition_by (P := P) (w := w) (base := base) T
  refine good_mk T 32 (d := d_w_clause_by) (N := ["_law_mains", "_law_seed", "_law_j", "_law_taken", "_law_conditions", "_law_k"]) (ps := ["_law_mains", "_law_seed", "_law_j"]) rfl rfl sc_w_clause_by (fun _ _ _ _ _ _ us hl => match us, hl with | [_, _, _], _ => rfl) (fun vs H Q E h => ?_) (fun f cdv A outer σ0 H vs Q E hr h => ?_)
  · obtain ⟨t, a, b, sd, j, rfl, _⟩ := h; rfl
  · obtain ⟨t, a, b, sd, j, rfl, ht, ha, hb, h0, h1, k⟩ := h
    have mp1 := mp_mix
    have mp2 := mp_state_by
    refine ⟨_, (pss_cons (ps_set (i := 3) sc_w_clause_by.nd rfl (Or.inl rfl) pe_int)
      (pss_cons (ps_if (pt_cmpR op_gt (pe_op op_mod (pe_cgK K rfl G_w_mix (hr.mono (by decide)) (T.glo 35) (pa_cons (pv 1) (pa_cons (pv 2) pa_nil))) pe_int) pe_int (nomark _)) (pss_one (ps_set (i := 3) sc_w_clause_by.nd rfl (Or.inl rfl) (pe_cgK K rfl G_w_state_by (hr.mono (by decide)) (T.glo 37) (pa_cons (pv 0) (pa_cons (pe_cgK K rfl G_w_mix (hr.mono (by decide)) (T.glo 35) (pa_cons (pv 1) (pa_cons (pe_op op_add (pv 2) pe_int) pa_nil))) pa_nil))))) pss_nil)
      (pss_cons (ps_set (i := 4) sc_w_clause_by.nd rfl (Or.inl rfl) (pe_lst pa_nil))
      (pss_cons (ps_for PassesOwn.never rfl (pi_range1 (by rfl) (T.free 36) (pa_cons (pe_op op_mod (pe_cgK K rfl G_w_mix (hr.mono (by decide)) (T.glo 35) (pa_cons (pv 1) (pa_cons (pe_op op_add (pv 2) pe_int) pa_nil))) pe_int) pa_nil)) (pg_name (i := 5) sc_w_clause_by.nd rfl (Or.inl rfl)) (pss_one (ps_expr (pe_bm PySem.F.plainAttrs_list PySem.F.slot_list_append PySem.F.type_list_append mt_append (pv 4) (pa_cons (pe_cgK K rfl G_w_condition_by (hr.mono (by decide)) (T.glo 38) (pa_cons (pv 0) (pa_cons (pv 1) (pa_cons (pe_op op_add (pv 2) (pe_op op_mulW pe_int (pe_op op_add (pv 5) pe_int))) pa_nil)))) pa_nil)))))
      (pss_one (ps_ret (pe_tup (pa_cons (pv 3) (pa_cons (pv 4) (pa_cons (pe_cgK K rfl G_w_state_by (hr.mono (by decide)) (T.glo 37) (pa_cons (pv 0) (pa_cons (pe_cgK K rfl G_w_mix (hr.mono (by decide)) (T.glo 35) (pa_cons (pv 1) (pa_cons (pe_op op_add (pv 2) pe_int) pa_nil))) pa_nil))) pa_nil)))))))))), ?_⟩
    walk_at "rhi"
    refine rd_cut (fun σ Hq => Hq = H ∧ ∃ tk : Int, 0 ≤ tk ∧ tk ≤ 8 ∧ σ = [some (.ref t), some (.int sd), some (.int j), some (.int tk), none, none]) (by walk_at "mono") ?_ ?_
    · walk_at "rd"
      refine ⟨sd, j, rfl, h0, by omega, fun z0 _ _ => ?_⟩
      walk_at "rd"
      refine ite_d (fun hc => ?_) (fun hc => ?_)
      · walk_at "rd"
        refine ⟨sd, j + 1, rfl, by omega, by omega, fun z1 _ _ => ?_⟩
        walk_at "rd"
        refine ⟨t, a, b, z1, rfl, ht, ha, hb, fun s hs => ?_⟩
        walk_at "rd"
        exact ⟨rfl, s, hs.1, by have := hs.2; omega, rfl⟩
      · walk_at "rd"
        exact ⟨rfl, 8, by decide, by decide, rfl⟩
    rintro σ H1 ⟨rfl, tk, tk0, tk8, rfl⟩
    walk_at "rd"
    refine rd_new (hn := by show 0 ≤ sizeLine; decide) fun l hl => ?_
    have s0 := same_upd (o := .lst []) hl
    have L0 : (upd H1 l (.lst [])) l = some (.lst []) := upd_same
    generalize upd H1 l (.lst []) = H2 at s0 L0 ⊢
    walk_at "rd"
    refine ⟨sd, j + 2, rfl, by omega, by omega, fun v v0 v1 => ?_⟩
    walk_at "rd"
    obtain ⟨mn, hm, mn8⟩ : ∃ mn : Nat, v % 4 = (mn : Int) ∧ mn ≤ 8 := by
      obtain ⟨m, hm⟩ := nat_of (show 0 ≤ v % 4 by omega)
      exact ⟨m, hm, by omega⟩
    rw [hm]
    obtain ⟨H3, eH3⟩ : ∃ H3, H3 = H2 := ⟨_, rfl⟩
    rw [← eH3] at s0 L0 ⊢
    refine ⟨(mn : Int), rfl, by omega, by omega, ?_⟩
    rw [Int.toNat_natCast]
    refine for_it (walk_r0 (n := mn)) (fun i σ Hq => Same H1 Hq ∧ ∃ (us : List V) (cs : List Cond) (x7 : Option V), σ = [some (.ref t), some (.int sd), some (.int j), some (.int tk), some (.ref l), x7] ∧ Hq l = some (.lst us) ∧ AllV (LCondN (fun b => b ≠ l ∧ H1 b = none) Hq) us cs ∧ cs.length = i ∧ ∀ c ∈ cs, CondW c)
      ⟨s0, [], [], none, rfl, L0, trivial, rfl, by simp⟩ (fun _ _ _ _ _ => trivial) ?_ ?_
    · rintro i x σ Ha Hb hi ⟨s1, us, cs, x7, rfl, hus, hall, hcl, hcw⟩ ⟨rfl, rfl⟩
      walk_at "rd"
      refine rd_tyL hus ?_
      walk_at "rd"
      refine rd_I (mid_mul (by decide) (by decide) (by omega) (by omega)) ?_
      walk_at "rd"
      refine ⟨t, a, b, sd, j + 20 * ((i : Int) + 1), rfl, s1 _ _ ht, ha, hb, by omega, by omega, fun H4 u c s4 hc hw => ?_⟩
      have hus4 := s4 _ _ hus
      walk_at "rd"
      refine rd_append hus4 (by rw [hall.len]; exact small1000 (by omega)) ?_
      walk_at "rd"
      have hc' : LCondN (fun b => b ≠ l ∧ H1 b = none) H4 u c := hc.imp fun b hb => ⟨fun z => (by rw [z, hus] at hb; cases hb), none_of s1 hb⟩
      refine ⟨Same.put2 (s1.trans s4) (none_of (Same.refl _) hl), us ++ [u], cs ++ [c], _, rfl, upd_same, ((hall.imp fun _ _ h => h.same s4).app hc').imp fun _ _ h => h.upd hus4 fun b hb => hb.1, by rw [List.length_append, hcl]; rfl, fun c' hm => ?_⟩
      rcases List.mem_append.mp hm with hm | hm
      · exact hcw c' hm
      · rw [List.mem_singleton] at hm; subst hm; exact hw
    · rintro σ H4 ⟨s1, us, cs, x7, rfl, hus, hall, hcl, hcw⟩
      walk_at "rd"
      refine ⟨sd, j + 3, rfl, by omega, by omega, fun z1 _ _ => ?_⟩
      walk_at "rd"
      refine ⟨t, a, b, z1, rfl, s1 _ _ ht, ha, hb, fun s hs => ?_⟩
      walk_at "rd"
      refine rd_new (hn := by show 3 ≤ sizeLine; decide) fun t2 ht2 => ?_
      have s2 := same_upd (o := .tup [V.int tk, V.ref l, V.int s]) ht2
      refine k _ _ ⟨wishOf tk, cs, s⟩ (s1.trans s2) ⟨t2, l, us, rfl, by rw [takenN_wish]; exact upd_same, s2 _ _ hus, hl, (hall.imp fun _ _ h => (h.same s2).imp fun b hb => hb.2)⟩ ⟨wishW_of tk0 tk8, hcw, hs⟩ (by show cs.length ≤ 8; omega)
end
end JF

/-! ### drawn clauses: what is due by them -/
namespace JF
open PySem PySem.Spec PyProof.Rows L2
section
variable {P : Program} {w : World} {K : PySem.W.Frag} {mg : Str → Option Value} {base : Heap}
def sp_holds : Sp := fun vs H Q _ => ∃ (v : V) (r : Addr) (c : Cond) (xs : List Int), vs = [v, .ref r] ∧ LCond H v c ∧ CondOk c ∧ H r = some (.lst (xs.map V.int)) ∧ xs.length = 8 ∧ Q (.bl (c.holds xs)) H
theorem mp_holds : MonP sp_holds := fun vs H Q Q' E h ⟨v, r, c, xs, x1, x2, x3, x4, x5, q⟩ => ⟨v, r, c, xs, x1, x2, x3, x4, x5, h _ _ q⟩
theorem ok_holds (T : Env fa fn K mg) : Good P w K mg base CX0 1 ("_law_holds", none) ["_law_condition", "_law_around"] sp_holds := by
  refine good_mk T 33 (d := d_w_holds) (N := ["_law_condition", "_law_around", "_law_k", "_law_many", "_law_state"]) (ps := ["_law_condition", "_law_around"]) rfl rfl sc_w_holds (fun _ _ _ _ _ _ us hl => match us, hl with | [_, _], _ => rfl) (fun vs H Q E h => ?_) (fun f cdv A outer σ0 H vs Q E hr h => ?_)
  · obtain ⟨v, r, c, xs, rfl, _⟩ := h; rfl
  · obtain ⟨v, r, c, xs, rfl, hc, hok, hr', hx, k⟩ := h
    refine ⟨_, (pss_cons (ps_if (pt_cmpR op_eq (pe_ix (ix_tupK K rfl) (pv 0) pe_int (fun _ _ => rfl)) pe_str (nomark _)) (pss_cons (ps_for PassesOwn.never rfl (pi_range1 (by rfl) (T.free 36) (pa_cons pe_int pa_nil)) (pg_name (i := 2) sc_w_holds.nd rfl (Or.inl rfl)) (pss_one (ps_if (PW.pt (pw_and (pt_cmpR op_ne (pe_ix (ix_listK K rfl) (pe_ix (ix_tupK K rfl) (pv 0) pe_int (fun _ _ => rfl)) (pv 2) (fun _ _ => rfl)) pe_int (nomark _)) (pw_and1 (pt_cmpR op_ne (pe_ix (ix_listK K rfl) (pe_ix (ix_tupK K rfl) (pv 0) pe_int (fun _ _ => rfl)) (pv 2) (fun _ _ => rfl)) (pe_ix (ix_listK K rfl) (pv 1) (pv 2) (fun _ _ => rfl)) (nomark _))))) (pss_one (ps_ret pe_bl)) pss_nil)))
      (pss_one (ps_ret pe_bl))) pss_nil)
      (pss_cons (ps_set (i := 3) sc_w_holds.nd rfl (Or.inl rfl) pe_int)
      (pss_cons (ps_for PassesOwn.never rfl (pi_listK K rfl (pv 1)) (pg_name (i := 4) sc_w_holds.nd rfl (Or.inl rfl)) (pss_one (ps_if (pt_cmpR op_eq (pv 4) (pe_ix (ix_tupK K rfl) (pv 0) pe_int (fun _ _ => rfl)) (nomark _)) (pss_one (ps_set (i := 3) sc_w_holds.nd rfl (Or.inl rfl) (pe_op op_add (pv 3) pe_int))) pss_nil)))
      (pss_one (ps_ret (pe_cmpR (op_inK K rfl) (pv 3) (pe_ix (ix_tupK K rfl) (pv 0) pe_int (fun _ _ => rfl)) (by first | exact nomark _ | rfl))))))), ?_⟩
    cases c with
    | amt s ns =>
      obtain ⟨t, l, rfl, ht, hl⟩ := hc
      walk_at "rd"
      refine iteF ?_
      walk_at "rd"
      refine ⟨r, rfl, ⟨_, SqL.of hr'⟩, ?_⟩
      refine for_it (walk_list (xs := xs.map V.int)) (fun i σ H' => H' = H ∧ ∃ x2 x4 : Option V, σ = [some (.ref t), some (.ref r), x2, some (.int ((xs.take i).count s : Nat)), x4]) ⟨rfl, none, none, rfl⟩ ?_ ?_ ?_
      · rintro i σ H' _ ⟨rfl, _⟩
        exact SqL.of hr'
      · rintro i x σ Ha Hb hi ⟨rfl, x2, x4, rfl⟩ ⟨rfl, hx'⟩
        obtain ⟨c, hcc, rfl⟩ : ∃ c, xs[i]? = some c ∧ x = .int c := by
          rw [List.getElem?_map] at hx'
          cases e : xs[i]? with
          | none => rw [e] at hx'; cases hx'
          | some c => rw [e] at hx'; exact ⟨c, rfl, (Option.some.inj hx').symm⟩
        have et := take_snoc hcc
        walk_at "rd"
        refine ite_d (fun h => ?_) (fun h => ?_)
        · walk_at "rd"
          refine ⟨rfl, x2, some (.int c), ?_⟩
          rw [et, List.count_append, List.count_singleton]
          simp [h]
        · walk_at "rd"
          refine ⟨rfl, x2, some (.int c), ?_⟩
          rw [et, List.count_append, List.count_singleton]
          simp [h]
      · rintro σ H' ⟨rfl, x2, x4, rfl⟩
        rw [List.length_map, List.take_length]
        walk_at "rd"
        exact rd_inI (SqL.of hl) k
    | plc ws =>
      obtain ⟨t, l, wv, rfl, ht, hl, rfl, hwb⟩ := hc
      have hw8 : wv.length = 8 := by have z : (wv.map wishOf).length = 8 := hok; rwa [List.length_map] at z
      walk_at "rd"
      refine iteT ?_
      walk_at "rd"
      refine ⟨8, rfl, by decide, by decide, ?_⟩
      refine for_it (walk_r0 (n := 8)) (fun i σ H' => H' = H ∧ (∀ (j : Nat) w x, j < i → (wv.map wishOf)[j]? = some w → xs[j]? = some x → wishOk w x = true) ∧ ∃ x2 : Option V, σ = [some (.ref t), some (.ref r), x2, none, none]) ⟨rfl, fun j w x h => by omega, none, rfl⟩ (fun _ _ _ _ _ => trivial) ?_ ?_
      · rintro i x σ Ha Hb hi ⟨rfl, hall, x2, rfl⟩ ⟨rfl, rfl⟩
        have hi1 : i < wv.length := by omega
        have hi2 : i < xs.length := by omega
        have a1 : atI (wv.map V.int) ((i : Nat) : Int) = some (.int wv[i]) := atI_nat (map_get V.int (at_get hi1))
        have a2 : atI (xs.map V.int) ((i : Nat) : Int) = some (.int xs[i]) := atI_nat (map_get V.int (at_get hi2))
        have wi : (wv.map wishOf)[i]? = some (wishOf wv[i]) := map_get wishOf (at_get hi1)
        have next : wishOk (wishOf wv[i]) xs[i] = true → ∀ (j : Nat) w x, j < i + 1 → (wv.map wishOf)[j]? = some w → xs[j]? = some x → wishOk w x = true := fun hk j w x hj h1 h2 => by
          rcases Nat.lt_or_ge j i with h | h
          · exact hall j w x h h1 h2
          · have e : j = i := by omega
            subst e
            rw [wi] at h1; rw [at_get hi2] at h2
            cases h1; cases h2
            exact hk
        walk_at "rd"
        refine rd_ixL (SqL.of hl) a1 ?_
        walk_at "rd"
        refine ite_nd (fun h8 => ?_) (fun h8 => ?_)
        · walk_at "rd"
          refine rd_ixL (SqL.of hl) a1 ?_
          walk_at "rd"
          refine rd_ixL (SqL.of hr') a2 ?_
          walk_at "rd"
          have ew : wishOf wv[i] = some wv[i] := by unfold wishOf; rw [if_neg h8]
          refine ite_nd (fun hne => ?_) (fun he => ?_)
          · walk_at "rd"
            have e : (Cond.plc (wv.map wishOf)).holds xs = false := plcOk_split _ xs i _ _ wi (at_get hi2) (by rw [ew]; exact decide_eq_false hne)
            rw [e] at k
            exact k
          · walk_at "rd"
            exact ⟨rfl, next (by rw [ew]; exact decide_eq_true he), _, rfl⟩
        · walk_at "rd"
          have ew : wishOf wv[i] = none := by unfold wishOf; rw [if_pos h8]
          exact ⟨rfl, next (by rw [ew]; rfl), _, rfl⟩
      · rintro σ H' ⟨rfl, hall, x2, rfl⟩
        walk_at "rd"
        have e : (Cond.plc (wv.map wishOf)).holds xs = true := plcOk_all _ xs fun i w x h1 h2 => hall i w x (by have := (List.getElem?_eq_some_iff.mp h2).1; omega) h1 h2
        rw [e] at k
        exact k
def ClasW (cs : List Cla) : Prop := ∀ c ∈ cs, ClaW c
def sp_decides : Sp := fun vs H Q _ => ∃ (p r : Addr) (us : List V) (cs : List Cla) (cell : Int) (xs : List Int), vs = [.ref p, .int cell, .ref r] ∧ H p = some (.lst us) ∧ AllV (LCla H) us cs ∧ ClasW cs ∧ cs.length ≤ 1000 ∧ H r = some (.lst (xs.map V.int)) ∧ xs.length = 8 ∧ ∀ H', Same H H' → Q (optN (firstFit cell xs cs)) H'
theorem mp_decides : MonP sp_decides := fun vs H Q Q' E h ⟨p, r, us, cs, cell, xs, x1, x2, x3, x4, x5, x6, x7, q⟩ => ⟨p, r, us, cs, cell, xs, x1, x2, x3, x4, x5, x6, x7, fun H' s => h _ _ (q H' s)⟩
theorem taken_in {t : Option Int} (h : WishW t) (cell : Int) : decide (takenN t ∈ [cell, 8]) = wishOk t cell := by
  cases t with
  | none =>
    show decide ((8 : Int) ∈ [cell, 8]) = true
    exact decide_eq_true (by simp)
  | some s =>
    have z : St s := h
    unfold St at z
    show decide (s ∈ [cell, 8]) = decide (s = cell)
    by_cases e : s = cell
    · rw [decide_eq_true e, decide_eq_true (by simp [e])]
    · rw [decide_eq_false e, decide_eq_false (by simp [e]; omega)]
set_option maxHeartbeats 8000000 in
theorem ok_decides (T : Env fa fn K mg) : Good P w K mg base CX0 2 ("_law_decides", none) ["_law_clauses", "_law_cell", "_law_around"] sp_decides := by
  have G_w_holds := ok_holds (P := P) (w := w) (base := base) T
  refine good_mk T 34 (d := d_w_decides) (N := ["_law_clauses", "_law_cell", "_law_around", "_law_at_here", "_law_fits", "_law_condition"]) (ps := ["_law_clauses", "_law_cell", "_law_around"]) rfl rfl sc_w_decides (fun _ _ _ _ _ _ us hl => match us, hl with | [_, _, _], _ => rfl) (fun vs H Q E h => ?_) (fun f cdv A outer σ0 H vs Q E hr h => ?_)
  · obtain ⟨p, r, us, cs, cell, xs, rfl, _⟩ := h; rfl
  · obtain ⟨p, r, us, cs, cell, xs, rfl, hp, hall, hw, hcl, hr', hx, k⟩ := h
    have hlen := hall.len
    refine ⟨_, (pss_cons (ps_for PassesOwn.never rfl (pi_range1 (by rfl) (T.free 36) (pa_cons (pe_callB (call_lenK K rfl) (by rfl) (T.free 11) (by decide +kernel) (pa_cons (pv 0) pa_nil)) pa_nil)) (pg_name (i := 3) sc_w_decides.nd rfl (Or.inl rfl)) (pss_cons (ps_set (i := 4) sc_w_decides.nd rfl (Or.inl rfl) (pe_cmpR (op_inK K rfl) (pe_ix (ix_tupK K rfl) (pe_ix (ix_listK K rfl) (pv 0) (pv 3) (fun _ _ => rfl)) pe_int (fun _ _ => rfl)) (pe_lst (pa_cons (pv 1) (pa_cons pe_int pa_nil))) (by first | exact nomark _ | rfl)))
      (pss_cons (ps_for PassesOwn.never rfl (pi_listK K rfl (pe_ix (ix_tupK K rfl) (pe_ix (ix_listK K rfl) (pv 0) (pv 3) (fun _ _ => rfl)) pe_int (fun _ _ => rfl))) (pg_name (i := 5) sc_w_decides.nd rfl (Or.inl rfl)) (pss_one (ps_set (i := 4) sc_w_decides.nd rfl (Or.inl rfl) (pe_and (pv 4) (pe_one (pe_cgK K rfl G_w_holds (hr.mono (by decide)) (T.glo 39) (pa_cons (pv 5) (pa_cons (pv 2) pa_nil))))))))
      (pss_one (ps_if (pt_val (pv 4)) (pss_one (ps_ret (pv 3))) pss_nil)))))
      (pss_one (ps_ret pe_non))), ?_⟩
    walk_at "rd"
    refine rd_len (SqL.of hp) ?_
    walk_at "rd"
    refine ⟨(us.length : Int), rfl, by omega, by omega, ?_⟩
    rw [Int.toNat_natCast]
    refine for_it (walk_r0 (n := us.length)) (fun i σ H' => Same H H' ∧ (∀ (j : Nat) d, j < i → cs[j]? = some d → d.fits cell xs = false) ∧ ∃ x3 x4 x5 : Option V, σ = [some (.ref p), some (.int cell), some (.ref r), x3, x4, x5]) ⟨Same.refl _, fun j d h => by omega, none, none, none, rfl⟩ (fun _ _ _ _ _ => trivial) ?_ ?_
    · rintro i x σ Ha Hb hi ⟨s1, hno, x3, x4, x5, rfl⟩ ⟨rfl, rfl⟩
      have hic : i < cs.length := by omega
      obtain ⟨v, hv, hat⟩ := hall.at (at_get hic)
      have hcw := hw _ (List.getElem_mem hic)
      have hget := at_get hic
      generalize cs[i] = c at hat hcw hget
      obtain ⟨t, l, ps, rfl, ht, hl, hcs⟩ := hat.same s1
      have av : atI us ((i : Nat) : Int) = some (.ref t) := atI_nat hv
      walk_at "rd"
      refine rd_ixL (SqL.of (s1 _ _ hp)) av ?_
      walk_at "rd"
      refine rd_new (hn := by show 2 ≤ sizeLine; decide) fun p2 hp2 => ?_
      have s2 := same_upd (o := .lst [V.int cell, V.int 8]) hp2
      refine rd_inI (ns := [cell, 8]) (SqL.of upd_same) ?_
      rw [taken_in hcw.1]
      have s12 := s1.trans s2
      have ht2 := s2 _ _ ht
      have hl2 := s2 _ _ hl
      have hcs2 := hcs.imp fun _ _ h => LCond.same h s2
      have hp2' := s12 _ _ hp
      have hr2 := s12 _ _ hr'
      generalize upd Hb p2 (.lst [V.int cell, V.int 8]) = H2 at s2 s12 ht2 hl2 hcs2 hp2' hr2 ⊢
      walk_at "rh"
      refine rd_cut (fun σ Hq => Hq = H2 ∧ ∃ x5 : Option V, σ = [some (.ref p), some (.int cell), some (.ref r), some (.int (i : Nat)), some (.bl (c.fits cell xs)), x5]) (by
        have m1 := mp_holds
        walk_at "mono") ?_ ?_
      · walk_at "rd"
        refine rd_ixL (SqL.of hp2') av ?_
        walk_at "rd"
        refine ⟨l, rfl, ⟨_, SqL.of hl2⟩, ?_⟩
        refine for_it (walk_list (xs := ps)) (fun m σ Hq => Hq = H2 ∧ ∃ x5 : Option V, σ = [some (.ref p), some (.int cell), some (.ref r), some (.int (i : Nat)), some (.bl (wishOk c.taken cell && (c.conds.take m).all fun k => k.holds xs)), x5]) ?_ ?_ ?_ ?_
        · exact ⟨rfl, x5, by simp⟩
        · rintro m σ H' _ ⟨rfl, _⟩
          exact SqL.of hl2
        · rintro m y σ Hc Hd hm ⟨rfl, x5, rfl⟩ ⟨rfl, hy⟩
          obtain ⟨kc, hk, hlc⟩ := hcs2.get hy
          have hkw := (hcw.2.1 kc (List.mem_of_getElem? hk)).ok
          have et : (c.conds.take (m + 1)).all (fun k => k.holds xs) = ((c.conds.take m).all (fun k => k.holds xs) && kc.holds xs) := by
            rw [take_snoc hk, List.all_append]; simp
          walk_at "rd"
          refine ite_b (fun hb => ?_) (fun hb => ?_)
          · walk_at "rd"
            refine ⟨y, r, kc, xs, rfl, hlc, hkw, hr2, hx, ?_⟩
            walk_at "rd"
            refine ⟨rfl, some y, ?_⟩
            rw [et, ← Bool.and_assoc, hb, Bool.true_and]; rfl
          · walk_at "rd"
            refine ⟨rfl, some y, ?_⟩
            rw [et, ← Bool.and_assoc, hb, Bool.false_and]; rfl
        · rintro σ Hq ⟨rfl, x5, rfl⟩
          rw [hcs2.len, List.take_length]
          exact ⟨rfl, x5, rfl⟩
      rintro σ Hq ⟨rfl, x5, rfl⟩
      walk_at "rd"
      refine ite_b (fun hb => ?_) (fun hb => ?_)
      · walk_at "rd"
        have e : firstFit cell xs cs = some i := fit_at hno hget hb
        rw [e] at k
        exact k _ s12
      · walk_at "rd"
        refine ⟨s12, fun j d hj h1 => ?_, _, _, _, rfl⟩
        rcases Nat.lt_or_ge j i with h | h
        · exact hno j d h h1
        · have e : j = i := by omega
          subst e
          rw [hget] at h1
          cases h1
          exact hb
    · rintro σ H' ⟨s1, hno, x3, x4, x5, rfl⟩
      walk_at "rd"
      have e : firstFit cell xs cs = none := fit_none fun j d h1 => hno j d (by rw [hlen]; exact (List.getElem?_eq_some_iff.mp h1).1) h1
      rw [e] at k
      exact k _ s1
def sp_lbecomes : Sp := fun vs H Q _ => ∃ (p r : Addr) (us : List V) (cs : List Cla) (cell : Int) (xs : List Int), vs = [.ref p, .int cell, .ref r] ∧ H p = some (.lst us) ∧ AllV (LCla H) us cs ∧ ClasW cs ∧ cs.length ≤ 1000 ∧ H r = some (.lst (xs.map V.int)) ∧ xs.length = 8 ∧ ∀ H', Same H H' → Q (.int (ruleMakes cs cell xs)) H'
theorem mp_lbecomes : MonP sp_lbecomes := fun vs H Q Q' E h ⟨p, r, us, cs, cell, xs, x1, x2, x3, x4, x5, x6, x7, q⟩ => ⟨p, r, us, cs, cell, xs, x1, x2, x3, x4, x5, x6, x7, fun H' s => h _ _ (q H' s)⟩
theorem ok_lbecomes (T : Env fa fn K mg) : Good P w K mg base CX0 3 ("_law_becomes", none) ["_law_clauses", "_law_cell", "_law_around"] sp_lbecomes := by
  have G_w_decides := ok_decides (P := P) (w := w) (base := base) T
  refine good_mk T 35 (d := d_w_becomes) (N := ["_law_clauses", "_law_cell", "_law_around", "_law_at_here"]) (ps := ["_law_clauses", "_law_cell", "_law_around"]) rfl rfl sc_w_becomes (fun _ _ _ _ _ _ us hl => match us, hl with | [_, _, _], _ => rfl) (fun vs H Q E h => ?_) (fun f cdv A outer σ0 H vs Q E hr h => ?_)
  · obtain ⟨p, r, us, cs, cell, xs, rfl, _⟩ := h; rfl
  · obtain ⟨p, r, us, cs, cell, xs, rfl, hp, hall, hw, hcl, hr', hx, k⟩ := h
    refine ⟨_, (pss_cons (ps_set (i := 3) sc_w_becomes.nd rfl (Or.inl rfl) (pe_cgK K rfl G_w_decides (hr.mono (by decide)) (T.glo 40) (pa_cons (pv 0) (pa_cons (pv 1) (pa_cons (pv 2) pa_nil)))))
      (pss_cons (ps_if (pt_cmpR op_isN (pv 3) pe_non (nomark _)) (pss_one (ps_ret (pv 1))) pss_nil)
      (pss_one (ps_ret (pe_ix (ix_tupK K rfl) (pe_ix (ix_listK K rfl) (pv 0) (pv 3) (fun _ _ => rfl)) pe_int (fun _ _ => rfl)))))), ?_⟩
    walk_at "rd"
    refine ⟨p, r, us, cs, cell, xs, rfl, hp, hall, hw, hcl, hr', hx, fun H2 s2 => ?_⟩
    cases e : firstFit cell xs cs with
    | none =>
      have em : ruleMakes cs cell xs = cell := by unfold ruleMakes; rw [e]
      rw [em] at k
      walk_at "rd"
      refine iteT ?_
      walk_at "rd"
      exact k _ s2
    | some i =>
      obtain ⟨c, hcc, _⟩ := fit_lt e
      have em : ruleMakes cs cell xs = c.made := by
        unfold ruleMakes
        rw [e]
        show (cs[i]?.map Cla.made).getD cell = c.made
        rw [hcc]; rfl
      rw [em] at k
      obtain ⟨v, hv, hat⟩ := hall.at hcc
      obtain ⟨t, l, ps, rfl, ht, _⟩ := hat.same s2
      walk_at "rd"
      refine iteF ?_
      walk_at "rd"
      refine rd_ixL (SqL.of (s2 _ _ hp)) (atI_nat hv) ?_
      walk_at "rd"
      exact k _ s2
end
end JF

/-! ### drawn clauses: their text -/
namespace JF
open PySem PySem.Spec PyProof.Rows L2
theorem joinL_le {S : List Nat} {B : Nat} : ∀ {ws : List (List Nat)}, (∀ w ∈ ws, w.length ≤ B) → (TL.joinL S ws).length ≤ ws.length * (B + S.length)
  | [], _ => Nat.zero_le _
  | [x], h => by
    have := h x List.mem_cons_self
    show x.length ≤ 1 * (B + S.length)
    omega
  | x :: y :: ws, h => by
    have ih := joinL_le (S := S) (ws := y :: ws) fun w hw => h w (List.mem_cons_of_mem _ hw)
    have hx := h x List.mem_cons_self
    have e : TL.joinL S (x :: y :: ws) = x ++ (S ++ TL.joinL S (y :: ws)) := rfl
    rw [e, List.length_append, List.length_append, List.length_cons, Nat.succ_mul]
    omega
theorem inc_len {b : Nat} : ∀ {ns : List Int} {a : Nat}, ns.Pairwise (· < ·) → (∀ n ∈ ns, (a : Int) ≤ n ∧ n < (b : Int)) → ns.length ≤ b - a
  | [], _, _, _ => Nat.zero_le _
  | n :: ns, a, hp, hb => by
    rw [List.pairwise_cons] at hp
    have h1 := hb n List.mem_cons_self
    obtain ⟨m, hm⟩ := nat_of (show 0 ≤ n by omega)
    have ih := inc_len (a := m + 1) hp.2 fun k hk => ⟨by have := hp.1 k hk; omega, (hb k (List.mem_cons_of_mem _ hk)).2⟩
    rw [List.length_cons]
    omega
theorem amt_len {ns : List Int} (h : ∀ n ∈ ns, 0 ≤ n ∧ n ≤ 8) (hp : ns.Pairwise (· < ·)) : ns.length ≤ 9 := inc_len (a := 0) (b := 9) hp fun n hn => by have := h n hn; omega
theorem condT_len {c : Cond} (h : CondW c) : (condT c).length ≤ 11 := by
  cases c with
  | amt s ns =>
    have := amt_len h.2.2.1 h.2.2.2
    show ((48 + s.toNat) :: 61 :: ns.map fun n => 48 + n.toNat).length ≤ 11
    simp only [List.length_cons, List.length_map]
    omega
  | plc ws =>
    have z : ws.length = 8 := h.1
    show (ws.map wishT).length ≤ 11
    rw [List.length_map]; omega
theorem claT_len {c : Cla} (h : ClaW c) (h8 : c.conds.length ≤ 8) : (claT c).length ≤ 120 := by
  have h1 : (claW c).length ≤ 10 := by
    show ([wishT c.taken] :: (c.conds.map condT ++ [[48 + c.made.toNat]])).length ≤ 10
    simp only [List.length_cons, List.length_append, List.length_map, List.length_nil]
    omega
  have h2 := joinL_le (S := [32]) (B := 11) (ws := claW c) fun w hw => by
    rcases List.mem_cons.mp hw with rfl | hw
    · simp
    · rcases List.mem_append.mp hw with hw | hw
      · obtain ⟨k, hk, rfl⟩ := List.mem_map.mp hw
        exact condT_len (h.2.1 k hk)
      · rw [List.mem_singleton] at hw; subst hw; simp
  have e : ([32] : List Nat).length = 1 := rfl
  rw [e] at h2
  show (TL.joinL [32] (claW c)).length ≤ 120
  omega
theorem ruleT_len {cs : List Cla} (h : ∀ c ∈ cs, ClaW c ∧ c.conds.length ≤ 8) : (ruleT cs).length ≤ cs.length * 122 := by
  have h2 := joinL_le (S := [59, 32]) (B := 120) (ws := cs.map claT) fun w hw => by
    obtain ⟨c, hc, rfl⟩ := List.mem_map.mp hw
    exact claT_len (h c hc).1 (h c hc).2
  rw [List.length_map] at h2
  exact h2
theorem rule_w {cs : List Cla} (h : ∀ c ∈ cs, ClaW c ∧ c.conds.length ≤ 8) (hl : cs.length ≤ 1000) (hz : ruleMakes cs 0 eights = 0) : RuleW cs := by
  refine ⟨fun c hc => (h c hc).1, fun c hc => ⟨by have := claT_len (h c hc).1 (h c hc).2; omega, by have := (h c hc).2; omega⟩, hl, ?_, hz⟩
  have := ruleT_len h
  omega
theorem join_ones : ∀ ws : List Nat, TL.joinL [] (ws.map fun c => [c]) = ws
  | [] => rfl
  | [n] => rfl
  | n :: m :: ns => by
    show [n] ++ ([] ++ TL.joinL [] ((m :: ns).map fun c => [c])) = _
    rw [join_ones (m :: ns)]; rfl
theorem sum_ones : ∀ ws : List Nat, (ws.map fun c => ([c] : List Nat).length).sum = ws.length
  | [] => rfl
  | n :: ns => by
    have ih := sum_ones ns
    show ([n] : List Nat).length + (ns.map fun c => ([c] : List Nat).length).sum = ns.length + 1
    rw [ih]
    show 1 + ns.length = _
    omega
theorem sum_le {B : Nat} : ∀ {ls : List Nat}, (∀ l ∈ ls, l ≤ B) → ls.sum ≤ ls.length * B
  | [], _ => Nat.zero_le _
  | l :: ls, h => by
    have ih := sum_le fun x hx => h x (List.mem_cons_of_mem _ hx)
    have := h l List.mem_cons_self
    rw [List.sum_cons, List.length_cons, Nat.succ_mul]
    omega
theorem wish_sign {w : Int} (h0 : 0 ≤ w) (h8 : w ≤ 8) : (if w.toNat = 8 then 42 else 48 + w.toNat) = wishT (wishOf w) := by
  unfold wishOf
  by_cases z : w = 8
  · rw [if_pos z, if_pos (by omega)]; rfl
  · rw [if_neg z, if_neg (by omega)]; rfl
theorem sign_at {w : Int} (h0 : 0 ≤ w) (h8 : w ≤ 8) : atI (Str.ofString "01234567*").cps.toList w = some (wishT (wishOf w)) := by
  obtain ⟨d, rfl⟩ := nat_of h0
  rw [← wish_sign h0 h8, Int.toNat_natCast]
  exact atI_nat (take_sign (by omega))
theorem str_tx {l : List Nat} {z : Str} (h : TL.tl z = l) : z = tx l := TL.ext_tl h
section
variable {P : Program} {w : World} {K : PySem.W.Frag} {mg : Str → Option Value} {base : Heap}
def sp_word : Sp := fun vs H Q _ => ∃ (v : V) (c : Cond), vs = [v] ∧ LCond H v c ∧ CondW c ∧ ∀ H', Same H H' → Q (.str (tx (condT c))) H'
theorem mp_word : MonP sp_word := fun vs H Q Q' E h ⟨v, c, x1, x2, x3, q⟩ => ⟨v, c, x1, x2, x3, fun H' s => h _ _ (q H' s)⟩
theorem ok_word (T : Env fa fn K mg) : Good P w K mg base CX0 1 ("_law_word", none) ["_law_condition"] sp_word := by
  refine good_mk T 37 (d := d_w_word) (N := ["_law_condition", "_law_state", "_law_k"]) (ps := ["_law_condition"]) rfl rfl sc_w_word (fun _ _ _ _ _ _ us hl => match us, hl with | [_], _ => rfl) (fun vs H Q E h => ?_) (fun f cdv A outer σ0 H vs Q E hr h => ?_)
  · obtain ⟨v, c, rfl, _⟩ := h; rfl
  · obtain ⟨v, c, rfl, hc, hcw, k⟩ := h
    have hsz := sizeBig
    refine ⟨_, (pss_cons (ps_if (pt_cmpR op_eq (pe_ix (ix_tupK K rfl) (pv 0) pe_int (fun _ _ => rfl)) pe_str (nomark _)) (pss_one (ps_ret (pe_join pe_str (pe_lc (own := [("_law_state", 1)]) (tt := tYes) rfl sc_w_word.nd (pi_listK K rfl (pe_ix (ix_tupK K rfl) (pv 0) pe_int (fun _ _ => rfl))) (blkOk_by (own := [("_law_state", 1)]) (N := ["_law_condition", "_law_state", "_law_k"]) (sc := defScope st_w_word) (by decide +kernel)) (fun _ _ _ _ _ => by exact (pg_name (i := 1) sc_w_word.nd rfl (Or.inl rfl))) (fun _ _ _ _ _ => by exact pts_nil) (fun _ _ _ _ _ => by exact (pe_ix ix_str pe_str (pv 1) (fun _ _ => rfl))))))) pss_nil)
      (pss_one (ps_ret (pe_op op_add_str (pe_op op_add_str (pe_callTy call_str_int (by rfl) (T.free 24) (by decide +kernel) (pa_cons (pe_ix (ix_tupK K rfl) (pv 0) pe_int (fun _ _ => rfl)) pa_nil)) pe_str) (pe_join pe_str (pe_lc (own := [("_law_k", 2)]) (tt := tYes) rfl sc_w_word.nd (pi_listK K rfl (pe_ix (ix_tupK K rfl) (pv 0) pe_int (fun _ _ => rfl))) (blkOk_by (own := [("_law_k", 2)]) (N := ["_law_condition", "_law_state", "_law_k"]) (sc := defScope st_w_word) (by decide +kernel)) (fun _ _ _ _ _ => by exact (pg_name (i := 2) sc_w_word.nd rfl (Or.inl rfl))) (fun _ _ _ _ _ => by exact pts_nil) (fun _ _ _ _ _ => by exact (pe_callTy call_str_int (by rfl) (T.free 24) (by decide +kernel) (pa_cons (pv 2) pa_nil))))))))), ?_⟩
    cases c with
    | amt s nu =>
      obtain ⟨t, l, rfl, ht, hl⟩ := hc
      obtain ⟨hs, hne, nm, hinc⟩ := hcw
      have nlen := amt_len nm hinc
      walk_at "rd"
      refine iteF ?_
      walk_at "rd"
      refine ⟨s, rfl, log_ok (by have := hs.1; have := hs.2; omega), ?_⟩
      walk_at "rd"
      obtain ⟨sn, hsn⟩ := nat_of hs.1
      have e0 : TL.tl (Str.ofString (toString s)) = [48 + s.toNat] := by
        rw [hsn, tl_int (by have := hs.2; omega), Int.toNat_natCast]
      generalize Str.ofString (toString s) = z0 at e0 ⊢
      have eeq : TL.tl (Str.ofString "=") = [61] := by decide +kernel
      refine ⟨_, _, rfl, rfl, add_ok (by rw [e0, eeq]; simp), ?_⟩
      have e1 : TL.tl (z0 ++ Str.ofString "=") = [48 + s.toNat, 61] := by rw [TL.tl_append, e0, eeq]; rfl
      generalize z0 ++ Str.ofString "=" = z1 at e1 ⊢
      walk_at "rd"
      refine rd_m1 ?_
      walk_at "rd"
      refine rd_st ?_
      walk_at "rd"
      refine ⟨l, rfl, ⟨_, SqL.of hl⟩, fun D hD => ?_⟩
      refine lc_list (K := K) (xs := nu.map V.int) (fun i H' => H' = upd H D (.lst ((nu.take i).map fun n => V.str (Str.ofString (toString n))))) rfl (fun i H' _ e => SqL.of (by rw [e]; exact (same_upd hD) _ _ hl)) ?_ ?_
      · rintro i x H' hx rfl
        obtain ⟨c, hc, rfl⟩ : ∃ c, nu[i]? = some c ∧ x = .int c := by
          rw [List.getElem?_map] at hx
          cases e : nu[i]? with
          | none => rw [e] at hx; cases hx
          | some c => rw [e] at hx; exact ⟨c, rfl, (Option.some.inj hx).symm⟩
        have hb := nm c (List.mem_of_getElem? hc)
        have hi := (List.getElem?_eq_some_iff.mp hc).1
        walk_at "rd"
        refine ⟨rfl, ?_⟩
        walk_at "rd"
        refine ⟨c, rfl, log_ok (by omega), ?_⟩
        refine ⟨_, upd_same, ?_, ?_⟩
        · rw [List.length_map, List.length_take]; exact small1000 (by omega)
        · rw [upd_upd, take_snoc hc, List.map_append]; rfl
      rintro H3 rfl
      rw [List.length_map, List.take_length]
      have s3 := same_upd (o := .lst (nu.map fun n => V.str (Str.ofString (toString n)))) hD
      have LD : (upd H D (.lst (nu.map fun n => V.str (Str.ofString (toString n))))) D = some (.lst ((nu.map fun n => Str.ofString (toString n)).map V.str)) := by rw [upd_same, List.map_map]; rfl
      generalize upd H D (.lst (nu.map fun n => V.str (Str.ofString (toString n)))) = H3 at s3 LD ⊢
      walk_at "rd"
      have tlys : (nu.map fun n => Str.ofString (toString n)).map TL.tl = nu.map fun n => [48 + n.toNat] := by
        rw [List.map_map]
        refine List.map_congr_left fun n hn => ?_
        have hb := nm n hn
        obtain ⟨d, rfl⟩ : ∃ d : Nat, n = (d : Int) := ⟨n.toNat, by omega⟩
        show TL.tl (Str.ofString (toString (d : Int))) = _
        rw [tl_int (by omega), Int.toNat_natCast]
      have lys : ((nu.map fun n => Str.ofString (toString n)).map (·.length)).sum ≤ 9 := by
        have e : (nu.map fun n => Str.ofString (toString n)).map (·.length) = ((nu.map fun n => Str.ofString (toString n)).map TL.tl).map List.length := by
          rw [List.map_map (f := TL.tl)]
          refine List.map_congr_left fun z _ => TL.len_tl z
        rw [e, tlys, List.map_map]
        have e' := sum_len nu
        rw [e']; exact nlen
      refine ⟨_, D, _, rfl, rfl, .inl (SqL.of LD), ?_, ?_⟩
      · rw [List.length_map]
        have e : (Str.ofString "").length = 0 := by decide +kernel
        rw [e]; omega
      have ej : TL.tl (Txt.join (Str.ofString "") (nu.map fun n => Str.ofString (toString n))) = numT nu := by
        rw [TL.join_eq, TL.tl_join, tlys]
        have e : TL.tl (Str.ofString "") = [] := by decide +kernel
        rw [e]
        exact join_one nu
      generalize Txt.join (Str.ofString "") (nu.map fun n => Str.ofString (toString n)) = zj at ej ⊢
      have lnum : (numT nu).length = nu.length := List.length_map _
      walk_at "rd"
      refine ⟨_, _, rfl, rfl, add_ok (by rw [e1, ej, lnum]; simp only [List.length_cons, List.length_nil]; omega), ?_⟩
      have e4 : z1 ++ zj = tx (condT (.amt s nu)) := str_tx (by rw [TL.tl_append, e1, ej]; rfl)
      rw [e4]
      exact k _ s3
    | plc ws =>
      obtain ⟨t, l, wv, rfl, ht, hl, rfl, hwb⟩ := hc
      have hw8 : wv.length = 8 := by have z : (wv.map wishOf).length = 8 := hcw.1; rwa [List.length_map] at z
      walk_at "rd"
      refine iteT ?_
      walk_at "rd"
      refine rd_m1 ?_
      walk_at "rd"
      refine rd_st ?_
      walk_at "rd"
      refine ⟨l, rfl, ⟨_, SqL.of hl⟩, fun D hD => ?_⟩
      refine lc_list (K := K) (xs := wv.map V.int) (fun i H' => H' = upd H D (.lst ((wv.take i).map fun w => V.str (tx [wishT (wishOf w)])))) rfl (fun i H' _ e => SqL.of (by rw [e]; exact (same_upd hD) _ _ hl)) ?_ ?_
      · rintro i x H' hx rfl
        obtain ⟨c, hc, rfl⟩ : ∃ c, wv[i]? = some c ∧ x = .int c := by
          rw [List.getElem?_map] at hx
          cases e : wv[i]? with
          | none => rw [e] at hx; cases hx
          | some c => rw [e] at hx; exact ⟨c, rfl, (Option.some.inj hx).symm⟩
        have hcb := hwb c (List.mem_of_getElem? hc)
        have hi := (List.getElem?_eq_some_iff.mp hc).1
        walk_at "rd"
        refine ⟨rfl, ?_⟩
        walk_at "rd"
        refine ⟨_, c, _, rfl, rfl, by decide +kernel, sign_at hcb.1 hcb.2, ?_⟩
        refine ⟨_, upd_same, ?_, ?_⟩
        · rw [List.length_map, List.length_take]; exact small1000 (by omega)
        · rw [upd_upd, take_snoc hc, List.map_append]; rfl
      rintro H3 rfl
      rw [List.length_map, List.take_length]
      have s3 := same_upd (o := .lst (wv.map fun w => V.str (tx [wishT (wishOf w)]))) hD
      have LD : (upd H D (.lst (wv.map fun w => V.str (tx [wishT (wishOf w)])))) D = some (.lst ((wv.map fun w => tx [wishT (wishOf w)]).map V.str)) := by rw [upd_same, List.map_map]; rfl
      generalize upd H D (.lst (wv.map fun w => V.str (tx [wishT (wishOf w)]))) = H3 at s3 LD ⊢
      walk_at "rd"
      have tlys : (wv.map fun w => tx [wishT (wishOf w)]).map TL.tl = (wv.map fun w => wishT (wishOf w)).map fun c => [c] := by
        rw [List.map_map, List.map_map]; rfl
      have lys : ((wv.map fun w => tx [wishT (wishOf w)]).map (·.length)).sum ≤ 9 := by
        have e : (wv.map fun w => tx [wishT (wishOf w)]).map (·.length) = (wv.map fun w => wishT (wishOf w)).map fun c => ([c] : List Nat).length := by
          rw [List.map_map, List.map_map]; rfl
        rw [e, sum_ones, List.length_map]; omega
      refine ⟨_, D, _, rfl, rfl, .inl (SqL.of LD), ?_, ?_⟩
      · rw [List.length_map]
        have e : (Str.ofString "").length = 0 := by decide +kernel
        rw [e]; omega
      have ej : Txt.join (Str.ofString "") (wv.map fun w => tx [wishT (wishOf w)]) = tx (condT (.plc (wv.map wishOf))) := str_tx (by
        rw [TL.join_eq, TL.tl_join, tlys]
        have e : TL.tl (Str.ofString "") = [] := by decide +kernel
        rw [e, join_ones]
        show _ = (wv.map wishOf).map wishT
        rw [List.map_map]; rfl)
      rw [ej]
      exact k _ s3
end
end JF

/-! ### drawn clauses: the whole text; the drawn rule -/
namespace JF
open PySem PySem.Spec PyProof.Rows L2
theorem len_word {c : Cla} (h : ClaW c) (h8 : c.conds.length ≤ 8) : ∀ w ∈ claW c, w.length ≤ 11 := fun w hw => by
  rcases List.mem_cons.mp hw with rfl | hw
  · simp
  · rcases List.mem_append.mp hw with hw | hw
    · obtain ⟨k, hk, rfl⟩ := List.mem_map.mp hw
      exact condT_len (h.2.1 k hk)
    · rw [List.mem_singleton] at hw; subst hw; simp
theorem tx_len (l : List Nat) : (tx l).length = l.length := rfl
theorem sum_tx {B : Nat} {ws : List (List Nat)} (h : ∀ w ∈ ws, w.length ≤ B) : ((ws.map tx).map (·.length)).sum ≤ ws.length * B := by
  have := sum_le (B := B) (ls := (ws.map tx).map (·.length)) fun l hl => by
    obtain ⟨z, hz, rfl⟩ := List.mem_map.mp hl
    obtain ⟨w, hw, rfl⟩ := List.mem_map.mp hz
    exact h w hw
  rwa [List.length_map, List.length_map] at this
theorem join_tx {y : Str} {S : List Nat} (hy : TL.tl y = S) (ws : List (List Nat)) : Txt.join y (ws.map tx) = tx (TL.joinL S ws) := str_tx (by
  rw [TL.join_eq, TL.tl_join, hy, List.map_map]
  show TL.joinL S (ws.map fun w => w) = _
  rw [List.map_id'])
theorem tl_semi2 : TL.tl (Str.ofString "; ") = [59, 32] := by decide +kernel
theorem AllV.len' {α : Type} {R : V → α → Prop} {vs : List V} {xs : List α} (h : AllV R vs xs) : xs.length = vs.length := h.len.symm
section
variable {P : Program} {w : World} {K : PySem.W.Frag} {mg : Str → Option Value} {base : Heap}
def LClas (H : Hp) (us : List V) (cs : List Cla) : Prop := AllV (LCla H) us cs ∧ (∀ c ∈ cs, ClaW c ∧ c.conds.length ≤ 8) ∧ cs.length ≤ 100
def sp_text : Sp := fun vs H Q _ => ∃ (p : Addr) (us : List V) (cs : List Cla), vs = [.ref p] ∧ H p = some (.lst us) ∧ LClas H us cs ∧ ∀ H', Same H H' → Q (.str (tx (ruleT cs))) H'
theorem mp_text : MonP sp_text := fun vs H Q Q' E h ⟨p, us, cs, x1, x2, x3, q⟩ => ⟨p, us, cs, x1, x2, x3, fun H' s => h _ _ (q H' s)⟩
set_option maxHeartbeats 8000000 in
theorem ok_text (T : Env fa fn K mg) : Good P w K mg base CX0 2 ("_law_text", none) ["_law_clauses"] sp_text := by
  have G_w_word := ok_word (P := P) (w := w) (base := base) T
  refine good_mk T 38 (d := d_w_text) (N := ["_law_clauses", "_law_parts", "_law_clause", "_law_words", "_law_condition"]) (ps := ["_law_clauses"]) rfl rfl sc_w_text (fun _ _ _ _ _ _ us hl => match us, hl with | [_], _ => rfl) (fun vs H Q E h => ?_) (fun f cdv A outer σ0 H vs Q E hr h => ?_)
  · obtain ⟨p, us, cs, rfl, _⟩ := h; rfl
  · obtain ⟨p, us, cs, rfl, hp, ⟨hall, hw, hcl⟩, k⟩ := h
    have hsz := sizeBig
    have hlen := hall.len
    refine ⟨_, (pss_cons (ps_set (i := 1) sc_w_text.nd rfl (Or.inl rfl) (pe_lst pa_nil))
      (pss_cons (ps_for PassesOwn.never rfl (pi_listK K rfl (pv 0)) (pg_name (i := 2) sc_w_text.nd rfl (Or.inl rfl)) (pss_cons (ps_set (i := 3) sc_w_text.nd rfl (Or.inl rfl) (pe_op op_cat (pe_lst (pa_cons (pe_ix ix_str pe_str (pe_ix (ix_tupK K rfl) (pv 2) pe_int (fun _ _ => rfl)) (fun _ _ => rfl)) pa_nil)) (pe_lc (own := [("_law_condition", 4)]) (tt := tYes) rfl sc_w_text.nd (pi_listK K rfl (pe_ix (ix_tupK K rfl) (pv 2) pe_int (fun _ _ => rfl))) (blkOk_by (own := [("_law_condition", 4)]) (N := ["_law_clauses", "_law_parts", "_law_clause", "_law_words", "_law_condition"]) (sc := defScope st_w_text) (by decide +kernel)) (fun _ _ _ _ _ => by exact (pg_name (i := 4) sc_w_text.nd rfl (Or.inl rfl))) (fun _ _ _ _ _ => by exact pts_nil) (fun _ _ _ _ _ => by exact (pe_cgK K rfl G_w_word (hr.mono (by decide)) (T.glo 44) (pa_cons (pv 4) pa_nil))))))
      (pss_one (ps_expr (pe_bm PySem.F.plainAttrs_list PySem.F.slot_list_append PySem.F.type_list_append mt_append (pv 1) (pa_cons (pe_join pe_str (pe_op op_cat (pv 3) (pe_lst (pa_cons (pe_callTy call_str_int (by rfl) (T.free 24) (by decide +kernel) (pa_cons (pe_ix (ix_tupK K rfl) (pv 2) pe_int (fun _ _ => rfl)) pa_nil)) pa_nil)))) pa_nil))))))
      (pss_one (ps_ret (pe_join pe_str (pv 1)))))), ?_⟩
    walk_at "rd"
    refine rd_new (hn := by show 0 ≤ sizeLine; decide) fun p0 hp0 => ?_
    have s0 := same_upd (o := .lst []) hp0
    have L0 : (upd H p0 (.lst [])) p0 = some (.lst []) := upd_same
    generalize upd H p0 (.lst []) = H0 at s0 L0 ⊢
    walk_at "rd"
    refine ⟨p, rfl, ⟨_, SqL.of (s0 _ _ hp)⟩, ?_⟩
    refine for_it (walk_list (xs := us)) (fun i σ H' => Same H H' ∧ H' p0 = some (.lst (((cs.take i).map claT).map fun w => V.str (tx w))) ∧ ∃ x2 x3 x4 : Option V, σ = [some (.ref p), some (.ref p0), x2, x3, x4]) ⟨s0, L0, none, none, none, rfl⟩ ?_ ?_ ?_
    · rintro i σ H' _ ⟨s1, _⟩
      exact SqL.of (s1 _ _ hp)
    · rintro i x σ Ha Hb hi ⟨s1, h1, x2, x3, x4, rfl⟩ ⟨rfl, hx⟩
      obtain ⟨c, hcc, hat⟩ := hall.get hx
      have hcm := List.mem_of_getElem? hcc
      obtain ⟨t, l, ps, rfl, ht, hl, hcs⟩ := hat.same s1
      obtain ⟨hcw, h8⟩ := hw c hcm
      have hic := (List.getElem?_eq_some_iff.mp hcc).1
      have htk : 0 ≤ takenN c.taken ∧ takenN c.taken ≤ 8 := by
        have z := hcw.1
        cases e : c.taken with
        | none => exact ⟨by decide, by decide⟩
        | some s => rw [e] at z; have z' : St s := z; unfold St at z'; show 0 ≤ s ∧ s ≤ 8; omega
      have hwt : wishOf (takenN c.taken) = c.taken := by
        have z := hcw.1
        cases e : c.taken with
        | none => rfl
        | some s => rw [e] at z; have z' : St s := z; unfold St at z'; show (if s = 8 then none else some s) = some s; rw [if_neg (by omega)]
      walk_at "rd"
      refine ⟨_, takenN c.taken, _, rfl, rfl, by decide +kernel, sign_at htk.1 htk.2, ?_⟩
      walk_at "rd"
      rw [hwt]
      refine rd_new (hn := by show 1 ≤ sizeLine; decide) fun p2 hp2 => ?_
      have s2 := same_upd (o := .lst [V.str (tx [wishT c.taken])]) hp2
      have L2 : (upd Hb p2 (.lst [V.str (tx [wishT c.taken])])) p2 = some (.lst [V.str (tx [wishT c.taken])]) := upd_same
      generalize upd Hb p2 (.lst [V.str (tx [wishT c.taken])]) = H2 at s2 L2 ⊢
      have hl2 := s2 _ _ hl
      walk_at "rd"
      refine rd_ixT (SqT.of (s2 _ _ ht)) (atI_nat (j := 1) rfl) ?_
      refine ⟨l, rfl, ⟨_, SqL.of hl2⟩, fun D hD => ?_⟩
      have sD := fun o => same_upd (o := o) hD
      refine lc_list (K := K) (xs := ps) (fun i H' => Same H2 H' ∧ H' D = some (.lst ((c.conds.take i).map fun k => V.str (tx (condT k))))) ⟨sD _, upd_same⟩ ?_ ?_ ?_
      · rintro i H' _ ⟨s3, _⟩
        exact SqL.of (s3 _ _ hl2)
      · rintro m x H' hx ⟨s3, h3⟩
        obtain ⟨kc, hk, hat3⟩ := hcs.get hx
        have hm := (List.getElem?_eq_some_iff.mp hk).1
        walk_at "rd"
        refine ⟨rfl, ?_⟩
        walk_at "rd"
        refine ⟨x, kc, rfl, (hat3.same s2).same s3, hcw.2.1 kc (List.mem_of_getElem? hk), fun H4 s4 => ?_⟩
        have h4 := s4 _ _ h3
        refine ⟨_, h4, ?_, Same.put2 (s3.trans s4) hD, ?_⟩
        · rw [List.length_map, List.length_take]; exact small1000 (by omega)
        · rw [upd_same, take_snoc hk, List.map_append]; rfl
      rintro H3 ⟨s3, LD⟩
      have hpl : ps.length = c.conds.length := hcs.len
      rw [hpl, List.take_length] at LD
      have L3 := s3 _ _ L2
      walk_at "rd"
      refine ⟨p2, D, _, _, rfl, rfl, L3, LD, ?_, fun p5 hp5 => ?_⟩
      · rw [List.length_map]; simp only [List.length_cons, List.length_nil]; omega
      have s5 := same_upd (o := .lst ([V.str (tx [wishT c.taken])] ++ c.conds.map fun k => V.str (tx (condT k)))) hp5
      have L5 : (upd H3 p5 (.lst ([V.str (tx [wishT c.taken])] ++ c.conds.map fun k => V.str (tx (condT k))))) p5 = some (.lst ([V.str (tx [wishT c.taken])] ++ c.conds.map fun k => V.str (tx (condT k)))) := upd_same
      generalize upd H3 p5 (.lst ([V.str (tx [wishT c.taken])] ++ c.conds.map fun k => V.str (tx (condT k)))) = H5 at s5 L5 ⊢
      have s25 := (s2.trans s3).trans s5
      have h15 := s25 _ _ h1
      walk_at "rd"
      refine rd_tyL h15 ?_
      walk_at "rd"
      refine rd_m1 ?_
      walk_at "rd"
      refine rd_st ?_
      walk_at "rd"
      refine rd_ixT (SqT.of (s25 _ _ ht)) (atI_nat (j := 2) rfl) ?_
      walk_at "rd"
      have hmd := hcw.2.2
      unfold St at hmd
      obtain ⟨md, hmd'⟩ := nat_of hmd.1
      refine ⟨c.made, rfl, log_ok (by omega), ?_⟩
      have etm : Str.ofString (toString c.made) = tx [48 + c.made.toNat] := str_tx (by rw [hmd', tl_int (by omega), Int.toNat_natCast])
      rw [etm]
      refine rd_new (hn := by show 1 ≤ sizeLine; decide) fun p6 hp6 => ?_
      have s6 := same_upd (o := .lst [V.str (tx [48 + c.made.toNat])]) hp6
      have L6 : (upd H5 p6 (.lst [V.str (tx [48 + c.made.toNat])])) p6 = some (.lst [V.str (tx [48 + c.made.toNat])]) := upd_same
      generalize upd H5 p6 (.lst [V.str (tx [48 + c.made.toNat])]) = H6 at s6 L6 ⊢
      walk_at "rd"
      refine ⟨p5, p6, _, _, rfl, rfl, s6 _ _ L5, L6, ?_, fun p7 hp7 => ?_⟩
      · rw [List.length_append, List.length_map]; simp only [List.length_cons, List.length_nil]; omega
      have eW : ([V.str (tx [wishT c.taken])] ++ c.conds.map fun k => V.str (tx (condT k))) ++ [V.str (tx [48 + c.made.toNat])] = ((claW c).map tx).map V.str := by
        simp [claW, List.map_map, Function.comp_def]
      rw [eW]
      have s7 := same_upd (o := .lst (((claW c).map tx).map V.str)) hp7
      have L7 : (upd H6 p7 (.lst (((claW c).map tx).map V.str))) p7 = some (.lst (((claW c).map tx).map V.str)) := upd_same
      generalize upd H6 p7 (.lst (((claW c).map tx).map V.str)) = H7 at s7 L7 ⊢
      have hwl : (claW c).length = c.conds.length + 2 := by simp [claW]
      walk_at "rd"
      refine ⟨_, p7, _, rfl, rfl, .inl (SqL.of L7), ?_, ?_⟩
      · have e := sum_tx (len_word hcw h8)
        have e1 : (Str.ofString " ").length = 1 := by decide +kernel
        rw [List.length_map, e1]
        omega
      rw [join_tx tl_space]
      have h17 := s7 _ _ (s6 _ _ h15)
      walk_at "rd"
      refine rd_append h17 (by rw [List.length_map, List.length_map, List.length_take]; exact small1000 (by omega)) ?_
      walk_at "rd"
      refine ⟨Same.put2 (((s1.trans s25).trans s6).trans s7) hp0, ?_, _, _, _, rfl⟩
      rw [upd_same, take_snoc hcc, List.map_append, List.map_append]; rfl
    · rintro σ H' ⟨s1, h1, x2, x3, x4, rfl⟩
      rw [hlen, List.take_length] at h1
      have e1 : ((cs.map claT).map fun w => V.str (tx w)) = ((cs.map claT).map tx).map V.str := by simp only [List.map_map, Function.comp_def]
      rw [e1] at h1
      walk_at "rd"
      refine rd_m1 ?_
      walk_at "rd"
      refine rd_st ?_
      walk_at "rd"
      refine ⟨_, p0, _, rfl, rfl, .inl (SqL.of h1), ?_, ?_⟩
      · have e := sum_tx (B := 120) (ws := cs.map claT) fun w hw' => by
          obtain ⟨c, hc, rfl⟩ := List.mem_map.mp hw'
          exact claT_len (hw c hc).1 (hw c hc).2
        have e1 : (Str.ofString "; ").length = 2 := by decide +kernel
        rw [List.length_map] at e
        rw [List.length_map, List.length_map, e1]
        omega
      rw [join_tx tl_semi2]
      exact k _ s1
end
end JF

/-! ### drawn clauses: the drawn rule -/
namespace JF
open PySem PySem.Spec PyProof.Rows L2
section
variable {P : Program} {w : World} {K : PySem.W.Frag} {mg : Str → Option Value} {base : Heap}
def eightV : List V := [.int 0, .int 0, .int 0, .int 0, .int 0, .int 0, .int 0, .int 0]
theorem fits_zero {c : Cla} (h : c.fits 0 eights = true) (h0 : c.made = 0) (cs : List Cla) : ruleMakes (c :: cs) 0 eights = 0 := by
  unfold ruleMakes firstFit
  rw [if_pos h]
  show c.made = 0
  exact h0
def sp_clauses_byN (K : PySem.W.Frag) : Sp := fun vs H Q _ => ∃ (a : Addr) (ns : List Int) (first many : Int), vs = [.ref a, .int first, .int many] ∧ SqL K H a (ns.map V.int) ∧ 0 ≤ first ∧ 0 ≤ many ∧ many ≤ 20 ∧ ∀ H' l us cs, Same H H' → H l = none → H' l = some (.lst us) → AllV (LClaN (fun b => H b = none) H') us cs → LClas H' us cs → ruleMakes cs 0 eights = 0 → (many.toNat ≤ cs.length ∧ cs.length ≤ many.toNat + 1) → Q (.ref l) H'
theorem mp_clauses_byN : MonP (sp_clauses_byN K) := fun vs H Q Q' E h ⟨a, ns, f, m, x1, x2, x3, x4, x5, q⟩ => ⟨a, ns, f, m, x1, x2, x3, x4, x5, fun H' l us cs a b c d e f g => h _ _ (q H' l us cs a b c d e f g)⟩
def sp_clauses_by (K : PySem.W.Frag) : Sp := fun vs H Q _ => ∃ (a : Addr) (ns : List Int) (first many : Int), vs = [.ref a, .int first, .int many] ∧ SqL K H a (ns.map V.int) ∧ 0 ≤ first ∧ 0 ≤ many ∧ many ≤ 20 ∧ ∀ H' l us cs, Same H H' → H' l = some (.lst us) → LClas H' us cs → ruleMakes cs 0 eights = 0 → (many.toNat ≤ cs.length ∧ cs.length ≤ many.toNat + 1) → Q (.ref l) H'
theorem mp_clauses_by : MonP (sp_clauses_by K) := fun vs H Q Q' E h ⟨a, ns, f, m, x1, x2, x3, x4, x5, q⟩ => ⟨a, ns, f, m, x1, x2, x3, x4, x5, fun H' l us cs a b c d e => h _ _ (q H' l us cs a b c d e)⟩
set_option maxHeartbeats 8000000 in
theorem ok_clauses_byN (T : Env fa fn K mg) : Good P w K mg base CX0 4 ("_law_clauses_by", none) ["_law_script", "_law_first", "_law_many"] (sp_clauses_byN K) := by
  have G_w_at := ok_at (P := P) (w := w) (base := base) T
  have G_w_clause_by := ok_clause_by (P := P) (w := w) (base := base) T
  have G_w_becomes := ok_lbecomes (P := P) (w := w) (base := base) T
  refine good_mk T 36 (d := d_w_clauses_by) (N := ["_law_script", "_law_first", "_law_many", "_law_mains", "_law_clauses", "_law_k"]) (ps := ["_law_script", "_law_first", "_law_many"]) rfl rfl sc_w_clauses_by (fun _ _ _ _ _ _ us hl => match us, hl with | [_, _, _], _ => rfl) (fun vs H Q E h => ?_) (fun f cdv A outer σ0 H vs Q E hr h => ?_)
  · obtain ⟨a, ns, first, many, rfl, _⟩ := h; rfl
  · obtain ⟨a, ns, first, many, rfl, hS, hf0, hm0, hm1, k⟩ := h
    refine ⟨_, (pss_cons (ps_set (i := 3) sc_w_clauses_by.nd rfl (Or.inl rfl) (pe_tup (pa_cons (pe_op op_mod (pe_cgK K rfl G_w_at (hr.mono (by decide)) (T.glo 41) (pa_cons (pv 0) (pa_cons (pv 1) pa_nil))) pe_int) (pa_cons (pe_op op_mod (pe_cgK K rfl G_w_at (hr.mono (by decide)) (T.glo 41) (pa_cons (pv 0) (pa_cons (pe_op op_add (pv 1) pe_int) pa_nil))) pe_int) pa_nil))))
      (pss_cons (ps_set (i := 4) sc_w_clauses_by.nd rfl (Or.inl rfl) (pe_lst pa_nil))
      (pss_cons (ps_for PassesOwn.never rfl (pi_range1 (by rfl) (T.free 36) (pa_cons (pv 2) pa_nil)) (pg_name (i := 5) sc_w_clauses_by.nd rfl (Or.inl rfl)) (pss_one (ps_expr (pe_bm PySem.F.plainAttrs_list PySem.F.slot_list_append PySem.F.type_list_append mt_append (pv 4) (pa_cons (pe_cgK K rfl G_w_clause_by (hr.mono (by decide)) (T.glo 42) (pa_cons (pv 3) (pa_cons (pe_cgK K rfl G_w_at (hr.mono (by decide)) (T.glo 41) (pa_cons (pv 0) (pa_cons (pe_op op_add (pe_op op_add (pv 1) pe_int) (pv 5)) pa_nil))) (pa_cons (pe_op op_mulW pe_int (pv 5)) pa_nil)))) pa_nil)))))
      (pss_cons (ps_if (pt_cmpR op_ne (pe_cgK K rfl G_w_becomes (hr.mono (by decide)) (T.glo 43) (pa_cons (pv 4) (pa_cons pe_int (pa_cons (pe_lst (pa_cons pe_int (pa_cons pe_int (pa_cons pe_int (pa_cons pe_int (pa_cons pe_int (pa_cons pe_int (pa_cons pe_int (pa_cons pe_int pa_nil))))))))) pa_nil)))) pe_int (nomark _)) (pss_one (ps_set (i := 4) sc_w_clauses_by.nd rfl (Or.inl rfl) (pe_op op_cat (pe_lst (pa_cons (pe_tup (pa_cons pe_int (pa_cons (pe_lst (pa_cons (pe_tup (pa_cons pe_str (pa_cons pe_int (pa_cons (pe_lst (pa_cons pe_int pa_nil)) pa_nil)))) pa_nil)) (pa_cons pe_int pa_nil)))) pa_nil)) (pv 4)))) pss_nil)
      (pss_one (ps_ret (pv 4))))))), ?_⟩
    walk_at "rd"
    refine rd_at hS (by omega) ?_
    walk_at "rd"
    refine rd_at hS (by omega) ?_
    walk_at "rd"
    refine rd_new (hn := by show 2 ≤ sizeLine; decide) fun t ht => ?_
    have s0 := same_upd (o := .tup [V.int (atN ns first.toNat % 8), V.int (atN ns (first + 1).toNat % 8)]) ht
    have T0 : (upd H t (.tup [V.int (atN ns first.toNat % 8), V.int (atN ns (first + 1).toNat % 8)])) t = some (.tup [V.int (atN ns first.toNat % 8), V.int (atN ns (first + 1).toNat % 8)]) := upd_same
    have hsa : St (atN ns first.toNat % 8) := ⟨by omega, by omega⟩
    have hsb : St (atN ns (first + 1).toNat % 8) := ⟨by omega, by omega⟩
    generalize upd H t (.tup [V.int (atN ns first.toNat % 8), V.int (atN ns (first + 1).toNat % 8)]) = H0 at s0 T0 ⊢
    walk_at "rd"
    refine rd_new (hn := by show 0 ≤ sizeLine; decide) fun l hl => ?_
    have s1 := same_upd (o := .lst []) hl
    have L1 : (upd H0 l (.lst [])) l = some (.lst []) := upd_same
    generalize upd H0 l (.lst []) = H1 at s1 L1 ⊢
    walk_at "rd"
    refine ⟨many, rfl, by omega, by omega, ?_⟩
    refine for_it (walk_r0 (n := many.toNat)) (fun i σ Hq => Same H0 Hq ∧ ∃ (us : List V) (cs : List Cla) (x5 : Option V), σ = [some (.ref a), some (.int first), some (.int many), some (.ref t), some (.ref l), x5] ∧ Hq l = some (.lst us) ∧ AllV (LClaN (fun b => b ≠ l ∧ H0 b = none) Hq) us cs ∧ cs.length = i ∧ ∀ c ∈ cs, ClaW c ∧ c.conds.length ≤ 8)
      ⟨s1, [], [], none, rfl, L1, trivial, rfl, by simp⟩ (fun _ _ _ _ _ => trivial) ?_ ?_
    · rintro i x σ Ha Hb hi ⟨s2, us, cs, x5, rfl, hus, hall, hcl, hcw⟩ ⟨rfl, rfl⟩
      walk_at "rd"
      refine rd_tyL hus ?_
      walk_at "rd"
      refine rd_at (sqL_on hS fun o e => s2 _ _ (s0 _ _ e)) (by omega) ?_
      walk_at "rd"
      refine rd_I (mid_mul (by decide) (by decide) (by omega) (by omega)) ?_
      walk_at "rd"
      refine ⟨t, _, _, _, _, rfl, s2 _ _ T0, hsa, hsb, by omega, by omega, fun H4 u c s4 hc hw h8 => ?_⟩
      have hus4 := s4 _ _ hus
      walk_at "rd"
      refine rd_append hus4 (by rw [hall.len]; exact small1000 (by omega)) ?_
      walk_at "rd"
      have hc' : LClaN (fun b => b ≠ l ∧ H0 b = none) H4 u c := hc.imp fun b hb => ⟨fun z => (by rw [z, hus] at hb; cases hb), none_of s2 hb⟩
      refine ⟨Same.put2 (s2.trans s4) hl, us ++ [u], cs ++ [c], _, rfl, upd_same, ((hall.imp fun _ _ h => h.same s4).app hc').imp fun _ _ h => h.upd hus4 fun b hb => hb.1, by rw [List.length_append, hcl]; rfl, fun c' hm => ?_⟩
      rcases List.mem_append.mp hm with hm | hm
      · exact hcw c' hm
      · rw [List.mem_singleton] at hm; subst hm; exact ⟨hw, h8⟩
    · rintro σ H4 ⟨s2, us, cs, x5, rfl, hus, hall, hcl, hcw⟩
      have hatl : AllV (LCla H4) us cs := hall.imp fun _ _ h => h.at
      walk_at "rd"
      refine rd_new (hn := by show 8 ≤ sizeLine; decide) fun pz hpz => ?_
      have s3 := same_upd (o := .lst eightV) hpz
      have s3' : Same H4 (upd H4 pz (.lst [V.int 0, V.int 0, V.int 0, V.int 0, V.int 0, V.int 0, V.int 0, V.int 0])) := s3
      have hz : (upd H4 pz (.lst [V.int 0, V.int 0, V.int 0, V.int 0, V.int 0, V.int 0, V.int 0, V.int 0])) pz = some (.lst (eights.map V.int)) := upd_same
      generalize upd H4 pz (.lst [V.int 0, V.int 0, V.int 0, V.int 0, V.int 0, V.int 0, V.int 0, V.int 0]) = H5 at s3' hz ⊢
      walk_at "rd"
      refine ⟨l, pz, us, cs, 0, eights, rfl, s3' _ _ hus, hatl.imp fun _ _ h => h.same s3', fun c hc => (hcw c hc).1, by omega, hz, rfl, fun H6 s6 => ?_⟩
      have s06 := (s0.trans s2).trans (s3'.trans s6)
      have hus6 := s6 _ _ (s3' _ _ hus)
      have hat6 := hatl.imp fun _ _ h => h.same (s3'.trans s6)
      walk_at "rd"
      refine ite_nd (fun hm => ?_) (fun hm => ?_)
      · walk_at "rd"
        refine rd_new (hn := by show 1 ≤ sizeLine; decide) fun q1 hq1 => ?_
        have t1 := same_upd (o := .lst [V.int 8]) hq1
        have Q1 : (upd H6 q1 (.lst [V.int 8])) q1 = some (.lst [V.int 8]) := upd_same
        generalize upd H6 q1 (.lst [V.int 8]) = H7 at t1 Q1 ⊢
        walk_at "rd"
        refine rd_new (hn := by show 3 ≤ sizeLine; decide) fun q2 hq2 => ?_
        have t2 := same_upd (o := .tup [V.str "amount", V.int 0, V.ref q1]) hq2
        have Q2 : (upd H7 q2 (.tup [V.str "amount", V.int 0, V.ref q1])) q2 = some (.tup [V.str "amount", V.int 0, V.ref q1]) := upd_same
        generalize upd H7 q2 (.tup [V.str "amount", V.int 0, V.ref q1]) = H8 at t2 Q2 ⊢
        walk_at "rd"
        refine rd_new (hn := by show 1 ≤ sizeLine; decide) fun q3 hq3 => ?_
        have t3 := same_upd (o := .lst [V.ref q2]) hq3
        have Q3 : (upd H8 q3 (.lst [V.ref q2])) q3 = some (.lst [V.ref q2]) := upd_same
        generalize upd H8 q3 (.lst [V.ref q2]) = H9 at t3 Q3 ⊢
        walk_at "rd"
        refine rd_new (hn := by show 3 ≤ sizeLine; decide) fun q4 hq4 => ?_
        have t4 := same_upd (o := .tup [V.int 0, V.ref q3, V.int 0]) hq4
        have Q4 : (upd H9 q4 (.tup [V.int 0, V.ref q3, V.int 0])) q4 = some (.tup [V.int 0, V.ref q3, V.int 0]) := upd_same
        generalize upd H9 q4 (.tup [V.int 0, V.ref q3, V.int 0]) = H10 at t4 Q4 ⊢
        walk_at "rd"
        refine rd_new (hn := by show 1 ≤ sizeLine; decide) fun q5 hq5 => ?_
        have t5 := same_upd (o := .lst [V.ref q4]) hq5
        have Q5 : (upd H10 q5 (.lst [V.ref q4])) q5 = some (.lst [V.ref q4]) := upd_same
        generalize upd H10 q5 (.lst [V.ref q4]) = H11 at t5 Q5 ⊢
        have tt := (((t1.trans t2).trans t3).trans t4).trans t5
        walk_at "rd"
        refine ⟨q5, l, _, _, rfl, rfl, Q5, tt _ _ hus6, ?_, fun q6 hq6 => ?_⟩
        · rw [hall.len]; exact small_len (by simp only [List.length_cons, List.length_nil]; omega)
        have t6 := same_upd (o := .lst ([V.ref q4] ++ us)) hq6
        have Q6 : (upd H11 q6 (.lst ([V.ref q4] ++ us))) q6 = some (.lst ([V.ref q4] ++ us)) := upd_same
        generalize upd H11 q6 (.lst ([V.ref q4] ++ us)) = H12 at t6 Q6 ⊢
        have hf : Cla.fits ⟨some 0, [.amt 0 [8]], 0⟩ 0 eights = true := by decide +kernel
        walk_at "rd"
        have sA := (s06.trans tt).trans t6
        have l1 := none_of (s06.trans (((t1.trans t2).trans t3).trans t4)) hq5
        have l3 := none_of (s06.trans (t1.trans t2)) hq3
        have lq1 := none_of s06 hq1
        refine k _ q6 _ (⟨some 0, [.amt 0 [8]], 0⟩ :: cs) sA (none_of (s06.trans tt) hq6) Q6 ⟨⟨q4, q3, [V.ref q2], rfl, t6 _ _ (t5 _ _ Q4), t6 _ _ (t5 _ _ (t4 _ _ Q3)), l3, ⟨⟨q2, q1, rfl, t6 _ _ (t5 _ _ (t4 _ _ (t3 _ _ Q2))), t6 _ _ (t5 _ _ (t4 _ _ (t3 _ _ (t2 _ _ Q1)))), lq1⟩, trivial⟩⟩, hall.imp fun _ _ h => (h.same ((s3'.trans s6).trans (tt.trans t6))).imp fun b hb => none_of s0 hb.2⟩ ⟨⟨?_, hat6.imp fun _ _ h => h.same (tt.trans t6)⟩, fun c hc => ?_, by rw [List.length_cons]; omega⟩ (fits_zero hf rfl cs) (by rw [List.length_cons]; constructor <;> omega)
        · refine ⟨q4, q3, [V.ref q2], rfl, t6 _ _ (t5 _ _ Q4), t6 _ _ (t5 _ _ (t4 _ _ Q3)), ⟨q2, q1, rfl, t6 _ _ (t5 _ _ (t4 _ _ (t3 _ _ Q2))), t6 _ _ (t5 _ _ (t4 _ _ (t3 _ _ (t2 _ _ Q1))))⟩, trivial⟩
        · rcases List.mem_cons.mp hc with rfl | hc
          · refine ⟨⟨⟨by decide, by decide⟩, fun k hk => ?_, ⟨by decide, by decide⟩⟩, by show 1 ≤ 8; decide⟩
            rw [List.mem_singleton] at hk; subst hk
            exact ⟨⟨by decide, by decide⟩, by simp, fun n hn => by rw [List.mem_singleton] at hn; subst hn; decide, by simp⟩
          · exact hcw c hc
      · walk_at "rd"
        refine k _ l us cs s06 (none_of s0 hl) hus6 (hall.imp fun _ _ h => (h.same (s3'.trans s6)).imp fun b hb => none_of s0 hb.2) ⟨hat6, hcw, by omega⟩ hm (by constructor <;> omega)
theorem ok_clauses_by (T : Env fa fn K mg) : Good P w K mg base CX0 4 ("_law_clauses_by", none) ["_law_script", "_law_first", "_law_many"] (sp_clauses_by K) :=
  (ok_clauses_byN (P := P) (w := w) (base := base) T).imp fun vs H Q E ⟨a, ns, f, m, x1, x2, x3, x4, x5, q⟩ => ⟨a, ns, f, m, x1, x2, x3, x4, x5, fun H' l us cs a b c d e f g => q H' l us cs a c e f g⟩
end
end JF

/-! ### products of numbers below 2 ^ 64 -/
namespace JF
open PySem PySem.Spec PyProof.Rows L2
theorem mul64 {a b : Int} (h0 : 0 ≤ a) (h1 : a < 2 ^ 64) (h2 : 0 ≤ b) (h3 : b < 2 ^ 64) : CMulW a b := by
  have e1 : (2 : Int) ^ 64 ≤ 2 ^ 2000 := by decide +kernel
  exact mulW_of (by omega) (by omega) (by omega) (by omega)
end JF

/-! ### dicts of living cells within a box -/
namespace JF
open PySem PySem.Spec PyProof.Rows L2
/-- a dict of living cells within a box -/
def DBx (kf : List (List Key × V)) (X X' Y Y' : Int) : Prop := ∀ e ∈ kf, ∃ x y s : Int, e = ([Sum.inl x, Sum.inl y], .int s) ∧ X ≤ x ∧ x < X' ∧ Y ≤ y ∧ y < Y' ∧ 1 ≤ s ∧ s ≤ 7
theorem DBx.nil {X X' Y Y' : Int} : DBx [] X X' Y Y' := fun e h => by cases h
theorem DBx.put {kf : List (List Key × V)} {X X' Y Y' : Int} (h : DBx kf X X' Y Y') {x y s : Int} (a : X ≤ x) (b : x < X') (c : Y ≤ y) (d : y < Y') (e : 1 ≤ s) (g : s ≤ 7) : DBx (putK kf [Sum.inl x, Sum.inl y] (.int s)) X X' Y Y' := fun z hz => by
  rcases putK_cases hz with m | m
  · exact h z m
  · exact ⟨x, y, s, m, a, b, c, d, e, g⟩
theorem DBx.mono {kf : List (List Key × V)} {X X' Y Y' A A' B B' : Int} (h : DBx kf X X' Y Y') (a : A ≤ X) (b : X' ≤ A') (c : B ≤ Y) (d : Y' ≤ B') : DBx kf A A' B B' := fun z hz => by
  obtain ⟨x, y, s, e, h1, h2, h3, h4, h5⟩ := h z hz
  exact ⟨x, y, s, e, by omega, by omega, by omega, by omega, h5⟩
theorem DBx.nz {kf : List (List Key × V)} {X X' Y Y' : Int} (h : DBx kf X X' Y Y') : NZ kf := fun e he => by
  obtain ⟨x, y, s, rfl, _, _, _, _, s1, _⟩ := h e he
  intro z
  injection z with z
  omega
theorem dv_mem {kf : List (List Key × V)} (h : PairD kf) {u v : Int} (n : dv kf u v ≠ 0) : ([Sum.inl u, Sum.inl v], V.int (dv kf u v)) ∈ kf := by
  unfold dv at n ⊢
  cases e : valV kf [Sum.inl u, Sum.inl v] with
  | none => rw [e] at n; exact absurd rfl n
  | some z =>
    have hm := valV_mem e
    obtain ⟨x', y', s, e2⟩ := h.2 _ hm
    simp only [Prod.mk.injEq, List.cons.injEq, Sum.inl.injEq, and_true] at e2
    obtain ⟨⟨rfl, rfl⟩, rfl⟩ := e2
    exact hm
theorem DBx.dv {kf : List (List Key × V)} {X X' Y Y' : Int} (h : DBx kf X X' Y Y') (hP : PairD kf) {u v : Int} (n : JF.dv kf u v ≠ 0) : X ≤ u ∧ u < X' ∧ Y ≤ v ∧ v < Y' ∧ 1 ≤ JF.dv kf u v ∧ JF.dv kf u v ≤ 7 := by
  obtain ⟨x, y, s, e, h1, h2, h3, h4, h5, h6⟩ := h _ (dv_mem hP n)
  simp only [Prod.mk.injEq, List.cons.injEq, Sum.inl.injEq, and_true] at e
  obtain ⟨⟨rfl, rfl⟩, e⟩ := e
  injection e with e
  omega
theorem DBx.st {kf : List (List Key × V)} {X X' Y Y' : Int} (h : DBx kf X X' Y Y') (hP : PairD kf) (u v : Int) : St (JF.dv kf u v) := by
  by_cases z : JF.dv kf u v = 0
  · rw [z]; exact ⟨by decide, by decide⟩
  · have := h.dv hP z
    exact ⟨by omega, by omega⟩
theorem dv_getDS {kvs : List (List Key × V)} (hP : PairD kvs) (x y : Int) : (valV kvs [Sum.inl x, Sum.inl y]).getD (V.int 0) = V.int (dv kvs x y) := by
  unfold dv
  cases e : valV kvs [Sum.inl x, Sum.inl y] with
  | none => rfl
  | some v =>
    obtain ⟨x', y', s, e2⟩ := hP.2 _ (valV_mem e)
    simp only [Prod.mk.injEq] at e2
    rw [e2.2]; rfl
theorem rd_dget2S {σ : L2.St} {H : Hp} {Q : VK} {td ty tx : TE} (h : td σ H fun x H1 => ∃ a, x = .ref a ∧ IsD H1 a ∧ ty σ H1 fun y H2 => tx σ H2 fun z H3 => ∃ o, DGet H3 a y o ∧ Q (o.getD z) H3) : tDGet2 td ty tx σ H Q := h
theorem length_putS (kvs : List (List Key × V)) (k : List Key) (x : V) : (putK kvs k x).length ≤ kvs.length + 1 := by
  unfold putK
  split
  · rw [List.length_map]; omega
  · rw [List.length_append]; exact Nat.le_refl _
theorem kcol_mem {kf : List (List Key × V)} (hP : PairD kf) {z : Int} {c : Nat} (h : z ∈ kf.map (kcol c)) (hc : c ≤ 1) : ∃ x y s, ([Sum.inl x, Sum.inl y], V.int s) ∈ kf ∧ z = if c = 0 then x else y := by
  obtain ⟨e, he, rfl⟩ := List.mem_map.mp h
  obtain ⟨x, y, s, rfl⟩ := hP.2 e he
  refine ⟨x, y, s, he, ?_⟩
  match c, hc with
  | 0, _ => rfl
  | 1, _ => rfl
end JF

/-! ### list(reversed(x)), x a list: a new list -/
namespace RT
open PySem PySem.Spec PySem.Calls PyProof.Rows PyProof.V
section
variable {prog : Program} {w : World} {A : Around} {E : Value → Shared → Prop} {s : Shared} {it l : Addr} {items : Array Value}
theorem rev_extend {R : Result → Shared → Prop} (hh : A.handled = none) (hit : s.heap.IsRevIter it l ((items.size : Int) - 1)) (hl : s.heap.IsList l items) (hne : l ≠ it) (hn : items.size ≤ sizeLine) (S : Addr) (hSi : S ≠ it) (hSl : S ≠ l) (res : Value) (c₀ : Nat) (hS : s.heap.get? S = some { cls := .type "list", data := .seq #[] c₀ })
    (hR : ∀ h' tk acc' c', (∀ b o, b ≠ S → b ≠ it → s.heap.get? b = some o → h'.get? b = some o) → h'.get? S = some { cls := .type "list", dict := none, data := .seq acc' c', slots := #[] } → ItemsOf (fun i v => items[items.size - 1 - i]? = some v) acc' items.size → R (.ok (.ret res)) { s with heap := h', toks := tk }) :
    wpAny (model prog w) A.in1 (Builtin.List.listExtendWith (.ref S) (.ref it) res)
      (fun fin s' => match fin with | .done f => R (.ok f) s' | .again c' => c'.quiet = true ∧ codeAny (model prog w) A c' R s') (fun e s' => R (.error e) s') s := by
  have W := (Walks.listRev (prog := prog) (w := w) (A := A.in1) hh it l hne items).toS
  have hSf : S ∉ [it, l] := by simp only [List.mem_cons, List.not_mem_nil, or_false, not_or]; exact ⟨hSi, hSl⟩
  have hT : s.TypeIs (.ref it) "list_reverseiterator" := hit.typeIs
  have h1 : Builtin.List.listSameRef (.ref S) (.ref it) = false := by simp [Builtin.List.listSameRef, hSi]
  unfold Builtin.List.listExtendWith
  refine wpAny_bind (wpAny_typeOf hT ?_)
  rw [if_neg (by rw [h1]; decide)]
  refine wpAny_bind (wpAny_pyIter_revIter hit ?_)
  refine wpAny_bind (wpAny_holding ?_)
  unfold Builtin.List.listLengthHint
  refine wpAny_bind (wpAny_specialOf hT nolen_lri ?_)
  show wpAny _ A.in1 (specialOf (Value.ref it) (Str.ofString "__length_hint__") >>= _) _ _ _
  refine wpAny_bind (wpAny_specialOf hT hint_lri ?_)
  generalize hid : ("list_reverseiterator.__length_hint__" : String) = id0
  wp_delta
  rw [show splitId id0 = some ("list_reverseiterator", "__length_hint__") from by subst hid; decide +kernel]
  subst hid
  refine wpAny_bind (wpAny_isInstance (b := true) hT (by rw [isSubtype_type]; kernel_rfl) ?_)
  refine wpAny_pure ?_
  have e0 : ((items.size : Nat) : Int) - 1 - ((0 : Nat) : Int) = (items.size : Int) - 1 := by omega
  have key : ∀ (h : Heap) (c₁ tk : Nat), h.IsRevIter it l ((items.size : Int) - 1) → h.IsList l items → (∀ b o, b ≠ S → s.heap.get? b = some o → h.get? b = some o) →
      h.get? S = some { cls := .type "list", data := .seq #[] c₁ } → codeAny (model prog w) A (.builtin "list.extend.loop" ⟨[.ref S, .ref it, res], []⟩) R { s with heap := h, toks := tk } := by
    intro h c₁ tk h1 h2 hk hS₁
    refine codeAny_extend_loopS W hn S hSf res items.size 0 _ #[] c₁ rfl (Nat.zero_le _) ⟨Nat.zero_le _, by rw [e0]; exact h1, h2⟩ hS₁ (ItemsOf.nil _) fun s' acc' c' hm hS' hacc => ?_
    rw [Moved.eq_with hm]
    refine hR s'.heap s'.toks acc' c' (fun b o hb hb2 e => hm.heap b o (fun hmem => ?_) (hk b o hb e)) hS' hacc
    rcases List.mem_cons.mp hmem with e' | hmem
    · exact hb e'
    · exact hb2 (List.mem_singleton.mp hmem)
  refine wpAny_ite_split (fun hab => ?_) (fun _ => wpAny_pure ⟨plainId_quiet PySem.F.plain_extend_loop _, key _ c₀ _ hit hl (fun b o _ e => e) hS⟩)
  revert hab
  first
  | (intro hab; exact absurd hab (by decide))
  | skip
theorem rev_init {R : Result → Shared → Prop} (hh : A.handled = none) (hit : s.heap.IsRevIter it l ((items.size : Int) - 1)) (hl : s.heap.IsList l items) (hne : l ≠ it) (hn : items.size ≤ sizeLine) (S : Addr) (hSi : S ≠ it) (hSl : S ≠ l) (hS : s.heap.get? S = some { cls := .type "list", data := .seq #[] })
    (hR : ∀ h' tk acc' c', (∀ b o, b ≠ S → b ≠ it → s.heap.get? b = some o → h'.get? b = some o) → h'.get? S = some { cls := .type "list", dict := none, data := .seq acc' c', slots := #[] } → ItemsOf (fun i v => items[items.size - 1 - i]? = some v) acc' items.size → R (.ok (.ret .none)) { s with heap := h', toks := tk }) :
    wpAny (model prog w) A.in1 (Builtin.«list.__init__» ⟨[.ref S, .ref it], []⟩)
      (fun fin s' => match fin with | .done f => R (.ok f) s' | .again c' => c'.quiet = true ∧ codeAny (model prog w) A c' R s') (fun e s' => R (.error e) s') s := by
  show wpAny _ _ (do let old ← Builtin.List.listItems (.ref S); Builtin.List.listUpdate (.ref S) (fun _ => #[]); letGo old.toList.reverse; Builtin.List.listExtendWith (.ref S) (.ref it) .none) _ _ s
  refine wpAny_bind ?_
  unfold Builtin.List.listItems
  refine wpAny_bind (wpAny_seqItems hS rfl (wpAny_pure ?_))
  show wpAny _ _ (updateSeq S (fun _ => #[]) >>= fun _ => letGo (#[] : Array Value).toList.reverse >>= fun _ => Builtin.List.listExtendWith (.ref S) (.ref it) .none) _ _ s
  refine wpAny_bind (wpAny_updateSeq hS rfl ?_)
  have hS₂ := Heap.get?_update_self (Obj.mapSeq (fun _ => (#[] : Array Value))) hS rfl
  have oth : ∀ b o, b ≠ S → s.heap.get? b = some o → (s.heap.update S (Obj.mapSeq (fun _ => (#[] : Array Value)))).get? b = some o :=
    fun b o hb e => (Heap.get?_update_other _ _ (Ne.symm hb)).trans e
  refine wpAny_bind (wpAny_letGo ?_)
  refine rev_extend hh (hit.at fun o e => oth it o hSi.symm e) ?_ hne hn S hSi hSl .none _ hS₂ (fun h' tk acc' c' hk hS' hacc => ?_)
  · obtain ⟨ol, hol, r⟩ := hl
    exact ⟨ol, oth l ol hSl.symm hol, r⟩
  exact hR h' tk acc' c' (fun b o hb hb2 e => hk b o hb hb2 (oth b o hb e)) hS' hacc
theorem call_list_rev {Q : Value → Shared → Prop} (hh : A.handled = none) (hit : s.heap.IsRevIter it l ((items.size : Int) - 1)) (hl : s.heap.IsList l items) (hne : l ≠ it) (hn : items.size ≤ sizeLine)
    (hQ : ∀ h' tk acc' c', (∀ b o, b ≠ it → s.heap.get? b = some o → h'.get? b = some o) → h'.get? s.heap.objs.size = some { cls := .type "list", dict := none, data := .seq acc' c', slots := #[] } → ItemsOf (fun i v => items[items.size - 1 - i]? = some v) acc' items.size → Q (.ref s.heap.objs.size) { s with heap := h', toks := tk }) :
    wpAny (model prog w) A (call (.type "list") [.ref it]) Q E s := by
  refine callType_codes (Q₁ := fun obj s₁ => obj = .ref s.heap.objs.size ∧ s₁ = { s with heap := s.heap.push { cls := .type "list", data := .seq #[] } }) PySem.F.called_list (PySem.F.typeCall_list_1 _) PySem.F.entry_list_init
    (code_list_new _ ⟨rfl, rfl⟩) fun obj s₁ h₁ => ?_
  obtain ⟨rfl, rfl⟩ := h₁
  have hS : (s.heap.push { cls := .type "list", data := .seq #[] }).get? s.heap.objs.size = some { cls := .type "list", data := .seq #[] } := Heap.get?_push_size _ rfl
  obtain ⟨oi, hoi, _⟩ := id hit
  obtain ⟨ol, hol, _⟩ := id hl
  refine ⟨⟨_, hS, rfl⟩, PySem.F.args_list_init_2 _ _, rev_init (A := A.in1) hh (hit.at fun o e => Heap.get?_push_of_some _ e) (hl.push _) hne hn _ (Nat.ne_of_gt (Heap.lt_size hoi)) (Nat.ne_of_gt (Heap.lt_size hol)) hS (fun h' tk acc' c' hk hS' hacc => ?_)⟩
  exact ⟨rfl, hQ h' tk acc' c' (fun b o hb e => hk b o (Nat.ne_of_lt (Heap.lt_size e)) hb (Heap.get?_push_of_some _ e)) hS' hacc⟩
end
end RT
namespace JF
open PySem PySem.Spec PyProof.Rows L2 RT
def tListRev (K : PySem.W.Frag) (te : TE) : TE := fun σ H Q => te σ H fun v H1 => ∃ (a : Addr) (xs : List V), v = .ref a ∧ SqL K H1 a xs ∧ ∀ q, H1 q = none → Q (.ref q) (upd H1 q (.lst xs.reverse))
theorem pe_listRev {X : Cx} {e : Expr} {te : TE} {p p2 pos pos2 : Pos} (hc : X.calm = true) (hg : Gl X "list") (hm : X.mg "list" = none) (hg2 : Gl X "reversed") (hm2 : X.mg "reversed" = none) (he : PE X e te)
    (hs : starEach [e] X.env = (false, eval e X.env) :: starEach [] X.env := by rfl)
    (hs2 : starEach [.Call (.Name "reversed" p2) [e] [] pos2] X.env = (false, eval (.Call (.Name "reversed" p2) [e] [] pos2) X.env) :: starEach [] X.env := by rfl) :
    PE X (.Call (.Name "list" p) [.Call (.Name "reversed" p2) [e] [] pos2] [] pos) (tListRev X.K te) := by
  refine ⟨fun pins s σ H Q I h => ?_⟩
  refine Call_ (ld_blt I hg hm PyProof.Rows.boot_list (PyProof.Rows.callWith_type1 (args_cons (Call_ (ld_blt I hg2 hm2 PyProof.Rows.boot_reversed (PyProof.Rows.callWith_type1 (args_cons (thn (he.run pins s σ H _ I h) fun u s1 ⟨v, H1, I1, r1, q1⟩ => args_nil ?_) hs) hs rfl))) hs2) hs2 rfl))
  obtain ⟨a, xs, ev, hq, q⟩ := q1
  subst ev
  obtain rfl : u = Value.ref a := r1
  obtain ⟨its, rv, p', hz⟩ := I1.list hq
  refine call_reversed_list p'.isList (args_nil ?_)
  have k0 : ∀ b o, s1.heap.get? b = some o → (s1.heap.push (revObj a ((its.toArray.size : Int) - 1))).get? b = some o := fun b o e => Heap.get?_push_of_some _ e
  have I2 : Inv X pins σ H1 { s1 with heap := s1.heap.push (revObj a ((its.toArray.size : Int) - 1)) } := I1.kept (t' := s1.toks) k0
  obtain ⟨f0, f1, f2, f3, f4, f5⟩ := I1.fpOk (H' := H1) (b := s1.heap.objs.size) (Nat.le_refl _) (I1.hok.fresh (Nat.le_refl _))
  have hl := p'.isList
  obtain ⟨ol, hol, _⟩ := id hl
  have hne : a ≠ s1.heap.objs.size := Nat.ne_of_lt (Heap.lt_size hol)
  have hn : its.toArray.size ≤ sizeLine := by rw [List.size_toArray, ← rv.length]; exact hz
  refine call_list_rev (s := { s1 with heap := s1.heap.push (revObj a ((its.toArray.size : Int) - 1)) }) (I1.ok.hd hc) ⟨_, Heap.get?_push_size _ rfl, rfl, rfl⟩ (hl.push _) hne hn fun h' tk acc c' hk hS hi => ?_
  have k1 : ∀ b o, s1.heap.get? b = some o → h'.get? b = some o := fun b o e => hk b o (Nat.ne_of_lt (Heap.lt_size e)) (k0 b o e)
  have lt : s1.heap.objs.size ≤ (s1.heap.push (revObj a ((its.toArray.size : Int) - 1))).objs.size := by
    rw [Heap.size_push]; exact Nat.le_succ _
  refine ⟨.ref (s1.heap.push (revObj a ((its.toArray.size : Int) - 1))).objs.size, upd H1 (s1.heap.push (revObj a ((its.toArray.size : Int) - 1))).objs.size (.lst xs.reverse), I1.laid (t' := tk) k1 lt (show ObjOk X.prog X.w _ _ _ (.lst xs.reverse) from ⟨by rw [List.length_reverse]; exact hz, acc.toList, c', vals_rev rv hi, ?_⟩), rfl, q _ (I1.hok.fresh lt)⟩
  rw [Array.toArray_toList]
  exact hS
end JF

/-! ### plain steps -/
namespace JF
open PySem PySem.Spec PyProof.Rows L2
/-- the keys of a dict that a call has just made -/
def iKeysF (td : TE) : TI := fun σ H R => td σ H fun x H1 => ∃ d kvs, x = .ref d ∧ H1 d = some (.dT kvs) ∧ ∀ od, R (Itkt d od kvs) (upd H1 d (.frz od (.dT kvs)))
theorem pi_freshKeys {X : Cx} {tg e : Expr} {td : TE} (he : PE X e td) : PI X tg e (iKeysF td) := by
  refine ⟨fun pins s σ H R I h => ?_⟩
  refine thn (he.run pins s σ H _ I h) fun u s1 ⟨x, H1, I1, rx, d, kvs, ex, hd, q⟩ => ?_
  subst ex
  obtain rfl : u = Value.ref d := rx
  obtain ⟨od, I2⟩ := I1.lock hd trivial
  obtain ⟨hs, hgd, hx, es, ep, hdt, hsz, ent⟩ := I2.frzT upd_same
  refine iter_keys hs hgd hx hdt (pi_one (tk := s1.toks) I2 _ (turn_keysT _ hdt) ⟨_, Heap.get?_push_size _ rfl, rfl, ?_⟩ (q od))
  rw [hsz] <;> rfl
theorem rd_iKF {td : TE} {σ : L2.St} {H : Hp} {R : It → Hp → Prop} (h : td σ H fun x H1 => ∃ d kvs, x = .ref d ∧ H1 d = some (.dT kvs) ∧ ∀ od, R (Itkt d od kvs) (upd H1 d (.frz od (.dT kvs)))) : iKeysF td σ H R := h
def off8 : List (List Int) := [[-1, -1], [0, -1], [1, -1], [-1, 0], [1, 0], [-1, 1], [0, 1], [1, 1]]
def arF (f : Int → Int → Int) (x y : Int) : List Int := off8.map fun o => f (x + o.getD 0 0) (y + o.getD 1 0)
def stepA (cs : List Cla) (f : Int → Int → Int) (x y : Int) : Int := ruleMakes cs (f x y) (arF f x y)
section
variable {P : Program} {w : World} {K : PySem.W.Frag} {mg : Str → Option Value} {base : Heap}
def sp_aroundAt : Sp := fun vs H Q _ => ∃ (pd : Addr) (kvs : List (List Key × V)) (x y : Int), vs = [.ref pd, .int x, .int y] ∧ H pd = some (.dT kvs) ∧ PairD kvs ∧
  ∀ H' D, Same H H' → H D = none → H' D = some (.lst ((arF (dv kvs) x y).map V.int)) → Q (.ref D) H'
theorem mp_aroundAt : MonP sp_aroundAt := fun vs H Q Q' E h ⟨pd, kvs, x, y, x1, x2, x3, k⟩ => ⟨pd, kvs, x, y, x1, x2, x3, fun H' D a b c => h _ _ (k H' D a b c)⟩
set_option maxHeartbeats 16000000 in
theorem ok_aroundAt (T : Env fa fn K mg) : Good P w K mg base CX0 1 ("around_at", none) ["states", "x", "y"] sp_aroundAt := by
  refine good_mk T 25 (d := d_around_at) (N := ["states", "x", "y", "dx", "dy"]) (ps := ["states", "x", "y"]) rfl rfl sc_around_at (fun _ _ _ _ _ _ us hl => match us, hl with | [_, _, _], _ => rfl) (fun vs H Q E h => ?_) (fun f cdv A outer σ0 H vs Q E hr h => ?_)
  · obtain ⟨pd, kvs, x, y, rfl, _⟩ := h; rfl
  · obtain ⟨pd, kvs, x, y, rfl, hd, hP, k⟩ := h
    have hu := hu_of hr
    obtain ⟨rs, hrs, hlen, hro⟩ := T.tup2 0
    refine ⟨_, (pss_one (ps_ret (pe_lc (own := [("dx", 3), ("dy", 4)]) (tt := tYes) rfl sc_around_at.nd (pi_tupK K rfl (pe_grefK K rfl (T.glo 30) rfl)) (blkOk_by (own := [("dx", 3), ("dy", 4)]) (N := ["states", "x", "y", "dx", "dy"]) (sc := defScope st_around_at) (by decide +kernel)) (fun _ _ _ _ _ => by exact (pg_tupK K rfl (n := 2) rfl (pgs_cons (pg_name (i := 3) sc_around_at.nd rfl (Or.inl rfl)) (pgs_cons (pg_name (i := 4) sc_around_at.nd rfl (Or.inl rfl)) pgs_nil)))) (fun _ _ _ _ _ => by exact pts_nil) (fun _ _ _ _ _ => by exact (pe_dget2 hu (pv 0) (pe_tup (pa_cons (pe_op op_add (pv 1) (pv 3)) (pa_cons (pe_op op_add (pv 2) (pv 4)) pa_nil))) pe_int ⟨rfl, rfl, rfl, rfl⟩))))), ?_⟩
    walk_at "rd"
    refine ⟨_, rfl, ⟨_, hrs H⟩, fun D hD => ?_⟩
    refine lc_it (walk_tup (K := K) (a := He.ga K "OFFSETS") (xs := rs.map V.ref)) (fun k H' => Same H H' ∧ H' D = some (.lst (((off8.take k).map fun o => dv kvs (x + o.getD 0 0) (y + o.getD 1 0)).map V.int))) ⟨same_upd hD, upd_same⟩ (fun k H' _ h => hrs H') ?_ ?_
    · rintro k v Ha2 Hb2 hk ⟨s1, LD⟩ ⟨rfl, hv⟩
      rw [List.length_map, hlen] at hk
      obtain ⟨r, hr1⟩ : ∃ r, rs[k]? = some r := ⟨_, List.getElem?_eq_getElem (by rw [hlen]; exact hk)⟩
      obtain ⟨o, ho⟩ : ∃ o, off8[k]? = some o := ⟨_, List.getElem?_eq_getElem hk⟩
      rw [List.getElem?_map, hr1] at hv
      cases hv
      obtain ⟨ox, oy, rfl⟩ : ∃ ox oy, o = [ox, oy] := by
        have hm := List.mem_of_getElem? ho
        simp only [off8, List.mem_cons, List.not_mem_nil, or_false] at hm
        rcases hm with rfl | rfl | rfl | rfl | rfl | rfl | rfl | rfl <;> exact ⟨_, _, rfl⟩
      have to2 : SqT K Hb2 r [V.int ox, V.int oy] := hro k r _ hr1 ho Hb2
      have D2 := s1 _ _ hd
      refine ⟨r, _, rfl, to2, rfl, ?_⟩
      walk_at "rd"
      refine ⟨rfl, ?_⟩
      walk_at "rd"
      refine rd_dget2S ?_
      walk_at "rd"
      refine ⟨pd, rfl, .inr ⟨kvs, .inl D2⟩, ?_⟩
      walk_at "rd"
      refine rd_new (hn := by show 2 ≤ sizeLine; decide) fun u hu' => ?_
      have s3 := same_upd (o := .tup [V.int (x + ox), V.int (y + oy)]) hu'
      have U3 : (upd Hb2 u (.tup [V.int (x + ox), V.int (y + oy)])) u = some (.tup (([Sum.inl (x + ox), Sum.inl (y + oy)] : List Key).map kV)) := upd_same
      have D3 := s3 _ _ D2
      have LD3 := s3 _ _ LD
      have s13 := s1.trans s3
      generalize upd Hb2 u (.tup [V.int (x + ox), V.int (y + oy)]) = H3 at *
      walk_at "rd"
      refine ⟨_, DGet.t (k := [Sum.inl (x + ox), Sum.inl (y + oy)]) D3 U3, ?_⟩
      rw [dv_getDS hP]
      refine ⟨_, LD3, by simp only [List.length_map, List.length_take]; exact small1000 (by have : k < 8 := hk; omega), Same.put2 s13 hD, ?_⟩
      rw [upd_same, take_snoc ho, List.map_append, List.map_append]; rfl
    · rintro H5 ⟨s5, LD5⟩
      have e8 : ((off8.take (rs.map V.ref).length).map fun o => dv kvs (x + o.getD 0 0) (y + o.getD 1 0)) = arF (dv kvs) x y := by
        rw [List.length_map, hlen]; rfl
      rw [e8] at LD5
      exact k H5 D s5 hD LD5
def PairA (kvs : List (List Key × V)) : Prop := (kvs.map Prod.fst).Nodup ∧ ∀ e ∈ kvs, ∃ (x y : Int) (v : V), e = ([Sum.inl x, Sum.inl y], v)
theorem PairA.nil : PairA [] := ⟨by simp, fun e h => by cases h⟩
theorem PairA.put {kvs : List (List Key × V)} (h : PairA kvs) (a b : Int) (v : V) : PairA (putK kvs [Sum.inl a, Sum.inl b] v) :=
  ⟨putK_nodup h.1, fun e he => by
    rcases putK_cases he with m | m
    · exact h.2 e m
    · exact ⟨a, b, v, m⟩⟩
theorem keys_put {kvs : List (List Key × V)} {k k' : List Key} {v : V} (h : k' ∈ kvs.map Prod.fst ∨ k' = k) : k' ∈ (putK kvs k v).map Prod.fst := by
  unfold putK
  by_cases c : (kvs.any fun kv => decide (kv.1 = k)) = true
  · rw [if_pos c, List.map_map]
    rcases h with h | h
    · obtain ⟨e, he, rfl⟩ := List.mem_map.mp h
      refine List.mem_map.mpr ⟨e, he, ?_⟩
      show (if e.1 = k then (e.1, v) else e).1 = e.1
      split <;> rfl
    · obtain ⟨e, he, h2⟩ := List.any_eq_true.mp c
      have h3 := of_decide_eq_true h2
      refine List.mem_map.mpr ⟨e, he, ?_⟩
      show (if e.1 = k then (e.1, v) else e).1 = k'
      rw [if_pos h3, h, h3]
  · rw [if_neg c, List.map_append]
    rcases h with h | h
    · exact List.mem_append_left _ h
    · exact List.mem_append_right _ (List.mem_singleton.mpr h)
theorem length_putA (kvs : List (List Key × V)) (k : List Key) (x : V) : (putK kvs k x).length ≤ kvs.length + 1 := by
  unfold putK
  split
  · rw [List.length_map]; omega
  · rw [List.length_append]; exact Nat.le_refl _
def kxy (x y : Int) : List Key := [Sum.inl x, Sum.inl y]
/-- the places of some cells and of their neighbours are among the keys -/
def NearK (cl : List Cell3) (kf : List (List Key × V)) : Prop := ∀ c ∈ cl, kxy c.1 c.2.1 ∈ kf.map Prod.fst ∧ ∀ o ∈ off8, kxy (c.1 + o.getD 0 0) (c.2.1 + o.getD 1 0) ∈ kf.map Prod.fst
def sp_near (K : PySem.W.Frag) : Sp := fun vs H Q _ => ∃ (p : Addr) (rs : List Addr) (cl : List Cell3), vs = [.ref p] ∧ H p = some (.lst (rs.map V.ref)) ∧ TR H rs (cl.map c3) ∧ cl.length ≤ 1000 ∧
  ∀ H' D kf, Same H H' → H D = none → H' D = some (.dT kf) → PairA kf → NearK cl kf → kf.length ≤ 9 * cl.length → Q (.ref D) H'
theorem mp_near : MonP (sp_near K) := fun vs H Q Q' E h ⟨p, rs, cl, x1, x2, x3, x4, k⟩ => ⟨p, rs, cl, x1, x2, x3, x4, fun H' D kf a b c d e f => h _ _ (k H' D kf a b c d e f)⟩
set_option maxHeartbeats 16000000 in
theorem ok_near (T : Env fa fn K mg) : Good P w K mg base CX0 1 ("near", none) ["cells"] (sp_near K) := by
  refine good_mk T 26 (d := d_near) (N := ["cells", "places", "x", "y", "state", "dx", "dy"]) (ps := ["cells"]) rfl rfl sc_near (fun _ _ _ _ _ _ us hl => match us, hl with | [_], _ => rfl) (fun vs H Q E h => ?_) (fun f cdv A outer σ0 H vs Q E hr h => ?_)
  · obtain ⟨p, rs, cl, rfl, _⟩ := h; rfl
  · obtain ⟨p, rs, cl, rfl, hp, hT, hlen, k⟩ := h
    have hu := hu_of hr
    have hsz := sizeBig
    obtain ⟨os, hos, hol, hoo⟩ := T.tup2 0
    have hol8 : os.length = 8 := hol
    have hrl : rs.length = cl.length := by have := TR.len hT; rw [List.length_map] at this; exact this
    refine ⟨_, (pss_cons (ps_set (i := 1) sc_near.nd rfl (Or.inl rfl) pe_dnewT)
      (pss_cons (ps_for PassesOwn.never rfl (pi_listK K rfl (pv 0)) (pg_tup rfl (pgs_cons (pg_name (i := 2) sc_near.nd rfl (Or.inl rfl)) (pgs_cons (pg_name (i := 3) sc_near.nd rfl (Or.inl rfl)) (pgs_cons (pg_name (i := 4) sc_near.nd rfl (Or.inl rfl)) pgs_nil)))) (pss_cons (ps_dput hu (pv 1) (pe_tup (pa_cons (pv 2) (pa_cons (pv 3) pa_nil))) pe_bl rfl)
      (pss_one (ps_for PassesOwn.never rfl (pi_tupK K rfl (pe_grefK K rfl (T.glo 30) rfl)) (pg_tup rfl (pgs_cons (pg_name (i := 5) sc_near.nd rfl (Or.inl rfl)) (pgs_cons (pg_name (i := 6) sc_near.nd rfl (Or.inl rfl)) pgs_nil))) (pss_one (ps_dput hu (pv 1) (pe_tup (pa_cons (pe_op op_add (pv 2) (pv 5)) (pa_cons (pe_op op_add (pv 3) (pv 6)) pa_nil))) pe_bl rfl))))))
      (pss_one (ps_ret (pv 1))))), ?_⟩
    walk_at "rd"
    intro D hD
    have s1 := same_upd (o := HO.dT []) hD
    have F1 : (upd H D (.dT [])) D = some (.dT []) := upd_same
    walk_at "rd"
    refine ⟨p, rfl, ⟨_, SqL.of (s1 _ _ hp)⟩, ?_⟩
    refine for_it (walk_list (K := K) (a := p) (xs := rs.map V.ref)) (fun i σ Hx => ∃ (kf : List (List Key × V)) (x2 x3 x4 x5 x6 : Option V), σ = [some (.ref p), some (.ref D), x2, x3, x4, x5, x6] ∧ Same H Hx ∧ Hx D = some (.dT kf) ∧ PairA kf ∧ NearK (cl.take i) kf ∧ kf.length ≤ 9 * i) ⟨[], none, none, none, none, none, rfl, s1, F1, PairA.nil, fun c hc => by simp at hc, by simp⟩ (fun i σ Hx _ h => by
      obtain ⟨kf, x2, x3, x4, x5, x6, _, sm, _⟩ := h
      exact SqL.of (sm _ _ hp)) ?_ ?_
    · rintro i v σ Ha Hb hi ⟨kf, x2, x3, x4, x5, x6, rfl, sm, F, PF, NF, kl⟩ ⟨rfl, hv⟩
      rw [List.length_map, hrl] at hi
      obtain ⟨r, hr1⟩ : ∃ r, rs[i]? = some r := ⟨_, List.getElem?_eq_getElem (by rw [hrl]; exact hi)⟩
      rw [List.getElem?_map, hr1] at hv
      cases hv
      obtain ⟨c, hc⟩ : ∃ c, cl[i]? = some c := ⟨_, List.getElem?_eq_getElem hi⟩
      obtain ⟨c', hc', to⟩ := hT.get hr1
      rw [List.getElem?_map, hc] at hc'
      cases hc'
      obtain ⟨cx, cy, cs⟩ := c
      have to2 : Hb r = some (.tup [V.int cx, V.int cy, V.int cs]) := sm _ _ to
      walk_at "rd"
      refine rd_new (hn := by show 2 ≤ sizeLine; decide) fun u hu' => ?_
      have s3 := same_upd (o := .tup [V.int cx, V.int cy]) hu'
      have U3 : (upd Hb u (.tup [V.int cx, V.int cy])) u = some (.tup ((kxy cx cy).map kV)) := upd_same
      have F3 := s3 _ _ F
      have sm3 := sm.trans s3
      generalize upd Hb u (.tup [V.int cx, V.int cy]) = H3 at *
      walk_at "rd"
      refine ⟨D, _, rfl, DPut.t (k := kxy cx cy) F3 U3 (by omega), ?_⟩
      have L4 := length_putA kf (kxy cx cy) (.bl true)
      have PF4 : PairA (putK kf (kxy cx cy) (.bl true)) := PF.put cx cy (.bl true)
      have sm4 : Same H (upd H3 D (.dT (putK kf (kxy cx cy) (.bl true)))) := Same.put2 sm3 hD
      have F4 : (upd H3 D (.dT (putK kf (kxy cx cy) (.bl true)))) D = some (.dT (putK kf (kxy cx cy) (.bl true))) := upd_same
      have NF4 : NearK (cl.take i) (putK kf (kxy cx cy) (.bl true)) := fun c hc => ⟨keys_put (.inl (NF c hc).1), fun o ho => keys_put (.inl ((NF c hc).2 o ho))⟩
      have M4 : kxy cx cy ∈ (putK kf (kxy cx cy) (.bl true)).map Prod.fst := keys_put (.inr rfl)
      generalize upd H3 D (.dT (putK kf (kxy cx cy) (.bl true))) = H4 at *
      generalize putK kf (kxy cx cy) (.bl true) = kf4 at *
      walk_at "rd"
      refine ⟨_, rfl, ⟨_, hos H4⟩, ?_⟩
      refine for_it (walk_tup (K := K) (a := He.ga K "OFFSETS") (xs := os.map V.ref)) (fun j σ Hx => ∃ (kg : List (List Key × V)) (x5 x6 : Option V), σ = [some (.ref p), some (.ref D), some (.int cx), some (.int cy), some (.int cs), x5, x6] ∧ Same H Hx ∧ Hx D = some (.dT kg) ∧ PairA kg ∧ NearK (cl.take i) kg ∧ kxy cx cy ∈ kg.map Prod.fst ∧ (∀ o ∈ off8.take j, kxy (cx + o.getD 0 0) (cy + o.getD 1 0) ∈ kg.map Prod.fst) ∧ kg.length ≤ 9 * i + 1 + j) ⟨kf4, x5, x6, rfl, sm4, F4, PF4, NF4, M4, fun o ho => by simp at ho, by omega⟩ (fun j σ Hx _ h => hos Hx) ?_ ?_
      · rintro j v σ Ha' Hb' hj ⟨kg, x5, x6, rfl, sm, F, PF, NF, M, MO, kl⟩ ⟨rfl, hv⟩
        rw [List.length_map, hol8] at hj
        obtain ⟨r', hr2⟩ : ∃ r', os[j]? = some r' := ⟨_, List.getElem?_eq_getElem (by rw [hol8]; exact hj)⟩
        obtain ⟨o, ho⟩ : ∃ o, off8[j]? = some o := ⟨_, List.getElem?_eq_getElem hj⟩
        rw [List.getElem?_map, hr2] at hv
        cases hv
        obtain ⟨ox, oy, rfl⟩ : ∃ ox oy, o = [ox, oy] := by
          have hm := List.mem_of_getElem? ho
          simp only [off8, List.mem_cons, List.not_mem_nil, or_false] at hm
          rcases hm with rfl | rfl | rfl | rfl | rfl | rfl | rfl | rfl <;> exact ⟨_, _, rfl⟩
        have to3 : SqT K Hb' r' [V.int ox, V.int oy] := hoo j r' _ hr2 ho Hb'
        refine ⟨r', _, rfl, to3, rfl, ?_⟩
        walk_at "rd"
        refine rd_new (hn := by show 2 ≤ sizeLine; decide) fun u2 hu2 => ?_
        have s5 := same_upd (o := .tup [V.int (cx + ox), V.int (cy + oy)]) hu2
        have U5 : (upd Hb' u2 (.tup [V.int (cx + ox), V.int (cy + oy)])) u2 = some (.tup ((kxy (cx + ox) (cy + oy)).map kV)) := upd_same
        have F5 := s5 _ _ F
        have sm5 := sm.trans s5
        generalize upd Hb' u2 (.tup [V.int (cx + ox), V.int (cy + oy)]) = H5 at *
        walk_at "rd"
        refine ⟨D, _, rfl, DPut.t (k := kxy (cx + ox) (cy + oy)) F5 U5 (by omega), ?_⟩
        have L5 := length_putA kg (kxy (cx + ox) (cy + oy)) (.bl true)
        refine ⟨_, _, _, rfl, Same.put2 sm5 hD, upd_same, PF.put _ _ _, fun c hc => ⟨keys_put (.inl (NF c hc).1), fun o ho => keys_put (.inl ((NF c hc).2 o ho))⟩, keys_put (.inl M), fun o' ho' => ?_, by omega⟩
        rw [take_snoc ho] at ho'
        rcases List.mem_append.mp ho' with z | z
        · exact keys_put (.inl (MO o' z))
        · rw [List.mem_singleton.mp z]
          exact keys_put (.inr rfl)
      · rintro σ H6 ⟨kg, x5, x6, rfl, sm, F, PF, NF, M, MO, kl⟩
        rw [List.length_map, hol8] at MO kl
        refine ⟨kg, _, _, _, _, _, rfl, sm, F, PF, fun c' hc' => ?_, by omega⟩
        rw [take_snoc hc] at hc'
        rcases List.mem_append.mp hc' with z | z
        · exact NF c' z
        · rw [List.mem_singleton.mp z]
          exact ⟨M, fun o ho => MO o ho⟩
    · rintro σ H5 ⟨kf, x2, x3, x4, x5, x6, rfl, sm, F, PF, NF, kl⟩
      have e8 : (rs.map V.ref).length = cl.length := by rw [List.length_map, hrl]
      rw [e8] at NF kl
      rw [List.take_length] at NF
      walk_at "rd"
      exact k H5 D kf sm hD F PF NF kl
end
end JF

/-! ### plain steps: stepped -/
namespace JF
open PySem PySem.Spec PyProof.Rows L2
def kpl (e : List Key × V) : Int × Int := match e.1 with
  | [Sum.inl x, Sum.inl y] => (x, y)
  | _ => (0, 0)
def stepLs (cs : List Cla) (f : Int → Int → Int) (ks : List (Int × Int)) : List Cell3 := ks.filterMap fun p => if stepA cs f p.1 p.2 = 0 then none else some (p.1, p.2, stepA cs f p.1 p.2)
theorem stepLs_snoc (cs : List Cla) (f : Int → Int → Int) (ks : List (Int × Int)) (x y : Int) : stepLs cs f (ks ++ [(x, y)]) = stepLs cs f ks ++ if stepA cs f x y = 0 then [] else [(x, y, stepA cs f x y)] := by
  unfold stepLs
  rw [List.filterMap_append]
  congr 1
  by_cases c : stepA cs f x y = 0
  · simp [c]
  · simp [c]
theorem mem_stepLs {cs : List Cla} {f : Int → Int → Int} {ks : List (Int × Int)} {x y s : Int} : (x, y, s) ∈ stepLs cs f ks ↔ (x, y) ∈ ks ∧ s = stepA cs f x y ∧ s ≠ 0 := by
  unfold stepLs
  rw [List.mem_filterMap]
  constructor
  · rintro ⟨p, hp, e⟩
    by_cases c : stepA cs f p.1 p.2 = 0
    · rw [if_pos c] at e; cases e
    · rw [if_neg c] at e
      obtain ⟨a, b⟩ := p
      cases e
      exact ⟨hp, rfl, c⟩
  · rintro ⟨h1, rfl, h3⟩
    exact ⟨(x, y), h1, by show (if stepA cs f x y = 0 then none else some (x, y, stepA cs f x y)) = _; rw [if_neg h3]⟩
theorem stepLs_nodup {cs : List Cla} {f : Int → Int → Int} : ∀ {ks : List (Int × Int)}, ks.Nodup → ((stepLs cs f ks).map fun c => (c.1, c.2.1)).Nodup
  | [], _ => by simp [stepLs]
  | (x, y) :: ks, h => by
    rw [List.nodup_cons] at h
    have ih := stepLs_nodup (cs := cs) (f := f) h.2
    have e : stepLs cs f ((x, y) :: ks) = (if stepA cs f x y = 0 then [] else [(x, y, stepA cs f x y)]) ++ stepLs cs f ks := by
      unfold stepLs
      by_cases c : stepA cs f x y = 0
      · simp [c]
      · simp [c]
    rw [e]
    by_cases c : stepA cs f x y = 0
    · rw [if_pos c]; exact ih
    · rw [if_neg c, List.singleton_append, List.map_cons, List.nodup_cons]
      refine ⟨fun z => ?_, ih⟩
      obtain ⟨⟨a, b, s⟩, hm, e⟩ := List.mem_map.mp z
      cases e
      exact h.1 (mem_stepLs.mp hm).1
/-- the cells a step later, sorted -/
def StepsTo (cs : List Cla) (f : Int → Int → Int) (ds : List Cell3) : Prop := SrtL (ds.map yxL) ∧ (ds.map fun c => (c.1, c.2.1)).Nodup ∧ ∀ x y s, (x, y, s) ∈ ds ↔ s = stepA cs f x y ∧ s ≠ 0
theorem nodup_fst3 {ds : List Cell3} (h : (ds.map fun c => (c.1, c.2.1)).Nodup) : ds.Nodup := by
  have p := List.pairwise_map.mp h
  exact p.imp fun ne z => ne (by rw [z])
theorem yxL_inj {ds es : List Cell3} (h : ds.map yxL = es.map yxL) : ds = es := by
  induction ds generalizing es with
  | nil => cases es with
    | nil => rfl
    | cons _ _ => cases h
  | cons d ds ih =>
    cases es with
    | nil => cases h
    | cons e es =>
      rw [List.map_cons, List.map_cons, List.cons.injEq] at h
      obtain ⟨a, b, s⟩ := d
      obtain ⟨a', b', s'⟩ := e
      have h1 : [b, a, s] = [b', a', s'] := h.1
      simp only [List.cons.injEq, and_true] at h1
      rw [ih h.2, h1.1, h1.2.1, h1.2.2]
theorem StepsTo.uniq {cs : List Cla} {f : Int → Int → Int} {ds es : List Cell3} (h : StepsTo cs f ds) (h' : StepsTo cs f es) : ds = es := by
  refine yxL_inj (srtL_eq h.1 h'.1 (List.Perm.map yxL ?_))
  rw [List.perm_ext_iff_of_nodup (nodup_fst3 h.2.1) (nodup_fst3 h'.2.1)]
  rintro ⟨x, y, s⟩
  rw [h.2.2, h'.2.2]
theorem off8_opp {o : List Int} (h : o ∈ off8) : ∃ o' ∈ off8, o'.getD 0 0 = -o.getD 0 0 ∧ o'.getD 1 0 = -o.getD 1 0 := by
  simp only [off8, List.mem_cons, List.not_mem_nil, or_false] at h
  rcases h with rfl | rfl | rfl | rfl | rfl | rfl | rfl | rfl
  · exact ⟨[1, 1], by decide, by decide, by decide⟩
  · exact ⟨[0, 1], by decide, by decide, by decide⟩
  · exact ⟨[-1, 1], by decide, by decide, by decide⟩
  · exact ⟨[1, 0], by decide, by decide, by decide⟩
  · exact ⟨[-1, 0], by decide, by decide, by decide⟩
  · exact ⟨[1, -1], by decide, by decide, by decide⟩
  · exact ⟨[0, -1], by decide, by decide, by decide⟩
  · exact ⟨[-1, -1], by decide, by decide, by decide⟩
theorem arF_zero {f : Int → Int → Int} {x y : Int} (h : ∀ o ∈ off8, f (x + o.getD 0 0) (y + o.getD 1 0) = 0) : arF f x y = eights := by
  unfold arF
  rw [List.map_congr_left h]
  rfl
/-- what lives a step later is near a cell -/
theorem near_all {cs : List Cla} {f : Int → Int → Int} (hz : ruleMakes cs 0 eights = 0) {ks : List (Int × Int)} (hk : ∀ x y, f x y ≠ 0 → (x, y) ∈ ks ∧ ∀ o ∈ off8, (x + o.getD 0 0, y + o.getD 1 0) ∈ ks) {x y : Int} (n : stepA cs f x y ≠ 0) : (x, y) ∈ ks := by
  by_cases c : f x y = 0
  · by_cases c2 : ∀ o ∈ off8, f (x + o.getD 0 0) (y + o.getD 1 0) = 0
    · exfalso
      apply n
      unfold stepA
      rw [arF_zero c2, c, hz]
    · obtain ⟨o, ho⟩ := Classical.not_forall.mp c2
      obtain ⟨ho, nz⟩ := Classical.not_imp.mp ho
      obtain ⟨o', ho', e1, e2⟩ := off8_opp ho
      have h := (hk _ _ nz).2 o' ho'
      rw [e1, e2, show x + o.getD 0 0 + -o.getD 0 0 = x by omega, show y + o.getD 1 0 + -o.getD 1 0 = y by omega] at h
      exact h
  · exact (hk x y c).1
theorem stepsTo_of {cs : List Cla} {f : Int → Int → Int} (hz : ruleMakes cs 0 eights = 0) {ks : List (Int × Int)} (nd : ks.Nodup) (hk : ∀ x y, f x y ≠ 0 → (x, y) ∈ ks ∧ ∀ o ∈ off8, (x + o.getD 0 0, y + o.getD 1 0) ∈ ks) : StepsTo cs f ((stepLs cs f ks).mergeSort ordC) := by
  have n1 := stepLs_nodup (cs := cs) (f := f) nd
  have pm := List.mergeSort_perm (stepLs cs f ks) ordC
  refine ⟨srt_cs n1, (pm.map _).nodup_iff.mpr n1, fun x y s => ?_⟩
  rw [pm.mem_iff, mem_stepLs]
  constructor
  · exact fun h => h.2
  · rintro ⟨rfl, h⟩
    exact ⟨near_all hz hk h, rfl, h⟩
theorem kpl_nodup {kvs : List (List Key × V)} (h : PairA kvs) : (kvs.map kpl).Nodup := by
  have p : kvs.Pairwise fun a b => a.1 ≠ b.1 := List.pairwise_map.mp h.1
  refine List.pairwise_map.mpr (p.imp_of_mem fun {a b} ha hb ne e => ?_)
  obtain ⟨x, y, v, rfl⟩ := h.2 a ha
  obtain ⟨x', y', v', rfl⟩ := h.2 b hb
  have e' : (x, y) = (x', y') := e
  obtain ⟨rfl, rfl⟩ := Prod.mk.inj e'
  exact ne rfl
theorem kpl_mem {kvs : List (List Key × V)} {x y : Int} (h : kxy x y ∈ kvs.map Prod.fst) : (x, y) ∈ kvs.map kpl := by
  obtain ⟨e, he, e2⟩ := List.mem_map.mp h
  exact List.mem_map.mpr ⟨e, he, by unfold kpl; rw [e2]; rfl⟩
theorem near_cells {cl : List Cell3} {kf : List (List Key × V)} (nk : NearK cl kf) (x y : Int) (n : layC (fun _ _ => 0) cl x y ≠ 0) : (x, y) ∈ kf.map kpl ∧ ∀ o ∈ off8, (x + o.getD 0 0, y + o.getD 1 0) ∈ kf.map kpl := by
  have m : (x, y) ∈ cl.map fun c => (c.1, c.2.1) := Classical.byContradiction fun z => n (layC_offL cl _ x y z)
  obtain ⟨c, hc, e⟩ := List.mem_map.mp m
  cases e
  exact ⟨kpl_mem (nk c hc).1, fun o ho => kpl_mem ((nk c hc).2 o ho)⟩
section
variable {P : Program} {w : World} {K : PySem.W.Frag} {mg : Str → Option Value} {base : Heap}
def sp_stepped (K : PySem.W.Frag) : Sp := fun vs H Q _ => ∃ (vr : V) (p : Addr) (rs : List Addr) (cs : List Cla) (cl : List Cell3), vs = [vr, .ref p] ∧ RuleAt K H vr cs ∧ RuleOk cs ∧ ruleMakes cs 0 eights = 0 ∧ H p = some (.lst (rs.map V.ref)) ∧ TR H rs (cl.map c3) ∧ cl.length ≤ 500 ∧
  ∀ H' l ds, Same H H' → H l = none → TL H' l (ds.map c3) → StepsTo cs (layC (fun _ _ => 0) cl) ds → ds.length ≤ 5000 → Q (.ref l) H'
theorem mp_stepped : MonP (sp_stepped K) := fun vs H Q Q' E h ⟨vr, p, rs, cs, cl, x1, x2, x3, x4, x5, x6, x7, k⟩ => ⟨vr, p, rs, cs, cl, x1, x2, x3, x4, x5, x6, x7, fun H' l ds a b c d e => h _ _ (k H' l ds a b c d e)⟩
set_option maxHeartbeats 16000000 in
theorem ok_stepped (T : Env fa fn K mg) : Good P w K mg base CX0 6 ("stepped", none) ["rule", "cells"] (sp_stepped K) := by
  have G_around_at := ok_aroundAt (P := P) (w := w) (base := base) T
  have G_near := ok_near (P := P) (w := w) (base := base) T
  have G_becomes := ok_becomes (P := P) (w := w) (base := base) T
  have G_by_rows := ok_by_rows (P := P) (w := w) (base := base) T
  refine good_mk T 27 (d := d_stepped) (N := ["rule", "cells", "states", "x", "y", "state", "found"]) (ps := ["rule", "cells"]) rfl rfl sc_stepped (fun _ _ _ _ _ _ us hl => match us, hl with | [_, _], _ => rfl) (fun vs H Q E h => ?_) (fun f cdv A outer σ0 H vs Q E hr h => ?_)
  · obtain ⟨vr, p, rs, cs, cl, rfl, _⟩ := h; rfl
  · obtain ⟨vr, p, rs, cs, cl, rfl, hR, hok, hz, hp, hT, hlen, k⟩ := h
    have hu := hu_of hr
    have hsz := sizeBig
    have hrl : rs.length = cl.length := by have := TR.len hT; rw [List.length_map] at this; exact this
    refine ⟨_, (pss_cons (ps_set (i := 2) sc_stepped.nd rfl (Or.inl rfl) pe_dnewT)
      (pss_cons (ps_for PassesOwn.never rfl (pi_listK K rfl (pv 1)) (pg_tup rfl (pgs_cons (pg_name (i := 3) sc_stepped.nd rfl (Or.inl rfl)) (pgs_cons (pg_name (i := 4) sc_stepped.nd rfl (Or.inl rfl)) (pgs_cons (pg_name (i := 5) sc_stepped.nd rfl (Or.inl rfl)) pgs_nil)))) (pss_one (ps_dput hu (pv 2) (pe_tup (pa_cons (pv 3) (pa_cons (pv 4) pa_nil))) (pv 5) rfl)))
      (pss_cons (ps_set (i := 6) sc_stepped.nd rfl (Or.inl rfl) (pe_lst pa_nil))
      (pss_cons (ps_for PassesOwn.never rfl (pi_freshKeys (pe_cgK K rfl G_near (hr.mono (by decide)) (T.glo 31) (pa_cons (pv 1) pa_nil))) (pg_tup rfl (pgs_cons (pg_name (i := 3) sc_stepped.nd rfl (Or.inl rfl)) (pgs_cons (pg_name (i := 4) sc_stepped.nd rfl (Or.inl rfl)) pgs_nil))) (pss_cons (ps_set (i := 5) sc_stepped.nd rfl (Or.inl rfl) (pe_cgK K rfl G_becomes (hr.mono (by decide)) (T.glo 29) (pa_cons (pv 0) (pa_cons (pe_dget2 hu (pv 2) (pe_tup (pa_cons (pv 3) (pa_cons (pv 4) pa_nil))) pe_int ⟨rfl, rfl, rfl, rfl⟩) (pa_cons (pe_cgK K rfl G_around_at (hr.mono (by decide)) (T.glo 32) (pa_cons (pv 2) (pa_cons (pv 3) (pa_cons (pv 4) pa_nil)))) pa_nil)))))
      (pss_one (ps_if (pt_cmpR op_ne (pv 5) pe_int (nomark _)) (pss_one (ps_expr (pe_bm PySem.F.plainAttrs_list PySem.F.slot_list_append PySem.F.type_list_append mt_append (pv 6) (pa_cons (pe_tup (pa_cons (pv 3) (pa_cons (pv 4) (pa_cons (pv 5) pa_nil)))) pa_nil)))) pss_nil))))
      (pss_one (ps_ret (pe_callBK (cr_sortByK K rfl G_by_rows (hr.mono (by decide))) (by rfl) (T.free 33) (by decide +kernel) (pa_cons (pv 6) pa_nil) (pk_cons (pe_grefK K rfl (T.glo 34) rfl) pk_nil)))))))), ?_⟩
    walk_at "rd"
    intro ps hps
    have s1 := same_upd (o := HO.dT []) hps
    have F1 : (upd H ps (.dT [])) ps = some (.dT []) := upd_same
    generalize upd H ps (HO.dT []) = H1 at *
    walk_at "rd"
    refine ⟨p, rfl, ⟨_, SqL.of (s1 _ _ hp)⟩, ?_⟩
    refine for_it (walk_list (K := K) (a := p) (xs := rs.map V.ref)) (fun i σ Hx => ∃ (kf : List (List Key × V)) (x3 x4 x5 : Option V), σ = [some vr, some (.ref p), some (.ref ps), x3, x4, x5, none] ∧ Same H Hx ∧ Hx ps = some (.dT kf) ∧ PairD kf ∧ (∀ x y, dv kf x y = layC (fun _ _ => 0) (cl.take i) x y) ∧ kf.length ≤ i) ⟨[], none, none, none, rfl, s1, F1, PairD.nil, fun x y => rfl, Nat.le_refl _⟩ (fun i σ Hx _ h => by
      obtain ⟨kf, x3, x4, x5, _, sm, _⟩ := h
      exact SqL.of (sm _ _ hp)) ?_ ?_
    · rintro i v σ Ha Hb hi ⟨kf, x3, x4, x5, rfl, sm, F, PF, DF, kl⟩ ⟨rfl, hv⟩
      rw [List.length_map, hrl] at hi
      obtain ⟨r, hr1⟩ : ∃ r, rs[i]? = some r := ⟨_, List.getElem?_eq_getElem (by rw [hrl]; exact hi)⟩
      rw [List.getElem?_map, hr1] at hv
      cases hv
      obtain ⟨c, hc⟩ : ∃ c, cl[i]? = some c := ⟨_, List.getElem?_eq_getElem hi⟩
      obtain ⟨c', hc', to⟩ := hT.get hr1
      rw [List.getElem?_map, hc] at hc'
      cases hc'
      obtain ⟨cx, cy, sc⟩ := c
      have to2 : Hb r = some (.tup [V.int cx, V.int cy, V.int sc]) := sm _ _ to
      walk_at "rd"
      refine rd_new (hn := by show 2 ≤ sizeLine; decide) fun u hu' => ?_
      have s3 := same_upd (o := .tup [V.int cx, V.int cy]) hu'
      have U3 : (upd Hb u (.tup [V.int cx, V.int cy])) u = some (.tup ((kxy cx cy).map kV)) := upd_same
      have F3 := s3 _ _ F
      have sm3 := sm.trans s3
      generalize upd Hb u (.tup [V.int cx, V.int cy]) = H3 at *
      walk_at "rd"
      refine ⟨ps, _, rfl, DPut.t (k := kxy cx cy) F3 U3 (by omega), ?_⟩
      have L4 := length_putA kf (kxy cx cy) (.int sc)
      refine ⟨_, _, _, _, rfl, Same.put2 sm3 hps, upd_same, PF.put _ _ _, fun a b => ?_, by omega⟩
      rw [take_snoc hc, layC_snoc]
      unfold kxy
      rw [dv_put, DF]
    rintro σ H2 ⟨kf, x3, x4, x5, rfl, sm, F, PF, DF, kl⟩
    rw [List.length_map, hrl] at DF kl
    rw [List.take_length] at DF
    have p2 := sm _ _ hp
    have T2 := hT.keep (Tup.of sm)
    walk_at "rd"
    refine rd_new (hn := by show 0 ≤ sizeLine; decide) fun pf hpf => ?_
    have s3 := same_upd (o := .lst []) hpf
    have L3 : (upd H2 pf (.lst [])) pf = some (.lst ([].map V.ref)) := upd_same
    have p3 := s3 _ _ p2
    have T3 := T2.keep (Tup.of s3)
    have F3 := s3 _ _ F
    have npf : pf ≠ ps := fun z => by rw [z, F] at hpf; cases hpf
    have S3 := sm.trans s3
    have hpf0 := none_of sm hpf
    generalize upd H2 pf (.lst []) = H3 at *
    walk_at "rd"
    refine rd_iKF ?_
    walk_at "rd"
    refine ⟨p, rs, cl, rfl, p3, T3, by omega, fun H4 D kn s4 hD FD PA NK knl => ⟨D, kn, rfl, FD, fun od => ?_⟩⟩
    have D0 := none_of S3 hD
    have s5 : Same H (upd H4 D (.frz od (.dT kn))) := Same.put2 (S3.trans s4) D0
    have FZ : (upd H4 D (.frz od (.dT kn))) D = some (.frz od (.dT kn)) := upd_same
    have nD : ∀ {b o}, H3 b = some o → b ≠ D := fun {b o} e z => by rw [z, hD] at e; cases e
    have L5 : (upd H4 D (.frz od (.dT kn))) pf = some (.lst ([].map V.ref)) := by rw [upd_ne (nD L3)]; exact s4 _ _ L3
    have F5 : (upd H4 D (.frz od (.dT kn))) ps = some (.dT kf) := by rw [upd_ne (nD F3)]; exact s4 _ _ F3
    have eF : dv kf = layC (fun _ _ => 0) cl := funext fun x => funext fun y => DF x y
    generalize upd H4 D (.frz od (.dT kn)) = H5 at *
    refine for_it (walk_keysT (kvs := kn)) (fun i σ Hx => ∃ (x3 x4 x5 : Option V) (ro : List Addr), σ = [some vr, some (.ref p), some (.ref ps), x3, x4, x5, some (.ref pf)] ∧ Same H Hx ∧ Hx ps = some (.dT kf) ∧ Hx D = some (.frz od (.dT kn)) ∧ Hx pf = some (.lst (ro.map V.ref)) ∧ TR Hx ro ((stepLs cs (dv kf) ((kn.take i).map kpl)).map c3) ∧ ro.length ≤ i) ⟨x3, x4, x5, [], rfl, s5, F5, FZ, L5, trivial, Nat.le_refl _⟩ (fun i σ Hx _ hx => by
      obtain ⟨_, _, _, _, _, _, _, hx, _⟩ := hx
      exact hx) ?_ ?_
    · rintro i v σ Ha Hb hi ⟨x3, x4, x5, ro, rfl, sm, F, FZ, Lf, tr, rl⟩ ⟨rfl, kk, v0, tt, hk, rfl, ht⟩
      obtain ⟨x, y, vv, e⟩ := PA.2 _ (List.mem_of_getElem? hk)
      simp only [Prod.mk.injEq] at e
      obtain ⟨rfl, rfl⟩ := e
      have ht' : Hb tt = some (.tup [V.int x, V.int y]) := ht
      refine ⟨tt, _, rfl, SqT.of ht', rfl, ?_⟩
      walk_at "rd"
      refine rd_dget2S ?_
      walk_at "rd"
      refine ⟨ps, rfl, .inr ⟨kf, .inl F⟩, ?_⟩
      walk_at "rd"
      refine rd_new (hn := by show 2 ≤ sizeLine; decide) fun u hu' => ?_
      have s6 := same_upd (o := .tup [V.int x, V.int y]) hu'
      have U6 : (upd Hb u (.tup [V.int x, V.int y])) u = some (.tup ((kxy x y).map kV)) := upd_same
      have F6 := s6 _ _ F
      generalize upd Hb u (.tup [V.int x, V.int y]) = H6 at *
      walk_at "rd"
      refine ⟨_, DGet.t (k := kxy x y) F6 U6, ?_⟩
      unfold kxy
      rw [dv_getDS PF]
      walk_at "rd"
      refine ⟨ps, kf, x, y, rfl, F6, PF, fun H7 la s7 hla A7 => ?_⟩
      have s67 := s6.trans s7
      have sm7 := sm.trans s67
      walk_at "rd"
      refine ⟨vr, la, cs, _, _, rfl, hR.same sm7, A7, by unfold arF; rw [List.length_map]; rfl, hok, fun H8 s8 => ?_⟩
      have s68 := s67.trans s8
      have sm8 := sm.trans s68
      have F8 := s68 _ _ F
      have FZ8 := s68 _ _ FZ
      have L8 := s68 _ _ Lf
      have tr8 := tr.keep (Tup.of s68)
      have ek : (kn.take (i + 1)).map kpl = (kn.take i).map kpl ++ [(x, y)] := by
        rw [take_snoc hk, List.map_append]; rfl
      have eS := stepLs_snoc cs (dv kf) ((kn.take i).map kpl) x y
      rw [← ek] at eS
      rw [show ruleMakes cs (dv kf x y) (arF (dv kf) x y) = stepA cs (dv kf) x y from rfl]
      walk_at "rd"
      refine ite_nd (fun hc => ?_) (fun hc => ?_)
      · rw [if_neg hc] at eS
        walk_at "rd"
        refine rd_tyL L8 ?_
        walk_at "rd"
        refine rd_new (hn := by show 3 ≤ sizeLine; decide) fun u2 hu2 => ?_
        have s9 := same_upd (o := .tup [V.int x, V.int y, V.int (stepA cs (dv kf) x y)]) hu2
        have U9 : (upd H8 u2 (.tup [V.int x, V.int y, V.int (stepA cs (dv kf) x y)])) u2 = some (.tup ((c3 (x, y, stepA cs (dv kf) x y)).map V.int)) := upd_same
        have F9 := s9 _ _ F8
        have FZ9 := s9 _ _ FZ8
        have L9 := s9 _ _ L8
        have tr9 := tr8.keep (Tup.of s9)
        have sm9 := sm8.trans s9
        generalize upd H8 u2 (.tup [V.int x, V.int y, V.int (stepA cs (dv kf) x y)]) = H9 at *
        walk_at "rd"
        refine rd_append L9 (by rw [List.length_map]; omega) ?_
        walk_at "rd"
        refine ⟨_, _, _, ro ++ [u2], rfl, Same.put2 sm9 hpf0, ?_, ?_, by rw [upd_same, List.map_append]; rfl, ?_, by rw [List.length_append, List.length_singleton]; omega⟩
        · rw [upd_ne npf.symm]; exact F9
        · rw [upd_ne (fun z => by rw [z, L9] at FZ9; cases FZ9)]; exact FZ9
        · rw [eS, List.map_append]
          exact (TR.app U9 tr9).keep (Tup.put L9 _)
      · rw [if_pos hc, List.append_nil] at eS
        walk_at "rd"
        refine ⟨_, _, _, ro, rfl, sm8, F8, FZ8, L8, ?_, by omega⟩
        rw [eS]
        exact tr8
    rintro σ H6 ⟨x3, x4, x5, ro, rfl, sm, F, FZ, Lf, tr, rl⟩
    rw [List.take_length, eF] at tr
    walk_at "rd"
    refine rd_ckw ?_
    walk_at "rd"
    refine ⟨pf, ro, stepLs cs (layC (fun _ _ => 0) cl) (kn.map kpl), rfl, rfl, SqL.of Lf, tr, fun H' rs' p' sm' hp' hl' tr' => ?_⟩
    exact k H' p' _ (sm.trans sm') (none_ofW sm hp') ⟨rs', hl', tr'⟩ (stepsTo_of hz (kpl_nodup PA) (near_cells NK)) (by
      rw [(List.mergeSort_perm _ _).length_eq]
      refine Nat.le_trans (List.length_filterMap_le _ _) ?_
      rw [List.length_map]
      omega)
end
end JF

/-! ### law k41: the law's own step -/
namespace JF
open PySem PySem.Spec PyProof.Rows L2
section
variable {P : Program} {w : World} {K : PySem.W.Frag} {mg : Str → Option Value} {base : Heap}
/-- the places of a dict's cells and of their neighbours are among the keys -/
def NearD (ks : List (Int × Int)) (kf : List (List Key × V)) : Prop := ∀ c ∈ ks, kxy c.1 c.2 ∈ kf.map Prod.fst ∧ ∀ o ∈ off8, kxy (c.1 + o.getD 0 0) (c.2 + o.getD 1 0) ∈ kf.map Prod.fst
def off9 : List (List Int) := off8 ++ [[0, 0]]
def sp_dueD : Sp := fun vs H Q _ => ∃ (p pd : Addr) (us : List V) (cs : List Cla) (kvs : List (List Key × V)), vs = [.ref p, .ref pd] ∧ H p = some (.lst us) ∧ AllV (LCla H) us cs ∧ ClasW cs ∧ cs.length ≤ 1000 ∧ ruleMakes cs 0 eights = 0 ∧ H pd = some (.dT kvs) ∧ PairD kvs ∧ kvs.length ≤ 500 ∧
  ∀ H' l ds, Same H H' → H l = none → TL H' l (ds.map c3) → StepsTo cs (dv kvs) ds → Q (.ref l) H'
theorem mp_dueD : MonP sp_dueD := fun vs H Q Q' E h ⟨p, pd, us, cs, kvs, x1, x2, x3, x4, x5, x6, x7, x8, x9, k⟩ => ⟨p, pd, us, cs, kvs, x1, x2, x3, x4, x5, x6, x7, x8, x9, fun H' l ds a b c d => h _ _ (k H' l ds a b c d)⟩
set_option maxHeartbeats 32000000 in
theorem ok_dueD (T : Env fa fn K mg) : Good P w K mg base CX0 4 ("_law_due", none) ["_law_clauses", "_law_states"] sp_dueD := by
  have G_w_becomes := ok_lbecomes (P := P) (w := w) (base := base) T
  have G_w_by_rows := ok_by_rowsL (P := P) (w := w) (base := base) T
  refine good_mk T 43 (d := d_w_due) (N := ["_law_clauses", "_law_states", "_law_offsets", "_law_places", "_law_x", "_law_y", "_law_dx", "_law_dy", "_law_found", "_law_around", "_law_state"]) (ps := ["_law_clauses", "_law_states"]) rfl rfl sc_w_due (fun _ _ _ _ _ _ us hl => match us, hl with | [_, _], _ => rfl) (fun vs H Q E h => ?_) (fun f cdv A outer σ0 H vs Q E hr h => ?_)
  · obtain ⟨p, pd, us, cs, kvs, rfl, _⟩ := h; rfl
  · obtain ⟨p, pd, us, cs, kvs, rfl, hp, hall, hcw, hcl, hz, hd, hP, hlen, k⟩ := h
    have hu := hu_of hr
    have hsz := sizeBig
    refine ⟨_, (pss_cons (ps_set (i := 2) sc_w_due.nd rfl (Or.inl rfl) (pe_lst (pa_cons (pe_tup (pa_cons (pe_un un_neg pe_int) (pa_cons (pe_un un_neg pe_int) pa_nil))) (pa_cons (pe_tup (pa_cons pe_int (pa_cons (pe_un un_neg pe_int) pa_nil))) (pa_cons (pe_tup (pa_cons pe_int (pa_cons (pe_un un_neg pe_int) pa_nil))) (pa_cons (pe_tup (pa_cons (pe_un un_neg pe_int) (pa_cons pe_int pa_nil))) (pa_cons (pe_tup (pa_cons pe_int (pa_cons pe_int pa_nil))) (pa_cons (pe_tup (pa_cons (pe_un un_neg pe_int) (pa_cons pe_int pa_nil))) (pa_cons (pe_tup (pa_cons pe_int (pa_cons pe_int pa_nil))) (pa_cons (pe_tup (pa_cons pe_int (pa_cons pe_int pa_nil))) pa_nil))))))))))
      (pss_cons (ps_set (i := 3) sc_w_due.nd rfl (Or.inl rfl) pe_dnewT)
      (pss_cons (ps_lock (ps_for PassesOwn.never rfl (pi_keys (pv 1)) (pg_tup rfl (pgs_cons (pg_name (i := 4) sc_w_due.nd rfl (Or.inr rfl)) (pgs_cons (pg_name (i := 5) sc_w_due.nd rfl (Or.inr rfl)) pgs_nil))) (pss_one (ps_for PassesOwn.never rfl (pi_listK K rfl (pe_op op_cat (pv 2) (pe_lst (pa_cons (pe_tup (pa_cons pe_int (pa_cons pe_int pa_nil))) pa_nil)))) (pg_tup rfl (pgs_cons (pg_name (i := 6) sc_w_due.nd rfl (Or.inl rfl)) (pgs_cons (pg_name (i := 7) sc_w_due.nd rfl (Or.inl rfl)) pgs_nil))) (pss_one (ps_dput hu (pv 3) (pe_tup (pa_cons (pe_op op_add (pv 4) (pv 6)) (pa_cons (pe_op op_add (pv 5) (pv 7)) pa_nil))) pe_bl rfl))))))
      (pss_cons (ps_set (i := 8) sc_w_due.nd rfl (Or.inl rfl) (pe_lst pa_nil))
      (pss_cons (ps_lock (ps_for PassesOwn.never rfl (pi_keys (pv 3)) (pg_tup rfl (pgs_cons (pg_name (i := 4) sc_w_due.nd rfl (Or.inr rfl)) (pgs_cons (pg_name (i := 5) sc_w_due.nd rfl (Or.inr rfl)) pgs_nil))) (pss_cons (ps_setLc (i := 9) (own := [("_law_dx", 6), ("_law_dy", 7)]) (tt := tYes) rfl sc_w_due.nd rfl rfl (sw_true rfl rfl rfl (by decide +kernel)) (pi_listK K rfl (pv 2)) (blkOk_by (own := [("_law_dx", 6), ("_law_dy", 7)]) (N := ["_law_clauses", "_law_states", "_law_offsets", "_law_places", "_law_x", "_law_y", "_law_dx", "_law_dy", "_law_found", "_law_around", "_law_state"]) (sc := defScope st_w_due) (by decide +kernel)) (fun _ _ _ _ _ => by exact (pg_tupK K rfl (n := 2) rfl (pgs_cons (pg_name (i := 6) sc_w_due.nd rfl (Or.inl rfl)) (pgs_cons (pg_name (i := 7) sc_w_due.nd rfl (Or.inl rfl)) pgs_nil)))) (fun _ _ _ _ _ => by exact pts_nil) (fun _ _ _ _ _ => by exact (pe_dget2 hu (pv 1) (pe_tup (pa_cons (pe_op op_add (pv 4) (pv 6)) (pa_cons (pe_op op_add (pv 5) (pv 7)) pa_nil))) pe_int ⟨rfl, rfl, rfl, rfl⟩)))
      (pss_cons (ps_set (i := 10) sc_w_due.nd rfl (Or.inl rfl) (pe_cgK K rfl G_w_becomes (hr.mono (by decide)) (T.glo 43) (pa_cons (pv 0) (pa_cons (pe_dget2 hu (pv 1) (pe_tup (pa_cons (pv 4) (pa_cons (pv 5) pa_nil))) pe_int ⟨rfl, rfl, rfl, rfl⟩) (pa_cons (pv 9) pa_nil)))))
      (pss_one (ps_if (pt_cmpR op_ne (pv 10) pe_int (nomark _)) (pss_one (ps_expr (pe_bm PySem.F.plainAttrs_list PySem.F.slot_list_append PySem.F.type_list_append mt_append (pv 8) (pa_cons (pe_tup (pa_cons (pv 4) (pa_cons (pv 5) (pa_cons (pv 10) pa_nil)))) pa_nil)))) pss_nil))))))
      (pss_one (ps_ret (pe_callBK (cr_sortByK K rfl G_w_by_rows (hr.mono (by decide))) (by rfl) (T.free 33) (by decide +kernel) (pa_cons (pv 8) pa_nil) (pk_cons (pe_grefK K rfl (T.glo 50) rfl) pk_nil))))))))), ?_⟩
    walk_at "rd"
    refine rd_new (hn := by show 2 ≤ sizeLine; decide) fun o1 h1 => ?_
    have s1 := same_upd (o := .tup [V.int (-1), V.int (-1)]) h1
    have U1 : (upd H o1 (.tup [V.int (-1), V.int (-1)])) o1 = some (.tup (([-1, -1] : List Int).map V.int)) := upd_same
    generalize upd H o1 (.tup [V.int (-1), V.int (-1)]) = H1 at *
    walk_at "rd"
    refine rd_new (hn := by show 2 ≤ sizeLine; decide) fun o2 h2 => ?_
    have s2 := same_upd (o := .tup [V.int 0, V.int (-1)]) h2
    have U2 : (upd H1 o2 (.tup [V.int 0, V.int (-1)])) o2 = some (.tup (([0, -1] : List Int).map V.int)) := upd_same
    generalize upd H1 o2 (.tup [V.int 0, V.int (-1)]) = H2 at *
    walk_at "rd"
    refine rd_new (hn := by show 2 ≤ sizeLine; decide) fun o3 h3 => ?_
    have s3 := same_upd (o := .tup [V.int 1, V.int (-1)]) h3
    have U3 : (upd H2 o3 (.tup [V.int 1, V.int (-1)])) o3 = some (.tup (([1, -1] : List Int).map V.int)) := upd_same
    generalize upd H2 o3 (.tup [V.int 1, V.int (-1)]) = H3 at *
    walk_at "rd"
    refine rd_new (hn := by show 2 ≤ sizeLine; decide) fun o4 h4 => ?_
    have s4 := same_upd (o := .tup [V.int (-1), V.int 0]) h4
    have U4 : (upd H3 o4 (.tup [V.int (-1), V.int 0])) o4 = some (.tup (([-1, 0] : List Int).map V.int)) := upd_same
    generalize upd H3 o4 (.tup [V.int (-1), V.int 0]) = H4 at *
    walk_at "rd"
    refine rd_new (hn := by show 2 ≤ sizeLine; decide) fun o5 h5 => ?_
    have s5 := same_upd (o := .tup [V.int 1, V.int 0]) h5
    have U5 : (upd H4 o5 (.tup [V.int 1, V.int 0])) o5 = some (.tup (([1, 0] : List Int).map V.int)) := upd_same
    generalize upd H4 o5 (.tup [V.int 1, V.int 0]) = H5 at *
    walk_at "rd"
    refine rd_new (hn := by show 2 ≤ sizeLine; decide) fun o6 h6 => ?_
    have s6 := same_upd (o := .tup [V.int (-1), V.int 1]) h6
    have U6 : (upd H5 o6 (.tup [V.int (-1), V.int 1])) o6 = some (.tup (([-1, 1] : List Int).map V.int)) := upd_same
    generalize upd H5 o6 (.tup [V.int (-1), V.int 1]) = H6 at *
    walk_at "rd"
    refine rd_new (hn := by show 2 ≤ sizeLine; decide) fun o7 h7 => ?_
    have s7 := same_upd (o := .tup [V.int 0, V.int 1]) h7
    have U7 : (upd H6 o7 (.tup [V.int 0, V.int 1])) o7 = some (.tup (([0, 1] : List Int).map V.int)) := upd_same
    generalize upd H6 o7 (.tup [V.int 0, V.int 1]) = H7 at *
    walk_at "rd"
    refine rd_new (hn := by show 2 ≤ sizeLine; decide) fun o8 h8 => ?_
    have s8 := same_upd (o := .tup [V.int 1, V.int 1]) h8
    have U8 : (upd H7 o8 (.tup [V.int 1, V.int 1])) o8 = some (.tup (([1, 1] : List Int).map V.int)) := upd_same
    generalize upd H7 o8 (.tup [V.int 1, V.int 1]) = H8 at *
    walk_at "rd"
    refine rd_new (hn := by show 8 ≤ sizeLine; decide) fun po hpo => ?_
    have s9 := same_upd (o := .lst [V.ref o1, V.ref o2, V.ref o3, V.ref o4, V.ref o5, V.ref o6, V.ref o7, V.ref o8]) hpo
    have O9 : (upd H8 po (.lst [V.ref o1, V.ref o2, V.ref o3, V.ref o4, V.ref o5, V.ref o6, V.ref o7, V.ref o8])) po = some (.lst ([o1, o2, o3, o4, o5, o6, o7, o8].map V.ref)) := upd_same
    have T9 : TR (upd H8 po (.lst [V.ref o1, V.ref o2, V.ref o3, V.ref o4, V.ref o5, V.ref o6, V.ref o7, V.ref o8])) [o1, o2, o3, o4, o5, o6, o7, o8] off8 := by
      have t8 := s9
      have t7 := s8.trans t8
      have t6 := s7.trans t7
      have t5 := s6.trans t6
      have t4 := s5.trans t5
      have t3 := s4.trans t4
      have t2 := s3.trans t3
      have t1 := s2.trans t2
      exact ⟨t1 _ _ U1, t2 _ _ U2, t3 _ _ U3, t4 _ _ U4, t5 _ _ U5, t6 _ _ U6, t7 _ _ U7, t8 _ _ U8, trivial⟩
    have S9 : Same H (upd H8 po (.lst [V.ref o1, V.ref o2, V.ref o3, V.ref o4, V.ref o5, V.ref o6, V.ref o7, V.ref o8])) := (((((((s1.trans s2).trans s3).trans s4).trans s5).trans s6).trans s7).trans s8).trans s9
    generalize upd H8 po (.lst [V.ref o1, V.ref o2, V.ref o3, V.ref o4, V.ref o5, V.ref o6, V.ref o7, V.ref o8]) = H9 at *
    clear h1 h2 h3 h4 h5 h6 h7 h8 U1 U2 U3 U4 U5 U6 U7 U8 s1 s2 s3 s4 s5 s6 s7 s8 s9
    have d9 := S9 _ _ hd
    walk_at "rd"
    intro pf hpf
    have s10 := same_upd (o := HO.dT []) hpf
    have F10 : (upd H9 pf (.dT [])) pf = some (.dT []) := upd_same
    have S10 := S9.trans s10
    have d10 := s10 _ _ d9
    have O10 := s10 _ _ O9
    have T10 := T9.keep (Tup.of s10)
    have hpf0 : H pf = none := none_of S9 hpf
    generalize upd H9 pf (HO.dT []) = H10 at *
    walk_at "rd"
    refine ⟨pd, .dT kvs, d10, trivial, fun od => ?_⟩
    have FZ : (upd H10 pd (.frz od (.dT kvs))) pd = some (.frz od (.dT kvs)) := upd_same
    have npd : ∀ {b o}, H10 b = some o → (∀ ks, o ≠ .dT ks) ∨ H b = none → b ≠ pd := fun {b o} e c z => by
      rcases c with c | c
      · rw [z, d10] at e; cases e; exact c _ rfl
      · rw [z, hd] at c; cases c
    have F11 : (upd H10 pd (.frz od (.dT kvs))) pf = some (.dT []) := by rw [upd_ne (npd F10 (.inr hpf0))]; exact F10
    have O11 : (upd H10 pd (.frz od (.dT kvs))) po = some (.lst ([o1, o2, o3, o4, o5, o6, o7, o8].map V.ref)) := by rw [upd_ne (npd O10 (.inl fun _ z => by cases z))]; exact O10
    have T11 : TR (upd H10 pd (.frz od (.dT kvs))) [o1, o2, o3, o4, o5, o6, o7, o8] off8 := T10.keep fun b ys e => by rw [upd_ne (npd e (.inl fun _ z => by cases z))]; exact e
    have fr11 : ∀ b o, H b = some o → b ≠ pd → (upd H10 pd (.frz od (.dT kvs))) b = some o := fun b o e n => by rw [upd_ne n]; exact S10 _ _ e
    generalize upd H10 pd (.frz od (.dT kvs)) = H11 at *
    walk_at "rd"
    refine rd_iK ?_
    walk_at "rd"
    refine ⟨pd, od, rfl, .inr ⟨kvs, FZ, ?_⟩⟩
    have FZ0 : H pd ≠ none := by rw [hd]; exact fun z => by cases z
    refine for_it (walk_keysT (kvs := kvs)) (fun i σ Hx => ∃ (kf : List (List Key × V)) (x4 x5 x6 x7 : Option V), σ = [some (.ref p), some (.ref pd), some (.ref po), some (.ref pf), x4, x5, x6, x7, none, none, none] ∧ (∀ b o, H b = some o → b ≠ pd → Hx b = some o) ∧ Hx pd = some (.frz od (.dT kvs)) ∧ Hx po = some (.lst ([o1, o2, o3, o4, o5, o6, o7, o8].map V.ref)) ∧ TR Hx [o1, o2, o3, o4, o5, o6, o7, o8] off8 ∧ Hx pf = some (.dT kf) ∧ PairA kf ∧ NearD ((kvs.take i).map kpl) kf ∧ kf.length ≤ 9 * i) ⟨[], none, none, none, none, rfl, fr11, FZ, O11, T11, F11, PairA.nil, fun c hc => by simp at hc, by simp⟩ (fun i σ Hx _ hx => by
      obtain ⟨_, _, _, _, _, _, _, hx, _⟩ := hx
      exact hx) ?_ ?_
    · rintro i v σ Ha Hb hi ⟨kf, x4, x5, x6, x7, rfl, fr, FZ, O, TO, F, PF, NF, kl⟩ ⟨rfl, kk, v0, tt, hk, rfl, ht⟩
      obtain ⟨x, y, s, e⟩ := hP.2 _ (List.mem_of_getElem? hk)
      simp only [Prod.mk.injEq] at e
      obtain ⟨rfl, rfl⟩ := e
      have ht' : Hb tt = some (.tup [V.int x, V.int y]) := ht
      refine ⟨tt, _, rfl, SqT.of ht', rfl, ?_⟩
      walk_at "rd"
      refine rd_new (hn := by show 2 ≤ sizeLine; decide) fun oz hoz => ?_
      have s12 := same_upd (o := .tup [V.int 0, V.int 0]) hoz
      have Z12 : (upd Hb oz (.tup [V.int 0, V.int 0])) oz = some (.tup (([0, 0] : List Int).map V.int)) := upd_same
      have O12 := s12 _ _ O
      have F12 := s12 _ _ F
      have FZ12 := s12 _ _ FZ
      have TO12 := TO.keep (Tup.of s12)
      have fr12 : ∀ b o, H b = some o → b ≠ pd → (upd Hb oz (.tup [V.int 0, V.int 0])) b = some o := fun b o e n => s12 _ _ (fr b o e n)
      generalize upd Hb oz (.tup [V.int 0, V.int 0]) = H12 at *
      walk_at "rd"
      refine rd_new (hn := by show 1 ≤ sizeLine; decide) fun pz hpz => ?_
      have s13 := same_upd (o := .lst [V.ref oz]) hpz
      have P13 : (upd H12 pz (.lst [V.ref oz])) pz = some (.lst ([oz].map V.ref)) := upd_same
      have Z13 := s13 _ _ Z12
      have O13 := s13 _ _ O12
      have F13 := s13 _ _ F12
      have FZ13 := s13 _ _ FZ12
      have TO13 := TO12.keep (Tup.of s13)
      have fr13 : ∀ b o, H b = some o → b ≠ pd → (upd H12 pz (.lst [V.ref oz])) b = some o := fun b o e n => s13 _ _ (fr12 b o e n)
      generalize upd H12 pz (.lst [V.ref oz]) = H13 at *
      walk_at "rd"
      refine ⟨po, pz, _, _, rfl, rfl, O13, P13, (show (9 : Nat) ≤ sizeLine from (by omega)), fun pc hpc => ?_⟩
      have s14 := same_upd (o := .lst ([o1, o2, o3, o4, o5, o6, o7, o8].map V.ref ++ [oz].map V.ref)) hpc
      have P14 : (upd H13 pc (.lst ([o1, o2, o3, o4, o5, o6, o7, o8].map V.ref ++ [oz].map V.ref))) pc = some (.lst ([o1, o2, o3, o4, o5, o6, o7, o8, oz].map V.ref)) := upd_same
      have O14 := s14 _ _ O13
      have F14 := s14 _ _ F13
      have FZ14 := s14 _ _ FZ13
      have TO14 := TO13.keep (Tup.of s14)
      have TC14 : TR (upd H13 pc (.lst ([o1, o2, o3, o4, o5, o6, o7, o8].map V.ref ++ [oz].map V.ref))) [o1, o2, o3, o4, o5, o6, o7, o8, oz] off9 := TR.app (s14 _ _ Z13) TO14
      have fr14 : ∀ b o, H b = some o → b ≠ pd → (upd H13 pc (.lst ([o1, o2, o3, o4, o5, o6, o7, o8].map V.ref ++ [oz].map V.ref))) b = some o := fun b o e n => s14 _ _ (fr13 b o e n)
      generalize upd H13 pc (.lst ([o1, o2, o3, o4, o5, o6, o7, o8].map V.ref ++ [oz].map V.ref)) = H14 at *
      clear s12 s13 s14 Z12 Z13 O12 O13 F12 F13 FZ12 FZ13 TO12 TO13 fr12 fr13 P13 hoz hpz
      walk_at "rd"
      refine ⟨pc, rfl, ⟨_, SqL.of P14⟩, ?_⟩
      refine for_it (walk_list (K := K) (a := pc) (xs := [o1, o2, o3, o4, o5, o6, o7, o8, oz].map V.ref)) (fun j σ Hx => ∃ (kg : List (List Key × V)) (x6 x7 : Option V), σ = [some (.ref p), some (.ref pd), some (.ref po), some (.ref pf), some (.int x), some (.int y), x6, x7, none, none, none] ∧ (∀ b o, H b = some o → b ≠ pd → Hx b = some o) ∧ Hx pd = some (.frz od (.dT kvs)) ∧ Hx po = some (.lst ([o1, o2, o3, o4, o5, o6, o7, o8].map V.ref)) ∧ TR Hx [o1, o2, o3, o4, o5, o6, o7, o8] off8 ∧ Hx pc = some (.lst ([o1, o2, o3, o4, o5, o6, o7, o8, oz].map V.ref)) ∧ TR Hx [o1, o2, o3, o4, o5, o6, o7, o8, oz] off9 ∧ Hx pf = some (.dT kg) ∧ PairA kg ∧ NearD ((kvs.take i).map kpl) kg ∧ (∀ o ∈ off9.take j, kxy (x + o.getD 0 0) (y + o.getD 1 0) ∈ kg.map Prod.fst) ∧ kg.length ≤ 9 * i + j) ⟨kf, x6, x7, rfl, fr14, FZ14, O14, TO14, P14, TC14, F14, PF, NF, fun o ho => by simp at ho, by omega⟩ (fun j σ Hx _ h => by
        obtain ⟨_, _, _, _, _, _, _, _, h, _⟩ := h
        exact SqL.of h) ?_ ?_
      · rintro j v σ Ha' Hb' hj ⟨kg, x6, x7, rfl, fr, FZ, O, TO, PC, TC, F, PF, NF, MO, kl⟩ ⟨rfl, hv⟩
        have hj9 : j < 9 := hj
        obtain ⟨r', hr2⟩ : ∃ r', [o1, o2, o3, o4, o5, o6, o7, o8, oz][j]? = some r' := ⟨_, List.getElem?_eq_getElem hj9⟩
        obtain ⟨o, ho, to⟩ := TC.get hr2
        rw [List.getElem?_map, hr2] at hv
        cases hv
        obtain ⟨ox, oy, rfl⟩ : ∃ ox oy, o = [ox, oy] := by
          have hm := List.mem_of_getElem? ho
          simp only [off9, off8, List.cons_append, List.nil_append, List.mem_cons, List.not_mem_nil, or_false] at hm
          rcases hm with rfl | rfl | rfl | rfl | rfl | rfl | rfl | rfl | rfl <;> exact ⟨_, _, rfl⟩
        have to3 : Hb' r' = some (.tup [V.int ox, V.int oy]) := to
        refine ⟨r', _, rfl, SqT.of to3, rfl, ?_⟩
        walk_at "rd"
        refine rd_new (hn := by show 2 ≤ sizeLine; decide) fun u2 hu2 => ?_
        have s5 := same_upd (o := .tup [V.int (x + ox), V.int (y + oy)]) hu2
        have U5 : (upd Hb' u2 (.tup [V.int (x + ox), V.int (y + oy)])) u2 = some (.tup ((kxy (x + ox) (y + oy)).map kV)) := upd_same
        have F5 := s5 _ _ F
        have FZ5 := s5 _ _ FZ
        have O5 := s5 _ _ O
        have PC5 := s5 _ _ PC
        have TO5 := TO.keep (Tup.of s5)
        have TC5 := TC.keep (Tup.of s5)
        have fr5 : ∀ b o, H b = some o → b ≠ pd → (upd Hb' u2 (.tup [V.int (x + ox), V.int (y + oy)])) b = some o := fun b o e n => s5 _ _ (fr b o e n)
        generalize upd Hb' u2 (.tup [V.int (x + ox), V.int (y + oy)]) = H5 at *
        walk_at "rd"
        refine ⟨pf, _, rfl, DPut.t (k := kxy (x + ox) (y + oy)) F5 U5 (by omega), ?_⟩
        have L5 := length_putA kg (kxy (x + ox) (y + oy)) (.bl true)
        have nf : ∀ {b o}, H5 b = some o → (∀ ks, o ≠ .dT ks) → b ≠ pf := fun {b o} e c z => by rw [z, F5] at e; cases e; exact c _ rfl
        refine ⟨_, _, _, rfl, fun b o e n => ?_, ?_, ?_, ?_, ?_, ?_, upd_same, PF.put _ _ _, fun c hc => ⟨keys_put (.inl (NF c hc).1), fun o ho => keys_put (.inl ((NF c hc).2 o ho))⟩, fun o' ho' => ?_, by omega⟩
        · rw [upd_ne (fun z => by rw [z, hpf0] at e; cases e)]; exact fr5 b o e n
        · rw [upd_ne (nf FZ5 fun _ z => by cases z)]; exact FZ5
        · rw [upd_ne (nf O5 fun _ z => by cases z)]; exact O5
        · exact TO5.keep fun b ys e => by rw [upd_ne (nf e fun _ z => by cases z)]; exact e
        · rw [upd_ne (nf PC5 fun _ z => by cases z)]; exact PC5
        · exact TC5.keep fun b ys e => by rw [upd_ne (nf e fun _ z => by cases z)]; exact e
        · rw [take_snoc ho] at ho'
          rcases List.mem_append.mp ho' with z | z
          · exact keys_put (.inl (MO o' z))
          · rw [List.mem_singleton.mp z]
            exact keys_put (.inr rfl)
      · rintro σ H6 ⟨kg, x6, x7, rfl, fr, FZ, O, TO, PC, TC, F, PF, NF, MO, kl⟩
        have e9 : ([o1, o2, o3, o4, o5, o6, o7, o8, oz].map V.ref).length = 9 := rfl
        rw [e9] at MO kl
        have ek : (kvs.take (i + 1)).map kpl = (kvs.take i).map kpl ++ [(x, y)] := by
          rw [take_snoc hk, List.map_append]; rfl
        refine ⟨kg, _, _, _, _, rfl, fr, FZ, O, TO, F, PF, fun c' hc' => ?_, by omega⟩
        rw [ek] at hc'
        rcases List.mem_append.mp hc' with z | z
        · exact NF c' z
        · rw [List.mem_singleton.mp z]
          refine ⟨?_, fun o ho => MO o (List.mem_append_left _ ho)⟩
          have := MO [0, 0] (by decide)
          have e1 : x + ([0, 0] : List Int).getD 0 0 = x := Int.add_zero x
          have e2 : y + ([0, 0] : List Int).getD 1 0 = y := Int.add_zero y
          rw [e1, e2] at this
          exact this
    rintro σ H2 ⟨kf, x4, x5, x6, x7, rfl, fr, FZ, O, TO, F, PF, NF, kl⟩
    rw [List.take_length] at NF
    have sF : Same H (upd H2 pd (.dT kvs)) := fun b o e => by
      by_cases z : b = pd
      · rw [z, hd] at e; cases e; rw [z]; exact upd_same
      · rw [upd_ne z]; exact fr b o e z
    have nF : ∀ {b o}, H2 b = some o → (∀ oo dd, o ≠ .frz oo dd) → b ≠ pd := fun {b o} e c z => by rw [z, FZ] at e; cases e; exact c _ _ rfl
    have OF : (upd H2 pd (.dT kvs)) po = some (.lst ([o1, o2, o3, o4, o5, o6, o7, o8].map V.ref)) := by rw [upd_ne (nF O fun _ _ z => by cases z)]; exact O
    have FF : (upd H2 pd (.dT kvs)) pf = some (.dT kf) := by rw [upd_ne (nF F fun _ _ z => by cases z)]; exact F
    have TF : TR (upd H2 pd (.dT kvs)) [o1, o2, o3, o4, o5, o6, o7, o8] off8 := TO.keep fun b ys e => by rw [upd_ne (nF e fun _ _ z => by cases z)]; exact e
    refine ⟨FZ, ?_⟩
    generalize upd H2 pd (.dT kvs) = HF at *
    clear fr FZ O TO F nF
    walk_at "rd"
    refine rd_new (hn := by show 0 ≤ sizeLine; decide) fun pl hpl => ?_
    have s3 := same_upd (o := .lst []) hpl
    have L3 : (upd HF pl (.lst [])) pl = some (.lst ([].map V.ref)) := upd_same
    have S3 := sF.trans s3
    have F3 := s3 _ _ FF
    have O3 := s3 _ _ OF
    have T3 := TF.keep (Tup.of s3)
    have hpl0 := none_of sF hpl
    have npl : pl ≠ pf := fun z => by rw [z, FF] at hpl; cases hpl
    have npo : po ≠ pl := fun z => by rw [← z, OF] at hpl; cases hpl
    generalize upd HF pl (.lst []) = H3 at *
    walk_at "rd"
    refine ⟨pf, .dT kf, F3, trivial, fun of => ?_⟩
    have s4 : Same H (upd H3 pf (.frz of (.dT kf))) := Same.put2 S3 hpf0
    have Z4 : (upd H3 pf (.frz of (.dT kf))) pf = some (.frz of (.dT kf)) := upd_same
    have n3 : ∀ {b o}, H3 b = some o → (∀ ks, o ≠ .dT ks) → b ≠ pf := fun {b o} e c z => by rw [z, F3] at e; cases e; exact c _ rfl
    have L4 : (upd H3 pf (.frz of (.dT kf))) pl = some (.lst ([].map V.ref)) := by rw [upd_ne npl]; exact L3
    have O4 : (upd H3 pf (.frz of (.dT kf))) po = some (.lst ([o1, o2, o3, o4, o5, o6, o7, o8].map V.ref)) := by rw [upd_ne (n3 O3 fun _ z => by cases z)]; exact O3
    have T4 : TR (upd H3 pf (.frz of (.dT kf))) [o1, o2, o3, o4, o5, o6, o7, o8] off8 := T3.keep fun b ys e => by rw [upd_ne (n3 e fun _ z => by cases z)]; exact e
    generalize upd H3 pf (.frz of (.dT kf)) = H4 at *
    walk_at "rd"
    refine rd_iK ?_
    walk_at "rd"
    refine ⟨pf, of, rfl, .inr ⟨kf, Z4, ?_⟩⟩
    refine for_it (walk_keysT (kvs := kf)) (fun i σ Hx => ∃ (x4 x5 x9 x10 : Option V) (ro : List Addr), σ = [some (.ref p), some (.ref pd), some (.ref po), some (.ref pf), x4, x5, x6, x7, some (.ref pl), x9, x10] ∧ Same H Hx ∧ Hx pf = some (.frz of (.dT kf)) ∧ Hx po = some (.lst ([o1, o2, o3, o4, o5, o6, o7, o8].map V.ref)) ∧ TR Hx [o1, o2, o3, o4, o5, o6, o7, o8] off8 ∧ Hx pl = some (.lst (ro.map V.ref)) ∧ TR Hx ro ((stepLs cs (dv kvs) ((kf.take i).map kpl)).map c3) ∧ ro.length ≤ i) ⟨x4, x5, none, none, [], rfl, s4, Z4, O4, T4, L4, trivial, Nat.le_refl _⟩ (fun i σ Hx _ hx => by
      obtain ⟨_, _, _, _, _, _, _, hx, _⟩ := hx
      exact hx) ?_ ?_
    · rintro i v σ Ha Hb hi ⟨x4, x5, x9, x10, ro, rfl, sm, FZ, O, TO, Lf, tr, rl⟩ ⟨rfl, kk, v0, tt, hk, rfl, ht⟩
      obtain ⟨x, y, vv, e⟩ := PF.2 _ (List.mem_of_getElem? hk)
      simp only [Prod.mk.injEq] at e
      obtain ⟨rfl, rfl⟩ := e
      have ht' : Hb tt = some (.tup [V.int x, V.int y]) := ht
      have D0 := sm _ _ hd
      refine ⟨tt, _, rfl, SqT.of ht', rfl, ?_⟩
      walk_at "rd"
      refine ⟨po, rfl, ⟨_, SqL.of O⟩, fun D hD => ?_⟩
      refine lc_it (walk_list (K := K) (a := po) (xs := [o1, o2, o3, o4, o5, o6, o7, o8].map V.ref)) (fun k H' => Same Hb H' ∧ H' D = some (.lst (((off8.take k).map fun o => dv kvs (x + o.getD 0 0) (y + o.getD 1 0)).map V.int))) ⟨same_upd hD, upd_same⟩ (fun k H' _ h => SqL.of (h.1 _ _ O)) ?_ ?_
      · rintro k v Ha2 Hb2 hk ⟨s1, LD⟩ ⟨rfl, hv⟩
        have hk8 : k < 8 := hk
        obtain ⟨r', hr2⟩ : ∃ r', [o1, o2, o3, o4, o5, o6, o7, o8][k]? = some r' := ⟨_, List.getElem?_eq_getElem hk8⟩
        obtain ⟨o, ho, to⟩ := TO.get hr2
        rw [List.getElem?_map, hr2] at hv
        cases hv
        obtain ⟨ox, oy, rfl⟩ : ∃ ox oy, o = [ox, oy] := by
          have hm := List.mem_of_getElem? ho
          simp only [off8, List.mem_cons, List.not_mem_nil, or_false] at hm
          rcases hm with rfl | rfl | rfl | rfl | rfl | rfl | rfl | rfl <;> exact ⟨_, _, rfl⟩
        have to2 : Hb2 r' = some (.tup [.int ox, .int oy]) := s1 _ _ to
        have D2 := s1 _ _ D0
        refine ⟨r', _, rfl, SqT.of to2, rfl, ?_⟩
        walk_at "rd"
        refine ⟨rfl, ?_⟩
        walk_at "rd"
        refine rd_dget2S ?_
        walk_at "rd"
        refine ⟨pd, rfl, .inr ⟨kvs, .inl D2⟩, ?_⟩
        walk_at "rd"
        refine rd_new (hn := by show 2 ≤ sizeLine; decide) fun u hu' => ?_
        have s3 := same_upd (o := .tup [V.int (x + ox), V.int (y + oy)]) hu'
        have U3 : (upd Hb2 u (.tup [V.int (x + ox), V.int (y + oy)])) u = some (.tup ((kxy (x + ox) (y + oy)).map kV)) := upd_same
        have D3 := s3 _ _ D2
        have LD3 := s3 _ _ LD
        have s13 := s1.trans s3
        generalize upd Hb2 u (.tup [V.int (x + ox), V.int (y + oy)]) = H3 at *
        walk_at "rd"
        refine ⟨_, DGet.t (k := kxy (x + ox) (y + oy)) D3 U3, ?_⟩
        unfold kxy
        rw [dv_getDS hP]
        refine ⟨_, LD3, by simp only [List.length_map, List.length_take]; exact small1000 (by omega), Same.put2 s13 hD, ?_⟩
        rw [upd_same, take_snoc ho, List.map_append, List.map_append]; rfl
      rintro H5 ⟨s5, LD5⟩
      have LA : H5 D = some (.lst ((arF (dv kvs) x y).map V.int)) := LD5
      have D5 := s5 _ _ D0
      walk_at "rd"
      refine rd_dget2S ?_
      walk_at "rd"
      refine ⟨pd, rfl, .inr ⟨kvs, .inl D5⟩, ?_⟩
      walk_at "rd"
      refine rd_new (hn := by show 2 ≤ sizeLine; decide) fun u hu' => ?_
      have s6 := same_upd (o := .tup [V.int x, V.int y]) hu'
      have U6 : (upd H5 u (.tup [V.int x, V.int y])) u = some (.tup ((kxy x y).map kV)) := upd_same
      have D6 := s6 _ _ D5
      have LA6 := s6 _ _ LA
      have s56 := s5.trans s6
      generalize upd H5 u (.tup [V.int x, V.int y]) = H6 at *
      walk_at "rd"
      refine ⟨_, DGet.t (k := kxy x y) D6 U6, ?_⟩
      unfold kxy
      rw [dv_getDS hP]
      walk_at "rd"
      have sm6 := sm.trans s56
      refine ⟨p, D, us, cs, _, _, rfl, sm6 _ _ hp, hall.imp fun _ _ h => h.same sm6, hcw, hcl, LA6, rfl, fun H8 s8 => ?_⟩
      have s68 := s56.trans s8
      have sm8 := sm.trans s68
      have FZ8 := s68 _ _ FZ
      have O8 := s68 _ _ O
      have L8 := s68 _ _ Lf
      have tr8 := tr.keep (Tup.of s68)
      have TO8 := TO.keep (Tup.of s68)
      have ek : (kf.take (i + 1)).map kpl = (kf.take i).map kpl ++ [(x, y)] := by
        rw [take_snoc hk, List.map_append]; rfl
      have eS := stepLs_snoc cs (dv kvs) ((kf.take i).map kpl) x y
      rw [← ek] at eS
      rw [show ruleMakes cs (dv kvs x y) (arF (dv kvs) x y) = stepA cs (dv kvs) x y from rfl]
      walk_at "rd"
      refine ite_nd (fun hc => ?_) (fun hc => ?_)
      · rw [if_neg hc] at eS
        walk_at "rd"
        refine rd_tyL L8 ?_
        walk_at "rd"
        refine rd_new (hn := by show 3 ≤ sizeLine; decide) fun u2 hu2 => ?_
        have s9 := same_upd (o := .tup [V.int x, V.int y, V.int (stepA cs (dv kvs) x y)]) hu2
        have U9 : (upd H8 u2 (.tup [V.int x, V.int y, V.int (stepA cs (dv kvs) x y)])) u2 = some (.tup ((c3 (x, y, stepA cs (dv kvs) x y)).map V.int)) := upd_same
        have FZ9 := s9 _ _ FZ8
        have O9 := s9 _ _ O8
        have L9 := s9 _ _ L8
        have tr9 := tr8.keep (Tup.of s9)
        have TO9 := TO8.keep (Tup.of s9)
        have sm9 := sm8.trans s9
        generalize upd H8 u2 (.tup [V.int x, V.int y, V.int (stepA cs (dv kvs) x y)]) = H9 at *
        walk_at "rd"
        refine rd_append L9 (by rw [List.length_map]; omega) ?_
        walk_at "rd"
        refine ⟨_, _, _, _, ro ++ [u2], rfl, Same.put2 sm9 hpl0, ?_, ?_, ?_, by rw [upd_same, List.map_append]; rfl, ?_, by rw [List.length_append, List.length_singleton]; omega⟩
        · rw [upd_ne (fun z => by rw [z, L9] at FZ9; cases FZ9)]; exact FZ9
        · rw [upd_ne npo]; exact O9
        · exact TO9.keep (Tup.put L9 _)
        · rw [eS, List.map_append]
          exact (TR.app U9 tr9).keep (Tup.put L9 _)
      · rw [if_pos hc, List.append_nil] at eS
        walk_at "rd"
        refine ⟨_, _, _, _, ro, rfl, sm8, FZ8, O8, TO8, L8, ?_, by omega⟩
        rw [eS]
        exact tr8
    rintro σ H6 ⟨x4, x5, x9, x10, ro, rfl, sm, FZ, O, TO, Lf, tr, rl⟩
    rw [List.take_length] at tr
    have sG : Same H (upd H6 pf (.dT kf)) := Same.put2 sm hpf0
    have nG : ∀ {b o}, H6 b = some o → (∀ oo dd, o ≠ .frz oo dd) → b ≠ pf := fun {b o} e c z => by rw [z, FZ] at e; cases e; exact c _ _ rfl
    have LG : (upd H6 pf (.dT kf)) pl = some (.lst (ro.map V.ref)) := by rw [upd_ne npl]; exact Lf
    have tG : TR (upd H6 pf (.dT kf)) ro ((stepLs cs (dv kvs) (kf.map kpl)).map c3) := tr.keep fun b ys e => by rw [upd_ne (nG e fun _ _ z => by cases z)]; exact e
    refine ⟨FZ, ?_⟩
    generalize upd H6 pf (.dT kf) = HG at *
    walk_at "rd"
    refine rd_ckw ?_
    walk_at "rd"
    refine ⟨pl, ro, stepLs cs (dv kvs) (kf.map kpl), rfl, rfl, SqL.of LG, tG, fun H' rs' p' sm' hp' hl' tr' => ?_⟩
    refine k H' p' _ (sG.trans sm') (none_ofW sG hp') ⟨rs', hl', tr'⟩ (stepsTo_of hz (kpl_nodup PF) fun x y n => ?_)
    have m : (x, y) ∈ kvs.map kpl := List.mem_map.mpr ⟨_, dv_mem hP n, rfl⟩
    exact ⟨kpl_mem (NF _ m).1, fun o ho => kpl_mem ((NF _ m).2 o ho)⟩
end
end JF

/-! ### law k41: drawn heaps in one dict; lists looked at -/
namespace JF
open PySem PySem.Spec PyProof.Rows L2
theorem sqL_dT {K : PySem.W.Frag} {H H' : Hp} {a pd : Addr} {xs : List V} {kvs : List (List Key × V)} (h : SqL K H a xs) (hd : H pd = some (.dT kvs)) (e : ∀ b o, H b = some o → b ≠ pd → H' b = some o) : SqL K H' a xs :=
  h.elim (fun h => .inl (h.elim (fun h => .inl (e _ _ h (fun z => by rw [z, hd] at h; cases h))) fun ⟨o, h⟩ => .inr ⟨o, e _ _ h (fun z => by rw [z, hd] at h; cases h)⟩)) fun h => .inr h
section
variable {P : Program} {w : World} {K : PySem.W.Frag} {mg : Str → Option Value} {base : Heap}
def sp_numF : Sp := fun vs H Q _ => ∃ c : Int, vs = [.int c] ∧ ∀ z : Int, Q (.int z) H
theorem ok_numF (T : Env fa fn K mg) : Good P w K mg base CX0 1 ("_law_number", none) ["_law_cell"] sp_numF := by
  refine good_mk T 44 (d := d_w_number) (N := ["_law_cell"]) (ps := ["_law_cell"]) rfl rfl sc_w_number (fun _ _ _ _ _ _ us hl => match us, hl with | [_], _ => rfl) (fun vs H Q E h => ?_) (fun f cdv A outer σ0 H vs Q E hr h => ?_)
  · obtain ⟨c, rfl, _⟩ := h; rfl
  · obtain ⟨c, rfl, k⟩ := h
    have e29 : (10 : Int) ^ Int.toNat 29 = 100000000000000000000000000000 := by decide
    refine ⟨_, (pss_one (ps_ret (pe_op op_sub (pe_op op_mod (pe_op op_fdivW (pv 0) pe_int) (pe_op op_mulW pe_int (pe_op op_pow pe_int pe_int))) (pe_op op_pow pe_int pe_int)))), ?_⟩
    walk_at "rd"
    refine rd_I (by refine ⟨by decide, by decide, by decide⟩) ?_
    rw [e29]
    walk_at "rd"
    refine rd_I (mid_mul (by decide) (by decide) (by decide) (by decide)) ?_
    walk_at "rd"
    refine rd_I (by refine ⟨by decide, by decide, by decide⟩) ?_
    walk_at "rd"
    exact k _
def sp_heapM (K : PySem.W.Frag) : Sp := fun vs H Q _ => ∃ (a pd : Addr) (ns : List Int) (f l t : Int) (kvs : List (List Key × V)), vs = [.ref a, .int f, .int l, .int t, .ref pd] ∧ SqL K H a (ns.map V.int) ∧ 0 ≤ f ∧ H pd = some (.dT kvs) ∧ PairD kvs ∧ kvs.length ≤ 100 ∧
  ∀ H' kf, (∀ b o, H b = some o → b ≠ pd → H' b = some o) → H' pd = some (.dT kf) → PairD kf → kf.length ≤ kvs.length + 8 → Q .non H'
theorem mp_heapM : MonP (sp_heapM K) := fun vs H Q Q' E h ⟨a, pd, ns, f, l, t, kvs, x1, x2, x3, x4, x5, x6, k⟩ => ⟨a, pd, ns, f, l, t, kvs, x1, x2, x3, x4, x5, x6, fun H' kf b c d e => h _ _ (k H' kf b c d e)⟩
set_option maxHeartbeats 8000000 in
theorem ok_heapM (T : Env fa fn K mg) : Good P w K mg base CX0 2 ("_law_heap", none) ["_law_script", "_law_first", "_law_left", "_law_top", "_law_states"] (sp_heapM K) := by
  have G_w_at := ok_at (P := P) (w := w) (base := base) T
  have G_w_mix := ok_mix (P := P) (w := w) (base := base) T
  have G_w_state_by := ok_state_by (P := P) (w := w) (base := base) T
  refine good_mk T 42 (d := d_w_heap) (N := ["_law_script", "_law_first", "_law_left", "_law_top", "_law_states", "_law_mains", "_law_k", "_law_value"]) (ps := ["_law_script", "_law_first", "_law_left", "_law_top", "_law_states"]) rfl rfl sc_w_heap (fun _ _ _ _ _ _ us hl => match us, hl with | [_, _, _, _, _], _ => rfl) (fun vs H Q E h => ?_) (fun f cdv A outer σ0 H vs Q E hr h => ?_)
  · obtain ⟨a, pd, ns, f, l, t, kvs, rfl, _⟩ := h; rfl
  · obtain ⟨a, pd, ns, f, l, t, kvs, rfl, hS, f0, hd, hP, hl, k⟩ := h
    have hu := hu_of hr
    refine ⟨_, (pss_cons (ps_set (i := 5) sc_w_heap.nd rfl (Or.inl rfl) (pe_tup (pa_cons (pe_op op_mod (pe_cgK K rfl G_w_at (hr.mono (by decide)) (T.glo 41) (pa_cons (pv 0) (pa_cons pe_int pa_nil))) pe_int) (pa_cons (pe_op op_mod (pe_cgK K rfl G_w_at (hr.mono (by decide)) (T.glo 41) (pa_cons (pv 0) (pa_cons pe_int pa_nil))) pe_int) pa_nil))))
      (pss_one (ps_for PassesOwn.never rfl (pi_range1 (by rfl) (T.free 36) (pa_cons (pe_op op_mod (pe_cgK K rfl G_w_at (hr.mono (by decide)) (T.glo 41) (pa_cons (pv 0) (pa_cons (pv 1) pa_nil))) pe_int) pa_nil)) (pg_name (i := 6) sc_w_heap.nd rfl (Or.inl rfl)) (pss_cons (ps_set (i := 7) sc_w_heap.nd rfl (Or.inl rfl) (pe_cgK K rfl G_w_mix (hr.mono (by decide)) (T.glo 35) (pa_cons (pe_cgK K rfl G_w_at (hr.mono (by decide)) (T.glo 41) (pa_cons (pv 0) (pa_cons (pe_op op_add (pe_op op_add (pv 1) pe_int) (pv 6)) pa_nil))) (pa_cons (pe_op op_add pe_int (pv 6)) pa_nil))))
      (pss_one (ps_dput hu (pv 4) (pe_tup (pa_cons (pe_op op_add (pv 2) (pe_op op_mod (pv 7) pe_int)) (pa_cons (pe_op op_add (pv 3) (pe_op op_mod (pe_op op_fdivW (pv 7) pe_int) pe_int)) pa_nil))) (pe_callB (call_max2 rfl) (by rfl) (T.free 49) (by decide +kernel) (pa_cons pe_int (pa_cons (pe_cgK K rfl G_w_state_by (hr.mono (by decide)) (T.glo 37) (pa_cons (pv 5) (pa_cons (pe_op op_fdivW (pv 7) pe_int) pa_nil))) pa_nil))) rfl)))))), ?_⟩
    walk_at "rd"
    refine rd_at hS (by decide) ?_
    walk_at "rd"
    refine rd_at hS (by decide) ?_
    walk_at "rd"
    generalize hx0 : atN ns (Int.toNat 0) % 8 = a0
    generalize hx1 : atN ns (Int.toNat 1) % 8 = a1
    have st0 : St a0 := ⟨by omega, by omega⟩
    have st1 : St a1 := ⟨by omega, by omega⟩
    refine rd_new (hn := by show 2 ≤ sizeLine; decide) fun pt hpt => ?_
    have s0 := same_upd (o := .tup [V.int a0, V.int a1]) hpt
    have T0 : (upd H pt (.tup [V.int a0, V.int a1])) pt = some (.tup [V.int a0, V.int a1]) := upd_same
    have D0 := s0 _ _ hd
    have hS0 := sqL_on hS fun o e => s0 _ _ e
    have npt : pt ≠ pd := fun z => by rw [z, hd] at hpt; cases hpt
    generalize upd H pt (.tup [V.int a0, V.int a1]) = H0 at *
    walk_at "rd"
    refine rd_at hS0 f0 ?_
    walk_at "rd"
    obtain ⟨m, hm⟩ := nat_of (Int.emod_nonneg (atN ns f.toNat) (show (9 : Int) ≠ 0 by decide))
    rw [hm]
    refine ⟨(m : Int), rfl, by omega, by omega, ?_⟩
    rw [Int.toNat_natCast]
    refine for_it (walk_r0 (n := m)) (fun i σ H' => ∃ (kf : List (List Key × V)) (x6 x7 : Option V), σ = [some (.ref a), some (.int f), some (.int l), some (.int t), some (.ref pd), some (.ref pt), x6, x7] ∧ (∀ b o, H0 b = some o → b ≠ pd → H' b = some o) ∧ H' pd = some (.dT kf) ∧ PairD kf ∧ kf.length ≤ kvs.length + i) ⟨kvs, none, none, rfl, fun _ _ e _ => e, D0, hP, Nat.le_refl _⟩ (fun _ _ _ _ _ => trivial) ?_ ?_
    · rintro i v σ Ha Hb hi ⟨kf, x6, x7, rfl, fr, D, hP, kl⟩ ⟨rfl, rfl⟩
      have Tb := fr _ _ T0 npt
      have hSb := sqL_dT hS0 D0 fr
      walk_at "rd"
      refine rd_at hSb (by omega) ?_
      walk_at "rd"
      refine ⟨_, _, rfl, by omega, by omega, fun z z0 z1 => ?_⟩
      walk_at "rd"
      refine ⟨pt, a0, a1, _, rfl, Tb, st0, st1, fun s hs => ?_⟩
      walk_at "rd"
      rw [max_if]
      walk_at "rd"
      refine rd_new (hn := by show 2 ≤ sizeLine; decide) fun t1 ht1 => ?_
      have s8 := same_upd (o := HO.tup [V.int (l + z % 5), V.int (t + z / 5 % 4)]) ht1
      have U8 : (upd Hb t1 (HO.tup [V.int (l + z % 5), V.int (t + z / 5 % 4)])) t1 = some (.tup (([Sum.inl (l + z % 5), Sum.inl (t + z / 5 % 4)] : List Key).map kV)) := upd_same
      have D8 := s8 _ _ D
      generalize upd Hb t1 (HO.tup [V.int (l + z % 5), V.int (t + z / 5 % 4)]) = H8 at *
      walk_at "rd"
      refine ⟨pd, _, rfl, DPut.t (k := [Sum.inl (l + z % 5), Sum.inl (t + z / 5 % 4)]) D8 U8 (small1000 (by omega)), ?_⟩
      have L7 := length_putS kf [Sum.inl (l + z % 5), Sum.inl (t + z / 5 % 4)] (.int (max 1 s))
      walk_at "rd"
      exact ⟨_, _, _, rfl, fun b o e n => by rw [upd_ne n]; exact s8 _ _ (fr b o e n), upd_same, hP.put _ _ _, by omega⟩
    rintro σ H2 ⟨kf, x6, x7, rfl, fr, D, hP, kl⟩
    walk_at "rd"
    exact k _ kf (fun b o e n => fr b o (s0 _ _ e) n) D hP (by omega)
def sp_rightW : Sp := fun vs H Q _ => ∃ (p p' : Addr) (xs : List (List Int)), vs = [.ref p, .ref p'] ∧ TL H p xs ∧ TL H p' xs ∧ (∀ x ∈ xs, x.length = 3) ∧ xs.length ≤ 5000 ∧ Q (.bl true) H
set_option maxHeartbeats 8000000 in
theorem ok_rightW (T : Env fa fn K mg) : Good P w K mg base CX0 2 ("_law_right", none) ["_law_found", "_law_due_here"] sp_rightW := by
  have G_w_whole := ok_whole (P := P) (w := w) (base := base) T
  refine good_mk T 41 (d := d_w_right) (N := ["_law_found", "_law_due_here", "_law_k"]) (ps := ["_law_found", "_law_due_here"]) rfl rfl sc_w_right (fun _ _ _ _ _ _ us hl => match us, hl with | [_, _], _ => rfl) (fun vs H Q E h => ?_) (fun f cdv A outer σ0 H vs Q E hr h => ?_)
  · obtain ⟨p, p', xs, rfl, _⟩ := h; rfl
  · obtain ⟨p, p', xs, rfl, ⟨rs, h1, h2⟩, ⟨rs', h1', h2'⟩, h3, hl, k⟩ := h
    have rl := h2.len
    have rl' := h2'.len
    refine ⟨_, (pss_cons (ps_if (PW.pt (pw_or (pt_not (pt_val (pe_callB (call_isiK K rfl) (by rfl) (T.free 25) (by decide +kernel) (pa_cons (pv 0) (pa_cons (pe_bltn (v := V.ty "list") rfl (T.free 46) (by decide +kernel) rfl) pa_nil))))) (pw_or1 (pt_cmpR op_ne (pe_callB (call_lenK K rfl) (by rfl) (T.free 11) (by decide +kernel) (pa_cons (pv 0) pa_nil)) (pe_callB (call_lenK K rfl) (by rfl) (T.free 11) (by decide +kernel) (pa_cons (pv 1) pa_nil)) (nomark _))))) (pss_one (ps_ret pe_bl)) pss_nil)
      (pss_cons (ps_for PassesOwn.never rfl (pi_range1 (by rfl) (T.free 36) (pa_cons (pe_callB (call_lenK K rfl) (by rfl) (T.free 11) (by decide +kernel) (pa_cons (pv 1) pa_nil)) pa_nil)) (pg_name (i := 2) sc_w_right.nd rfl (Or.inl rfl)) (pss_cons (ps_if (PW.pt (pw_or (pt_not (pt_val (pe_callB (call_isiK K rfl) (by rfl) (T.free 25) (by decide +kernel) (pa_cons (pe_ix (ix_listK K rfl) (pv 0) (pv 2) (fun _ _ => rfl)) (pa_cons (pe_bltn (v := V.ty "tuple") rfl (T.free 47) (by decide +kernel) rfl) pa_nil))))) (pw_or (pt_cmpR op_ne (pe_callB (call_lenK K rfl) (by rfl) (T.free 11) (by decide +kernel) (pa_cons (pe_ix (ix_listK K rfl) (pv 0) (pv 2) (fun _ _ => rfl)) pa_nil)) pe_int (nomark _)) (pw_or1 (pt_cmpR (op_neDK K rfl hr.units) (pe_ix (ix_listK K rfl) (pv 0) (pv 2) (fun _ _ => rfl)) (pe_ix (ix_listK K rfl) (pv 1) (pv 2) (fun _ _ => rfl)) (nomark _)))))) (pss_one (ps_ret pe_bl)) pss_nil)
      (pss_one (ps_if (PW.pt (pw_or (pt_not (pt_val (pe_cgK K rfl G_w_whole (hr.mono (by decide)) (T.glo 48) (pa_cons (pe_ix (ix_tupK K rfl) (pe_ix (ix_listK K rfl) (pv 0) (pv 2) (fun _ _ => rfl)) pe_int (fun _ _ => rfl)) pa_nil)))) (pw_or (pt_not (pt_val (pe_cgK K rfl G_w_whole (hr.mono (by decide)) (T.glo 48) (pa_cons (pe_ix (ix_tupK K rfl) (pe_ix (ix_listK K rfl) (pv 0) (pv 2) (fun _ _ => rfl)) pe_int (fun _ _ => rfl)) pa_nil)))) (pw_or1 (pt_not (pt_val (pe_cgK K rfl G_w_whole (hr.mono (by decide)) (T.glo 48) (pa_cons (pe_ix (ix_tupK K rfl) (pe_ix (ix_listK K rfl) (pv 0) (pv 2) (fun _ _ => rfl)) pe_int (fun _ _ => rfl)) pa_nil)))))))) (pss_one (ps_ret pe_bl)) pss_nil))))
      (pss_one (ps_ret pe_bl)))), ?_⟩
    walk_at "rd"
    refine isi_ty (.base (.lst h1)) (by decide +kernel : kitB "list" "list" = some true) ?_
    walk_at "rd"
    refine rd_len (SqL.of h1) ?_
    walk_at "rd"
    refine rd_len (SqL.of h1') ?_
    walk_at "rd"
    rw [List.length_map, List.length_map, rl, rl', decide_eq_true rfl]
    walk_at "rd"
    refine rd_len (SqL.of h1') ?_
    walk_at "rd"
    rw [List.length_map, rl']
    refine ⟨((xs.length : Nat) : Int), rfl, by omega, by omega, ?_⟩
    rw [Int.toNat_natCast]
    refine for_it (walk_r0 (n := xs.length)) (fun i σ H' => H' = H ∧ ∃ (x2 : Option V), σ = [some (.ref p), some (.ref p'), x2]) ⟨rfl, none, rfl⟩ (fun _ _ _ _ _ => trivial) ?_ ?_
    · rintro i v σ Ha Hb hi ⟨rfl, x2, rfl⟩ ⟨rfl, rfl⟩
      have mi : rs[i]? = some rs[i] := at_get (by omega)
      have mi' : rs'[i]? = some rs'[i] := at_get (by omega)
      obtain ⟨x, hx, tx⟩ := h2.get mi
      obtain ⟨x', hx', tx'⟩ := h2'.get mi'
      rw [hx] at hx'
      cases hx'
      have lx := h3 x (List.mem_of_getElem? hx)
      obtain ⟨x0, x1, x3, rfl⟩ : ∃ x0 x1 x3, x = [x0, x1, x3] := by
        match x, lx with
        | [x0, x1, x3], _ => exact ⟨_, _, _, rfl⟩
      have a1 : atI (rs.map V.ref) ((i : Nat) : Int) = some (.ref rs[i]) := atI_nat (by rw [List.getElem?_map, mi]; rfl)
      have a2 : atI (rs'.map V.ref) ((i : Nat) : Int) = some (.ref rs'[i]) := atI_nat (by rw [List.getElem?_map, mi']; rfl)
      walk_at "rd"
      refine rd_ixL (SqL.of h1) a1 ?_
      walk_at "rd"
      refine isi_ty (.base (.tup tx)) (by decide +kernel : kitB "tuple" "tuple" = some true) ?_
      walk_at "rd"
      refine rd_ixL (SqL.of h1) a1 ?_
      walk_at "rd"
      refine rd_lenT (SqT.of tx) ?_
      walk_at "rd"
      rw [List.length_map, lx, decide_eq_true (show ((3 : Nat) : Int) = 3 by rfl)]
      walk_at "rd"
      refine rd_ixL (SqL.of h1) a1 ?_
      walk_at "rd"
      refine rd_ixL (SqL.of h1') a2 ?_
      walk_at "rd"
      refine rd_neTI tx tx' ?_
      rw [decide_eq_true rfl]
      walk_at "rd"
      refine rd_ixL (SqL.of h1) a1 ?_
      walk_at "rd"
      refine ⟨_, rfl, .inl ⟨_, rfl⟩, _, rfl, ?_⟩
      refine iteF ?_
      walk_at "rd"
      refine rd_ixL (SqL.of h1) a1 ?_
      walk_at "rd"
      refine ⟨_, rfl, .inl ⟨_, rfl⟩, _, rfl, ?_⟩
      refine iteF ?_
      walk_at "rd"
      refine rd_ixL (SqL.of h1) a1 ?_
      walk_at "rd"
      refine ⟨_, rfl, .inl ⟨_, rfl⟩, _, rfl, ?_⟩
      refine iteF ?_
      walk_at "rd"
      exact ⟨rfl, _, rfl⟩
    rintro σ H' ⟨rfl, x2, rfl⟩
    walk_at "rd"
    exact k
end
end JF

/-! ### law k41 -/
namespace JF
open PySem PySem.Spec PyProof.Rows L2
def lawLevel : Nat := 12
theorem me_listRev {K : PySem.W.Frag} {te : TE} (m : MonE te) : MonE (tListRev K te) := fun σ H Q Q' h q => m _ _ _ _ (fun v H1 ⟨a, xs, e, s, k⟩ => ⟨a, xs, e, s, fun p hp => h _ _ (k p hp)⟩) q
theorem ml_slR {K : PySem.W.Frag} : MonL (rSlL K) := fun x lo hi H Q Q' h ⟨a, xs, e1, e2, q⟩ => ⟨a, xs, e1, e2, fun p hp => h _ _ (q p hp)⟩
theorem cut_lo {xs : List V} {n : Nat} (h : n ≤ xs.length) : cutV xs (some (n : Int)) none = xs.drop n := by
  unfold cutV
  rw [HT.sIx_nat, HT.sIx_none, Nat.min_eq_left h, List.take_of_length_le (by rw [List.length_drop]; exact Nat.le_refl _)]
theorem cut_hi {xs : List V} {n : Nat} (h : n ≤ xs.length) : cutV xs none (some (n : Int)) = xs.take n := by
  unfold cutV
  rw [HT.sIx_nat, HT.sIx_none, Nat.min_eq_left h, List.drop_zero, Nat.sub_zero]
theorem TR.rev {H : Hp} : ∀ {rs : List Addr} {xs : List (List Int)}, TR H rs xs → TR H rs.reverse xs.reverse
  | [], [], _ => trivial
  | _ :: _, _ :: _, h => by rw [List.reverse_cons, List.reverse_cons]; exact TR.app h.1 (TR.rev h.2)
  | [], _ :: _, h => h.elim
  | _ :: _, [], h => h.elim
theorem TR.drop {H : Hp} : ∀ (n : Nat) {rs : List Addr} {xs : List (List Int)}, TR H rs xs → TR H (rs.drop n) (xs.drop n)
  | 0, _, _, h => h
  | _ + 1, [], [], _ => trivial
  | n + 1, _ :: _, _ :: _, h => TR.drop n h.2
  | _ + 1, [], _ :: _, h => h.elim
  | _ + 1, _ :: _, [], h => h.elim
theorem TR.take {H : Hp} : ∀ (n : Nat) {rs : List Addr} {xs : List (List Int)}, TR H rs xs → TR H (rs.take n) (xs.take n)
  | 0, _, _, _ => by rw [List.take_zero, List.take_zero]; trivial
  | _ + 1, [], [], _ => trivial
  | n + 1, _ :: _, _ :: _, h => ⟨h.1, TR.take n h.2⟩
  | _ + 1, [], _ :: _, h => h.elim
  | _ + 1, _ :: _, [], h => h.elim
section
variable {P : Program} {w : World} {K : PySem.W.Frag} {mg : Str → Option Value} {base : Heap}
set_option maxHeartbeats 64000000 in
theorem ok_law (T : Env fa fn K mg) : Good P w K mg base CX0 lawLevel ("law", none) ["_law_script"] (sp_law K) := by
  have G_w_at := ok_at (P := P) (w := w) (base := base) T
  have G_w_clauses_by := ok_clauses_by (P := P) (w := w) (base := base) T
  have G_w_text := ok_text (P := P) (w := w) (base := base) T
  have G_w_number := ok_numF (P := P) (w := w) (base := base) T
  have G_w_heap := ok_heapM (P := P) (w := w) (base := base) T
  have G_w_by_rows := ok_by_rowsL (P := P) (w := w) (base := base) T
  have G_w_due := ok_dueD (P := P) (w := w) (base := base) T
  have G_w_right := ok_rightW (P := P) (w := w) (base := base) T
  have G_read_rule := ok_read_rule (P := P) (w := w) (base := base) T
  have G_stepped := ok_stepped (P := P) (w := w) (base := base) T
  refine good_mk T 45 (d := d_law) (N := ["_law_script", "_law_clauses", "_law_left", "_law_top", "_law_states", "_law_cells", "_law_due_here", "_law_rule", "_law_handed", "_law_found", "_law_place"]) (ps := ["_law_script"]) rfl rfl sc_law (fun _ _ _ _ _ _ us hl => match us, hl with | [_], _ => rfl) (fun vs H Q E h => ?_) (fun f cdv A outer σ0 H vs Q E hr h => ?_)
  · obtain ⟨a, ns, rfl, _⟩ := h; rfl
  · obtain ⟨a0, ns, rfl, hS, hlen, hO, k⟩ := h
    have hu := hu_of hr
    have hsz := sizeBig
    have mp1 := mp_at (K := K)
    refine ⟨_, (pss_cons (ps_set (i := 1) sc_law.nd rfl (Or.inl rfl) (pe_cgK K rfl G_w_clauses_by (hr.mono (by decide)) (T.glo 51) (pa_cons (pv 0) (pa_cons pe_int (pa_cons (pe_op op_mod (pe_cgK K rfl G_w_at (hr.mono (by decide)) (T.glo 41) (pa_cons (pv 0) (pa_cons pe_int pa_nil))) pe_int) pa_nil)))))
      (pss_cons (ps_set (i := 2) sc_law.nd rfl (Or.inl rfl) (pe_cgK K rfl G_w_number (hr.mono (by decide)) (T.glo 52) (pa_cons (pe_cgK K rfl G_w_at (hr.mono (by decide)) (T.glo 41) (pa_cons (pv 0) (pa_cons pe_int pa_nil))) pa_nil)))
      (pss_cons (ps_set (i := 3) sc_law.nd rfl (Or.inl rfl) (pe_cgK K rfl G_w_number (hr.mono (by decide)) (T.glo 52) (pa_cons (pe_cgK K rfl G_w_at (hr.mono (by decide)) (T.glo 41) (pa_cons (pv 0) (pa_cons pe_int pa_nil))) pa_nil)))
      (pss_cons (ps_set (i := 4) sc_law.nd rfl (Or.inr rfl) pe_dnewT)
      (pss_cons (ps_expr (pe_cgK K rfl G_w_heap (hr.mono (by decide)) (T.glo 53) (pa_cons (pv 0) (pa_cons pe_int (pa_cons (pv 2) (pa_cons (pv 3) (pa_cons (pv 4) pa_nil)))))))
      (pss_cons (ps_if (pt_cmpR op_eq (pe_op op_mod (pe_cgK K rfl G_w_at (hr.mono (by decide)) (T.glo 41) (pa_cons (pv 0) (pa_cons pe_int pa_nil))) pe_int) pe_int (nomark _)) (pss_one (ps_expr (pe_cgK K rfl G_w_heap (hr.mono (by decide)) (T.glo 53) (pa_cons (pv 0) (pa_cons pe_int (pa_cons (pe_op op_add (pv 2) (pe_op op_mod (pe_cgK K rfl G_w_at (hr.mono (by decide)) (T.glo 41) (pa_cons (pv 0) (pa_cons pe_int pa_nil))) pe_int)) (pa_cons (pe_op op_sub (pe_op op_add (pv 3) (pe_op op_mod (pe_op op_fdivW (pe_cgK K rfl G_w_at (hr.mono (by decide)) (T.glo 41) (pa_cons (pv 0) (pa_cons pe_int pa_nil))) pe_int) pe_int)) pe_int) (pa_cons (pv 4) pa_nil)))))))) (pss_one (ps_expr (pe_cgK K rfl G_w_heap (hr.mono (by decide)) (T.glo 53) (pa_cons (pv 0) (pa_cons pe_int (pa_cons (pe_cgK K rfl G_w_number (hr.mono (by decide)) (T.glo 52) (pa_cons (pe_cgK K rfl G_w_at (hr.mono (by decide)) (T.glo 41) (pa_cons (pv 0) (pa_cons pe_int pa_nil))) pa_nil)) (pa_cons (pv 3) (pa_cons (pv 4) pa_nil)))))))))
      (pss_cons (ps_set (i := 5) sc_law.nd rfl (Or.inl rfl) (pe_callBK (cr_sortByK K rfl G_w_by_rows (hr.mono (by decide))) (by rfl) (T.free 33) (by decide +kernel) (pa_cons (pe_lock (pe_lc (own := [("_law_place", 10)]) (tt := tYes) rfl sc_law.nd (pi_keys (pv 4)) (blkOk_by (own := [("_law_place", 10)]) (N := ["_law_script", "_law_clauses", "_law_left", "_law_top", "_law_states", "_law_cells", "_law_due_here", "_law_rule", "_law_handed", "_law_found", "_law_place"]) (sc := defScope st_law) (by decide +kernel)) (fun _ _ _ _ _ => by exact (pg_name (i := 10) sc_law.nd rfl (Or.inl rfl))) (fun _ _ _ _ _ => by exact pts_nil) (fun _ _ _ _ _ => by exact (pe_tup (pa_cons (pe_ix (ix_tupK K rfl) (pv 10) pe_int (fun _ _ => rfl)) (pa_cons (pe_ix (ix_tupK K rfl) (pv 10) pe_int (fun _ _ => rfl)) (pa_cons (pe_dget hu (pv 4) (pv 10) (fun _ _ => rfl)) pa_nil))))))) pa_nil) (pk_cons (pe_grefK K rfl (T.glo 50) rfl) pk_nil)))
      (pss_cons (ps_if (pt_cmpR op_eq (pe_op op_mod (pe_cgK K rfl G_w_at (hr.mono (by decide)) (T.glo 41) (pa_cons (pv 0) (pa_cons pe_int pa_nil))) pe_int) pe_int (nomark _)) (pss_one (ps_set (i := 5) sc_law.nd rfl (Or.inl rfl) (pe_listRev rfl (by rfl) (T.free 46) (by rfl) (T.free 54) (pv 5)))) pss_nil)
      (pss_cons (ps_if (pt_cmpR op_eq (pe_op op_mod (pe_cgK K rfl G_w_at (hr.mono (by decide)) (T.glo 41) (pa_cons (pv 0) (pa_cons pe_int pa_nil))) pe_int) pe_int (nomark _)) (pss_one (ps_set (i := 5) sc_law.nd rfl (Or.inl rfl) (pe_op op_cat (pe_slice (sl_listK K rfl) (pv 5) (po_some (pe_op op_fdivW (pe_callB (call_lenK K rfl) (by rfl) (T.free 11) (by decide +kernel) (pa_cons (pv 5) pa_nil)) pe_int)) po_none) (pe_slice (sl_listK K rfl) (pv 5) po_none (po_some (pe_op op_fdivW (pe_callB (call_lenK K rfl) (by rfl) (T.free 11) (by decide +kernel) (pa_cons (pv 5) pa_nil)) pe_int)))))) pss_nil)
      (pss_cons (ps_set (i := 6) sc_law.nd rfl (Or.inl rfl) (pe_cgK K rfl G_w_due (hr.mono (by decide)) (T.glo 55) (pa_cons (pv 1) (pa_cons (pv 4) pa_nil))))
      (pss_cons (ps_set (i := 7) sc_law.nd rfl (Or.inl rfl) (pe_cgK K rfl G_read_rule (hr.mono (by decide)) (T.glo 56) (pa_cons (pe_cgK K rfl G_w_text (hr.mono (by decide)) (T.glo 57) (pa_cons (pv 1) pa_nil)) pa_nil)))
      (pss_cons (ps_set (i := 8) sc_law.nd rfl (Or.inl rfl) (pe_callTy (call_listK K rfl) (by rfl) (T.free 46) (by decide +kernel) (pa_cons (pv 5) pa_nil)))
      (pss_cons (ps_set (i := 9) sc_law.nd rfl (Or.inl rfl) (pe_cgK K rfl G_stepped (hr.mono (by decide)) (T.glo 58) (pa_cons (pv 7) (pa_cons (pv 8) pa_nil))))
      (pss_cons (ps_if (PW.pt (pw_or (pt_cmpR (op_neDK K rfl hr.units) (pv 8) (pv 5) (nomark _)) (pw_or1 (pt_not (pt_val (pe_cgK K rfl G_w_right (hr.mono (by decide)) (T.glo 59) (pa_cons (pv 9) (pa_cons (pv 6) pa_nil)))))))) (pss_one (ps_ret pe_bl)) pss_nil)
      (pss_cons (ps_expr (pe_bm PySem.F.plainAttrs_list PySem.F.slot_list_append PySem.F.type_list_append mt_append (pv 9) (pa_cons (pe_tup (pa_cons pe_int (pa_cons pe_int (pa_cons pe_int pa_nil)))) pa_nil)))
      (pss_one (ps_ret (pe_cgK K rfl G_w_right (hr.mono (by decide)) (T.glo 59) (pa_cons (pe_cgK K rfl G_stepped (hr.mono (by decide)) (T.glo 58) (pa_cons (pv 7) (pa_cons (pv 8) pa_nil))) (pa_cons (pv 6) pa_nil)))))))))))))))))))), ?_⟩
    walk_at "rhi"
    refine rd_at hS (by decide) ?_
    walk_at "rhi"
    refine ⟨a0, ns, 0, _, rfl, hS, by decide, Int.emod_nonneg _ (by decide), by omega, fun H1 l1 us cs s1 L1 C1 z1 n1 => ?_⟩
    have hS1 := sqL_on hS fun o e => s1 _ _ e
    walk_at "rhi"
    refine rd_at hS1 (by decide) ?_
    walk_at "rhi"
    refine ⟨_, rfl, fun lf => ?_⟩
    walk_at "rhi"
    refine rd_at hS1 (by decide) ?_
    walk_at "rhi"
    refine ⟨_, rfl, fun tp => ?_⟩
    walk_at "rhi"
    intro pd hpd
    have s2 := same_upd (o := HO.dT []) hpd
    have D2 : (upd H1 pd (.dT [])) pd = some (.dT []) := upd_same
    have S2 := s1.trans s2
    have L2 := s2 _ _ L1
    have C2 : LClas (upd H1 pd (.dT [])) us cs := ⟨C1.1.imp fun _ _ h => h.same s2, C1.2⟩
    have hS2 := sqL_on hS1 fun o e => s2 _ _ e
    generalize upd H1 pd (HO.dT []) = H2 at *
    walk_at "rhi"
    refine ⟨a0, pd, ns, 10, lf, tp, [], rfl, hS2, by decide, D2, PairD.nil, by decide, fun H3 k3 f3 D3 P3 n3 => ?_⟩
    have hpd1 := hpd
    have keep3 : ∀ b o, H1 b = some o → H3 b = some o := fun b o e => f3 _ _ (s2 _ _ e) (fun z => by rw [z, hpd] at e; cases e)
    have s3 : Same H1 H3 := keep3
    have hS3 := sqL_dT hS2 D2 f3
    clear f3 D2 L2 C2 hS2 S2 s2
    walk_at "rhi"
    refine rd_cut (fun σ Hq => ∃ (kf : List (List Key × V)), σ = [some (.ref a0), some (.ref l1), some (.int lf), some (.int tp), some (.ref pd), none, none, none, none, none, none] ∧ Same H1 Hq ∧ SqL K Hq a0 (ns.map V.int) ∧ Hq pd = some (.dT kf) ∧ PairD kf ∧ kf.length ≤ 16) (by
      have mp2 := mp_heapM (K := K)
      have mp3 : MonP sp_numF := fun vs H Q Q' E h ⟨c, x1, k⟩ => ⟨c, x1, fun z => h _ _ (k z)⟩
      walk_at "mono") ?_ ?_
    · walk_at "rd"
      refine rd_at hS3 (by decide) ?_
      walk_at "rd"
      refine ite_d (fun _ => ?_) (fun _ => ?_)
      · walk_at "rd"
        refine rd_at hS3 (by decide) ?_
        walk_at "rd"
        refine rd_at hS3 (by decide) ?_
        walk_at "rd"
        refine ⟨a0, pd, ns, 20, _, _, k3, rfl, hS3, by decide, D3, P3, by simp at n3; omega, fun H4 k4 f4 D4 P4 n4 => ?_⟩
        walk_at "rd"
        exact ⟨k4, rfl, fun b o e => f4 _ _ (s3 _ _ e) (fun z => by rw [z, hpd1] at e; cases e), sqL_dT hS3 D3 f4, D4, P4, by simp at n3; omega⟩
      · walk_at "rd"
        refine rd_at hS3 (by decide) ?_
        walk_at "rd"
        refine ⟨_, rfl, fun z => ?_⟩
        walk_at "rd"
        refine ⟨a0, pd, ns, 20, _, _, k3, rfl, hS3, by decide, D3, P3, by simp at n3; omega, fun H4 k4 f4 D4 P4 n4 => ?_⟩
        walk_at "rd"
        exact ⟨k4, rfl, fun b o e => f4 _ _ (s3 _ _ e) (fun z => by rw [z, hpd1] at e; cases e), sqL_dT hS3 D3 f4, D4, P4, by simp at n3; omega⟩
    clear hS3 D3 P3 n3 s3 keep3 k3 H3
    rintro σ H2 ⟨kf, rfl, s2, hS2, D2, P2, n2⟩
    walk_at "rhi"
    refine rd_ckw ?_
    walk_at "rhi"
    refine ⟨pd, .dT kf, D2, trivial, fun od => ?_⟩
    have F3 : (upd H2 pd (.frz od (.dT kf))) pd = some (.frz od (.dT kf)) := upd_same
    have s3 : Same H1 (upd H2 pd (.frz od (.dT kf))) := Same.put2 s2 hpd1
    have hS3 : SqL K (upd H2 pd (.frz od (.dT kf))) a0 (ns.map V.int) := sqL_dT hS2 D2 fun b o e n => by rw [upd_ne n]; exact e
    generalize hH3 : upd H2 pd (.frz od (.dT kf)) = H3 at *
    refine rd_lc ?_
    refine rd_iK ?_
    walk_at "rd"
    refine ⟨pd, od, rfl, .inr ⟨kf, F3, fun D hD => ?_⟩⟩
    have hD2 : H2 D = none := by
      have n : D ≠ pd := fun z => by rw [z, F3] at hD; cases hD
      rw [← hH3, upd_ne n] at hD; exact hD
    refine lc_it (walk_keysT (kvs := kf)) (fun i H' => ∃ rs : List Addr, Same H3 H' ∧ H' D = some (.lst (rs.map V.ref)) ∧ TR H' rs (((kf.take i).map cellD).map c3) ∧ rs.length = i) ⟨[], same_upd hD, upd_same, trivial, rfl⟩ (fun i H' _ hx => by
      obtain ⟨rs, sx, _⟩ := hx
      exact sx _ _ F3) ?_ ?_
    · rintro i v Ha Hb hi ⟨rs, sx, LD, tr, rl⟩ ⟨rfl, kk, v0, tt, hk, rfl, ht⟩
      obtain ⟨x, y, s, e⟩ := P2.2 _ (List.mem_of_getElem? hk)
      simp only [Prod.mk.injEq] at e
      obtain ⟨rfl, rfl⟩ := e
      have ht' : Hb tt = some (.tup [V.int x, V.int y]) := ht
      have hvv := mem_valV P2.1 (List.mem_of_getElem? hk)
      have Fz := sx _ _ F3
      walk_at "rd"
      refine ⟨rfl, ?_⟩
      walk_at "rd"
      refine ⟨pd, .int s, rfl, ?_, ?_⟩
      · rw [← hvv]
        exact .inr ⟨kf, _, tt, .inr ⟨od, Fz⟩, rfl, ht, rfl⟩
      walk_at "rd"
      refine rd_new (hn := by show 3 ≤ sizeLine; decide) fun u hu' => ?_
      have s4 := same_upd (o := .tup [V.int x, V.int y, V.int s]) hu'
      have U4 : (upd Hb u (.tup [V.int x, V.int y, V.int s])) u = some (.tup ((c3 (cellD ([Sum.inl x, Sum.inl y], .int s))).map V.int)) := upd_same
      have LD4 := s4 _ _ LD
      have tr4 := tr.keep (Tup.of s4)
      have s34 := sx.trans s4
      generalize upd Hb u (.tup [V.int x, V.int y, V.int s]) = H4 at *
      refine ⟨_, LD4, by rw [List.length_map]; exact small1000 (by omega), rs ++ [u], Same.put2 s34 hD, by rw [upd_same, List.map_append]; rfl, ?_, by rw [List.length_append, rl]; rfl⟩
      rw [take_snoc hk, List.map_append, List.map_append]
      exact (TR.app U4 tr4).keep (Tup.put LD4 _)
    rintro H5 ⟨rs, s5, LD, tr, rl⟩
    rw [List.take_length] at tr
    refine ⟨s5 _ _ F3, ?_⟩
    have s6 : Same H1 (upd H5 pd (.dT kf)) := Same.put2 (s3.trans s5) hpd1
    have n5 : ∀ {b o}, H5 b = some o → (∀ oo dd, o ≠ .frz oo dd) → b ≠ pd := fun {b o} e c z => by rw [z, s5 _ _ F3] at e; cases e; exact c _ _ rfl
    have LD6 : (upd H5 pd (.dT kf)) D = some (.lst (rs.map V.ref)) := by rw [upd_ne (n5 LD fun _ _ z => by cases z)]; exact LD
    have tr6 : TR (upd H5 pd (.dT kf)) rs ((kf.map cellD).map c3) := tr.keep fun b ys e => by rw [upd_ne (n5 e fun _ _ z => by cases z)]; exact e
    have D6 : (upd H5 pd (.dT kf)) pd = some (.dT kf) := upd_same
    have hS6 : SqL K (upd H5 pd (.dT kf)) a0 (ns.map V.int) := by
      have h5 : SqL K H5 a0 (ns.map V.int) := sqL_on hS3 fun o e => s5 _ _ e
      exact h5.elim (fun h => .inl (h.elim (fun h => .inl (by rw [upd_ne (n5 h fun _ _ z => by cases z)]; exact h)) fun ⟨o, h⟩ => .inr ⟨o, by
        by_cases z : a0 = pd
        · rw [z, s5 _ _ F3] at h; cases h
        · rw [upd_ne z]; exact h⟩)) fun h => .inr h
    generalize upd H5 pd (.dT kf) = H6 at *
    clear tr LD s5 n5 hS3 s3 F3 hS2
    walk_at "rhi"
    refine ⟨D, rs, kf.map cellD, rfl, rfl, SqL.of LD6, tr6, fun H7 rs7 p7 s7 hp7 hl7 tr7 => ?_⟩
    have pm7 : ((kf.map cellD).mergeSort ordC).Perm (kf.map cellD) := List.mergeSort_perm _ _
    have ln7 : ((kf.map cellD).mergeSort ordC).length ≤ 16 := by rw [pm7.length_eq, List.length_map]; exact n2
    generalize (kf.map cellD).mergeSort ordC = c7 at *
    have S7 := s6.trans s7
    have D7 := s7 _ _ D6
    have hS7 := sqL_on hS6 fun o e => s7 _ _ e
    clear hp7 tr6 LD6 s7 hS6 D6 s6
    walk_at "rhi"
    refine rd_cut (fun σ Hq => ∃ (p : Addr) (cl : List Cell3), σ = [some (.ref a0), some (.ref l1), some (.int lf), some (.int tp), some (.ref pd), some (.ref p), none, none, none, none, none] ∧ Same H1 Hq ∧ SqL K Hq a0 (ns.map V.int) ∧ Hq pd = some (.dT kf) ∧ TL Hq p (cl.map c3) ∧ cl.Perm (kf.map cellD) ∧ cl.length ≤ 16) (by
      walk_at "mono"
      exact me_listRev (by walk_at "mono")) ?_ ?_
    · walk_at "rd"
      refine rd_at hS7 (by decide) ?_
      walk_at "rd"
      refine ite_d (fun _ => ?_) (fun _ => ?_)
      · walk_at "rd"
        refine ⟨_, rfl, p7, rs7.map V.ref, rfl, SqL.of hl7, fun q hq => ?_⟩
        have s8 := same_upd (o := .lst (rs7.map V.ref).reverse) hq
        walk_at "rd"
        exact ⟨q, c7.reverse, rfl, S7.trans s8, sqL_on hS7 fun o e => s8 _ _ e, s8 _ _ D7, ⟨rs7.reverse, by rw [upd_same, List.map_reverse], by rw [List.map_reverse]; exact (TR.rev tr7).keep (Tup.of s8)⟩, (List.reverse_perm _).trans pm7, by rw [List.length_reverse]; exact ln7⟩
      · walk_at "rd"
        exact ⟨p7, c7, rfl, S7, hS7, D7, ⟨rs7, hl7, tr7⟩, pm7, ln7⟩
    clear S7 hS7 D7 hl7 tr7 pm7 ln7 c7 H7 rs7 p7
    rintro σ H7 ⟨p7, c7, rfl, S7, hS7, D7, ⟨rs7, hl7, tr7⟩, pm7, ln7⟩
    have rl7 : rs7.length = c7.length := by have := TR.len tr7; rw [List.length_map] at this; exact this
    walk_at "rhi"
    refine rd_cut (fun σ Hq => ∃ (p : Addr) (cl : List Cell3), σ = [some (.ref a0), some (.ref l1), some (.int lf), some (.int tp), some (.ref pd), some (.ref p), none, none, none, none, none] ∧ Same H1 Hq ∧ SqL K Hq a0 (ns.map V.int) ∧ Hq pd = some (.dT kf) ∧ TL Hq p (cl.map c3) ∧ cl.Perm (kf.map cellD) ∧ cl.length ≤ 16) (by
      have ml := ml_slR (K := K)
      walk_at "mono") ?_ ?_
    · walk_at "rd"
      refine rd_at hS7 (by decide) ?_
      walk_at "rd"
      refine ite_d (fun _ => ?_) (fun _ => ?_)
      · walk_at "rd"
        refine rd_len (SqL.of hl7) ?_
        walk_at "rd"
        rw [List.length_map, rl7]
        obtain ⟨m, hm⟩ := nat_of (show (0 : Int) ≤ ((c7.length : Nat) : Int) / 2 by omega)
        have hm2 : m ≤ (rs7.map V.ref).length := by rw [List.length_map, rl7]; omega
        rw [hm]
        walk_at "rd"
        refine ⟨p7, rs7.map V.ref, rfl, SqL.of hl7, fun q1 hq1 => ?_⟩
        rw [cut_lo hm2]
        have s8 := same_upd (o := .lst ((rs7.map V.ref).drop m)) hq1
        have Q8 : (upd H7 q1 (.lst ((rs7.map V.ref).drop m))) q1 = some (.lst ((rs7.map V.ref).drop m)) := upd_same
        generalize upd H7 q1 (.lst ((rs7.map V.ref).drop m)) = H8 at *
        have hl8 := s8 _ _ hl7
        walk_at "rd"
        refine rd_len (SqL.of hl8) ?_
        walk_at "rd"
        rw [List.length_map, rl7, hm]
        walk_at "rd"
        refine ⟨p7, rs7.map V.ref, rfl, SqL.of hl8, fun q2 hq2 => ?_⟩
        rw [cut_hi hm2]
        have s9 := same_upd (o := .lst ((rs7.map V.ref).take m)) hq2
        have Q9 : (upd H8 q2 (.lst ((rs7.map V.ref).take m))) q2 = some (.lst ((rs7.map V.ref).take m)) := upd_same
        have Q89 := s9 _ _ Q8
        generalize upd H8 q2 (.lst ((rs7.map V.ref).take m)) = H9 at *
        walk_at "rd"
        refine ⟨q1, q2, _, _, rfl, rfl, Q89, Q9, by rw [List.length_drop, List.length_take, List.length_map]; exact small_len (by omega), fun q3 hq3 => ?_⟩
        have sA := same_upd (o := .lst ((rs7.map V.ref).drop m ++ (rs7.map V.ref).take m)) hq3
        walk_at "rd"
        have sT := (s8.trans s9).trans sA
        refine ⟨q3, c7.drop m ++ c7.take m, rfl, S7.trans sT, sqL_on hS7 fun o e => sT _ _ e, sT _ _ D7, ⟨rs7.drop m ++ rs7.take m, by rw [upd_same, List.map_append, List.map_drop, List.map_take], ?_⟩, ?_, ?_⟩
        · rw [List.map_append, List.map_drop, List.map_take]
          exact (TR.cat (TR.drop m tr7) (TR.take m tr7)).keep (Tup.of sT)
        · refine List.Perm.trans ?_ pm7
          have := List.perm_append_comm (l₁ := c7.drop m) (l₂ := c7.take m)
          rw [List.take_append_drop] at this
          exact this
        · rw [List.length_append, List.length_drop, List.length_take]; omega
      · walk_at "rd"
        exact ⟨p7, c7, rfl, S7, hS7, D7, ⟨rs7, hl7, tr7⟩, pm7, ln7⟩
    clear S7 hS7 D7 hl7 tr7 pm7 ln7 rl7 c7 H7 rs7 p7
    rintro σ H7 ⟨p7, c7, rfl, S7, hS7, D7, T7, pm7, ln7⟩
    have L7 := S7 _ _ L1
    have C7 : LClas H7 us cs := ⟨C1.1.imp fun _ _ h => h.same S7, C1.2⟩
    have hcl : cs.length ≤ 100 := C7.2.2
    have hcw : ClasW cs := fun c hc => (C7.2.1 c hc).1
    have hRW := rule_w C7.2.1 (by omega) z1
    walk_at "rd"
    refine ⟨l1, pd, us, cs, kf, rfl, L7, C7.1, hcw, by omega, z1, D7, P2, by omega, fun H8 p8 ds8 s8 hp8 T8 st8 => ?_⟩
    have L8 := s8 _ _ L7
    have C8 : LClas H8 us cs := ⟨C7.1.imp fun _ _ h => h.same s8, C7.2⟩
    have T78 := T7.same s8
    walk_at "rd"
    refine ⟨l1, us, cs, rfl, L8, C8, fun H9 s9 => ?_⟩
    have T79 := T78.same s9
    have T89 := T8.same s9
    walk_at "rd"
    refine ⟨cs, rfl, hRW, fun H10 vr s10 hR => ?_⟩
    have T710 := T79.same s10
    have T810 := T89.same s10
    obtain ⟨rsA, hpA, trA⟩ := T710
    walk_at "rd"
    refine ⟨p7, _, rfl, .inl (SqL.of hpA), fun ph hph => ?_⟩
    have s11 := same_upd (o := .lst (rsA.map V.ref)) hph
    have PH : (upd H10 ph (.lst (rsA.map V.ref))) ph = some (.lst (rsA.map V.ref)) := upd_same
    have trB := trA.keep (Tup.of s11)
    have hpB := s11 _ _ hpA
    have T811 := T810.same s11
    have hR11 := hR.same s11
    generalize upd H10 ph (.lst (rsA.map V.ref)) = H11 at *
    walk_at "rd"
    have ev : layC (fun _ _ => 0) c7 = dv kf := funext fun x => funext fun y => (layC_perm pm7 (cellD_nodup P2) x y).trans (layC_dict P2 x y)
    refine ⟨vr, ph, rsA, cs, c7, rfl, hR11, hRW.ok, z1, PH, trB, by omega, fun H12 pf ds s12 hpf TF st12 le8 => ?_⟩
    rw [ev] at st12
    obtain rfl := st12.uniq st8
    walk_at "rd"
    refine rd_neTL ⟨rsA, s12 _ _ PH, trB.keep (Tup.of s12)⟩ ⟨rsA, s12 _ _ hpB, trB.keep (Tup.of s12)⟩ ?_
    rw [decide_eq_true rfl]
    walk_at "rd"
    refine ⟨pf, p8, ds.map c3, rfl, TF, T811.same s12, fun x hx => by obtain ⟨c, _, rfl⟩ := List.mem_map.mp hx; rfl, by rw [List.length_map]; exact le8, ?_⟩
    walk_at "rd"
    obtain ⟨rsF, hF, trF⟩ := TF
    refine rd_tyL hF ?_
    walk_at "rd"
    refine rd_new (hn := by show 3 ≤ sizeLine; decide) fun u hu' => ?_
    have s13 := same_upd (o := .tup [V.int 0, V.int 0, V.int 1]) hu'
    have F13 := s13 _ _ hF
    have sP : Same H11 (upd (upd H12 u (.tup [V.int 0, V.int 0, V.int 1])) pf (.lst (rsF.map V.ref ++ [V.ref u]))) := Same.put2 (s12.trans s13) hpf
    generalize upd H12 u (.tup [V.int 0, V.int 0, V.int 1]) = H13 at *
    walk_at "rd"
    refine rd_append F13 (by rw [List.length_map, TR.len trF, List.length_map]; omega) ?_
    generalize upd H13 pf (.lst (rsF.map V.ref ++ [V.ref u])) = H14 at *
    walk_at "rd"
    refine ⟨vr, ph, rsA, cs, c7, rfl, hR11.same sP, hRW.ok, z1, sP _ _ PH, trB.keep (Tup.of sP), by omega, fun H15 pg es s15 hpg TG st15 _ => ?_⟩
    rw [ev] at st15
    obtain rfl := st15.uniq st8
    walk_at "rd"
    refine ⟨pg, p8, es.map c3, rfl, TG, T811.same (sP.trans s15), fun x hx => by obtain ⟨c, _, rfl⟩ := List.mem_map.mp hx; rfl, by rw [List.length_map]; exact le8, ?_⟩
    walk_at "rd"
    exact k _
end
end JF

namespace JF
open PySem PySem.Spec PyProof.Rows L2
/-! ### the head: facts by names, the run; the end -/
theorem fn_ofE {P : Program} {w : World} {K : PySem.W.Frag} {mg : Str → Option Value} {k : Nat} {sp : Sp} {f : Addr} (hfa : mg ("law" : Str) = some (.ref f)) (T : Env fa fn K mg)
    (ok : ∀ base : Heap, K.In base → base.Ns mainGlobals mg → Good P w K mg base CX0 k ("law", none) ["_law_script"] sp) :
    ∃ fd : FuncData, (∀ (s : Shared) (v : Value), BindsTo s fd ⟨[v], []⟩ [("_law_script", v)]) ∧ ∀ base : Heap, K.In base → base.Ns mainGlobals mg → FnOk P w K mg base CX0 k f fd ["_law_script"] sp := by
  obtain ⟨fd, F⟩ := T.c.def_ (d := d_law) 45 rfl
  have e := hfa.symm.trans (T.glo 68)
  cases e
  have b := FunD.bindsA (ps := ["_law_script"]) F fun _ _ _ _ _ _ us hl => match us, hl with | [_], _ => rfl
  refine ⟨fd, fun s v => b s [v] rfl, fun base h1 h2 => ?_⟩
  obtain ⟨fd2, F2, _, _, l2⟩ := ok base h1 h2
  cases (fdAt_of (p := ("law", none)) F).eq l2
  exact F2
end JF
open PySem PySem.W PySem.Calls PyProof.Rows
theorem PySem.Challenge.cw_jumpfield_k41_a_plain_step_holds : PySem.Challenge.rw_jumpfield_k41_a_plain_step.Holds := by
  w_on; o_law
  refine HandSHeadRun.head_any (r := OpenLaw.row PySem.Challenge.rw_jumpfield_k41_a_plain_step) (q := view (OpenLaw.row PySem.Challenge.rw_jumpfield_k41_a_plain_step).prog [47]) (H := JF.hk) (ob := JF.ob) (M := 100000) (loose := JF.looseN) (d := HandSHeadRun.topDef (OpenLaw.row PySem.Challenge.rw_jumpfield_k41_a_plain_step).prog 47) (kwd := []) JF.ob_eq
    (by kernel_rfl) (fun s => by kernel_rfl) JF.run (by kernel_rfl) (by kernel_rfl) (by kernel_rfl) (by rfl) (by first | assumption | decide +kernel) (by decide +kernel) ⟨rfl, rfl, rfl, rfl, rfl, by decide +kernel⟩ ?hw ?hc
  case hw => w_witness2
  case hc =>
    refine L2.walk_ofE (l := PySem.Challenge.rw_jumpfield_k41_a_plain_step) (n := 63) (k := JF.lawLevel) (x := "_law_script") (CX := L2.CX0) rfl (by decide) (by kernel_rfl) ⟨rfl, by decide, by decide⟩ ?F (fun _ _ _ _ z => z)
    intro w mg fa h Y G hmg0
    obtain ⟨K, KX, c⟩ := Y
    have hmg : mg ("law" : PySem.Str) = some (.ref fa) := by
      have e : (HandSHeadRun.topDef (OpenLaw.row PySem.Challenge.rw_jumpfield_k41_a_plain_step).prog 47).name = ("law" : PySem.Str) := by kernel_rfl
      rw [← e]
      exact hmg0
    have T : JF.Env JF.fa JF.fn K mg := ⟨congrArg (fun z : JF.AlE => z.2) c, ⟨h, KX, G⟩, congrArg (fun z : JF.AlE => z.1) c⟩
    obtain ⟨fd, hb, hF⟩ := JF.fn_ofE (P := (PySem.Challenge.rw_jumpfield_k41_a_plain_step).prog) (w := w) hmg T (fun base h1 h2 => JF.ok_law T)
    exact ⟨K, fd, JF.sp_law K, KX, hb, fun H a ns hl hO hS => JF.sp_law_in H a ns hl hO hS, hF⟩
#print axioms PySem.Challenge.cw_jumpfield_k41_a_plain_step_holds

