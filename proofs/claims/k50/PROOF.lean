import PyProof.Rows.All
import Wide.All
import OpenK.AllK
import Wide.FinOn
import KE.KStateDown
import KE.GoesMore
import KE.GoesZip
import PyProof.EnumMake
import HandS.ForMost
import HandS.ForExc
import HandS.Flow
import HandS.Wide
import HandS.WideMore
import HandS.IsInst
import HandS.SetKeys
import HandS.Style
import HandS.TupLe
import HandS.Zip
import HandS.Defaults
import HandS.Head0
import HandS.Head1
import HandS.Head2
import HandS.HeadEnd
import HandS.HeadHook1
import HandS.HeadHook2
import HandS.Walk
import PyProof.DictMoreH
import HandS.SetFor
import HandS.ExcCtx
import HandS.ExcIs
import HandS.HotCalls
import HandS.Conv
import KE.KDictSum
import KE.KDictCopyH
import HandS.SortOrd
import HandS.DictTup
import HandS.HeadHook4
import HandS.Nested
import HandS.EndTab
import HandS.Lambda
import PySem.Challenge.RW_jumpfield_k50_refused_jumps
set_option Elab.async false
set_option linter.all false
set_option maxRecDepth 100000
set_option maxHeartbeats 4000000
/-! ### the frame: facts of the top, defs by their places, calls -/
namespace JF
open PySem PySem.Spec PyProof.Rows L2

/-! ### what the top has left, by facts with numbers -/
/-- the module's tuples of numbers -/
def tb : List (Str × List He.Dv) := []
/-- the module's tuples of tuples of numbers -/
def tb2 : List (Str × List (List Int)) := []
def tup2L (K : PySem.W.Frag) : List (List Int) → List Value → Bool
  | [], [] => true
  | x :: xs, .ref p :: us => (match K.lookup p with
    | some ⟨.type c, _, .seq its _, _⟩ => decide (c = "tuple") && (decide (its.size ≤ sizeLine) && He.relAll (x.map V.int) its.toList)
    | _ => false) && tup2L K xs us
  | _, _ => false
def tup2B (K : PySem.W.Frag) (x : Str) (xs : List (List Int)) : Bool := match K.lookup (He.ga K x) with
  | some ⟨.type c, _, .seq its _, _⟩ => decide (c = "tuple") && (decide (its.size ≤ sizeLine) && tup2L K xs its.toList)
  | _ => false
theorem tup2L_ok {K : PySem.W.Frag} : ∀ {xs : List (List Int)} {us : List Value}, tup2L K xs us = true → ∃ rs : List Addr, Vals (rs.map V.ref) us ∧ rs.length = xs.length ∧ ∀ (i : Nat) (r : Addr) (x : List Int), rs[i]? = some r → xs[i]? = some x → ∀ H : Hp, SqT K H r (x.map V.int)
  | [], [], _ => ⟨[], .nil, rfl, fun i r x h _ => by cases h⟩
  | [], _ :: _, h => by cases h
  | x :: xs, [], h => by cases h
  | x :: xs, u :: us, h => by
    cases u with
    | ref p =>
      obtain ⟨h1, h2⟩ := Bool.and_eq_true_iff.mp (show ((match K.lookup p with
        | some ⟨.type c, _, .seq its _, _⟩ => decide (c = "tuple") && (decide (its.size ≤ sizeLine) && He.relAll (x.map V.int) its.toList)
        | _ => false) && tup2L K xs us) = true from h)
      obtain ⟨rs, v, e, k⟩ := tup2L_ok h2
      refine ⟨p :: rs, .cons rfl v, by rw [List.length_cons, List.length_cons, e], fun i r y hi hy H => ?_⟩
      cases i with
      | succ i => exact k i r y hi hy H
      | zero =>
        cases hi; cases hy
        cases q : K.lookup p with
        | none => rw [q] at h1; cases h1
        | some o =>
          obtain ⟨oc, od, dt, osl⟩ := o
          rw [q] at h1
          cases oc with
          | type c =>
            cases dt with
            | seq its n =>
              obtain ⟨a1, a2⟩ := Bool.and_eq_true_iff.mp (show (decide (c = "tuple") && (decide (its.size ≤ sizeLine) && He.relAll (x.map V.int) its.toList)) = true from h1)
              obtain ⟨a3, a4⟩ := Bool.and_eq_true_iff.mp a2
              exact .inr ⟨_, its, n, q, congrArg Value.type (of_decide_eq_true a1), rfl, of_decide_eq_true a3, He.relAll_ok a4⟩
            | _ => cases h1
          | _ => cases dt <;> cases h1
    | _ => cases h
theorem tup2B_ok {K : PySem.W.Frag} {x : Str} {xs : List (List Int)} (h : tup2B K x xs = true) : ∃ rs : List Addr, (∀ H : Hp, SqT K H (He.ga K x) (rs.map V.ref)) ∧ rs.length = xs.length ∧ ∀ (i : Nat) (r : Addr) (y : List Int), rs[i]? = some r → xs[i]? = some y → ∀ H : Hp, SqT K H r (y.map V.int) := by
  unfold tup2B at h
  cases q : K.lookup (He.ga K x) with
  | none => rw [q] at h; cases h
  | some o =>
    obtain ⟨oc, od, dt, osl⟩ := o
    rw [q] at h
    cases oc with
    | type c =>
      cases dt with
      | seq its n =>
        obtain ⟨a1, a2⟩ := Bool.and_eq_true_iff.mp (show (decide (c = "tuple") && (decide (its.size ≤ sizeLine) && tup2L K xs its.toList)) = true from h)
        obtain ⟨a3, a4⟩ := Bool.and_eq_true_iff.mp a2
        obtain ⟨rs, v, e, k⟩ := tup2L_ok a4
        exact ⟨rs, fun H => .inr ⟨_, its, n, q, congrArg Value.type (of_decide_eq_true a1), rfl, of_decide_eq_true a3, v⟩, e, k⟩
      | _ => cases h
    | _ => cases dt <;> cases h
/-- the module's own exceptions that are raised; how each stands to the classes that are asked for -/
def exN : List Str := ["NoSquare", "NoLevel", "NoSteps"]
def exP : List (Str × Sum Str String × Bool) := [("NoSquare", .inl "FieldError", true), ("NoSquare", .inl "NoSquare", true), ("NoSquare", .inl "NoLevel", false), ("NoSquare", .inl "NoSteps", false), ("NoSquare", .inl "TooFar", false), ("NoSquare", .inr "ValueError", true), ("NoLevel", .inl "FieldError", true), ("NoLevel", .inl "NoSquare", false), ("NoLevel", .inl "NoLevel", true), ("NoLevel", .inl "NoSteps", false), ("NoLevel", .inl "TooFar", false), ("NoLevel", .inr "ValueError", true), ("NoSteps", .inl "FieldError", true), ("NoSteps", .inl "NoSquare", false), ("NoSteps", .inl "NoLevel", false), ("NoSteps", .inl "NoSteps", true), ("NoSteps", .inl "TooFar", false), ("NoSteps", .inr "ValueError", true)]
def veT : List Value := [.type "ValueError", .type "Exception", .type "BaseException", .type "object"]
def exV (K : PySem.W.Frag) : Sum Str String → Value
  | .inl y => .ref (He.ga K y)
  | .inr t => .type t
def exB1 (K : PySem.W.Frag) (x : Str) : Bool :=
  PySem.W.excIn K (He.ga K x) veT "ValueError.__new__" && PySem.W.keepIn K (.ref (He.ga K x)) && (PySem.W.subIn K (.ref (He.ga K x)) (.type "BaseException") == some true) && (PySem.W.typeIn K (.ref (He.ga K x)) == some (.type "type")) &&
  (PySem.W.findIn K (.ref (He.ga K x)) "__getattribute__" == some (some (.builtin "BaseException.__getattribute__"))) && (PySem.W.findIn K (.ref (He.ga K x)) "__getattr__" == some none) && PySem.W.hasDictIn K (He.ga K x) &&
  (PySem.W.findIn K (.ref (He.ga K x)) "__class__" == some (some (.builtin "object.__class__"))) && (PySem.W.specialIn K (.builtin "object.__class__") "__get__" == some (some (.builtin "getset_descriptor.__get__"))) &&
  (PySem.W.takesIn K (.builtin "object.__class__") == some true) && (PySem.W.mroIn K (He.ga K x) (.type "object") == some true)
def exB2 (K : PySem.W.Frag) (t : Str × Sum Str String × Bool) : Bool :=
  (PySem.W.exmOne K (.ref (He.ga K t.1)) (exV K t.2.1) == some t.2.2) && (PySem.W.kitOne K (.ref (He.ga K t.1)) (exV K t.2.1) == some t.2.2)
/-- the defs in which lambdas are made; their tables of code objects are unlike -/
def tfsP : List (Str × Option Str) := [("_law_both", none)]
def ndB : List Addr → Bool
  | [] => true
  | a :: l => !l.contains a && ndB l
theorem ndB_ok : ∀ {l : List Addr}, ndB l = true → l.Nodup
  | [], _ => List.nodup_nil
  | a :: l, h => by
    obtain ⟨h1, h2⟩ := Bool.and_eq_true_iff.mp (show (!l.contains a && ndB l) = true from h)
    exact List.nodup_cons.mpr ⟨(fun z => by rw [List.contains_iff_mem.mpr z] at h1; cases h1), ndB_ok h2⟩
def tbB (K : PySem.W.Frag) : Bool := (tb.all fun t => He.tupB K t.1 t.2) && (exN.all (exB1 K) && (exP.all (exB2 K) && ((tb2.all fun t => tup2B K t.1 t.2) && ndB (tfsP.map fun p => He.tabOf K (He.codeOf K p)))))
structure Env (fa : List He.Fa) (fn : List He.DefD) (K : PySem.W.Frag) (mg : Str → Option Value) : Prop where
  c : He.SaysD fa fn K
  ex : ∃ h : Heap, K.In h ∧ h.Ns mainGlobals mg
  tb : tbB K = true
section
variable {fa : List He.Fa} {fn : List He.DefD} {K : PySem.W.Frag} {mg : Str → Option Value}
theorem Env.glo (T : Env fa fn K mg) (i : Nat) {x : Str} (h : fa[i]? = some (.glo x) := by rfl) : mg x = some (.ref (He.ga K x)) := by
  obtain ⟨hp, X, G⟩ := T.ex
  exact He.glo_ok X G (T.c.fact i h)
theorem Env.tup (T : Env fa fn K mg) (i : Nat) {x : Str} {vs : List He.Dv} (H : Hp) (h : JF.tb[i]? = some (x, vs) := by rfl) : SqT K H (He.ga K x) (vs.map (He.Dv.v K)) :=
  He.tupB_ok (List.all_eq_true.mp (Bool.and_eq_true_iff.mp T.tb).1 _ (List.mem_of_getElem? h)) H
theorem Env.ex1 (T : Env fa fn K mg) {x : Str} (h : x ∈ JF.exN) : exB1 K x = true := List.all_eq_true.mp (Bool.and_eq_true_iff.mp (Bool.and_eq_true_iff.mp T.tb).2).1 _ h
theorem Env.ex2 (T : Env fa fn K mg) {t : Str × Sum Str String × Bool} (h : t ∈ JF.exP) : exB2 K t = true := List.all_eq_true.mp (Bool.and_eq_true_iff.mp (Bool.and_eq_true_iff.mp (Bool.and_eq_true_iff.mp T.tb).2).2).1 _ h
theorem Env.tup2 (T : Env fa fn K mg) (i : Nat) {x : Str} {xs : List (List Int)} (h : JF.tb2[i]? = some (x, xs) := by rfl) : ∃ rs : List Addr, (∀ H : Hp, SqT K H (He.ga K x) (rs.map V.ref)) ∧ rs.length = xs.length ∧ ∀ (i : Nat) (r : Addr) (y : List Int), rs[i]? = some r → xs[i]? = some y → ∀ H : Hp, SqT K H r (y.map V.int) :=
  tup2B_ok (List.all_eq_true.mp (Bool.and_eq_true_iff.mp (Bool.and_eq_true_iff.mp (Bool.and_eq_true_iff.mp (Bool.and_eq_true_iff.mp T.tb).2).2).2).1 _ (List.mem_of_getElem? h))
theorem Env.tnd (T : Env fa fn K mg) : (JF.tfsP.map fun p => He.tabOf K (He.codeOf K p)).Nodup := ndB_ok (Bool.and_eq_true_iff.mp (Bool.and_eq_true_iff.mp (Bool.and_eq_true_iff.mp (Bool.and_eq_true_iff.mp T.tb).2).2).2).2
theorem Env.free (T : Env fa fn K mg) (i : Nat) {x : Str} (h : fa[i]? = some (.free x) := by rfl) : mg x = none := by
  obtain ⟨hp, X, G⟩ := T.ex
  exact He.free_ok X G (T.c.fact i h)
theorem Env.int (T : Env fa fn K mg) (i : Nat) {x : Str} {n : Int} (h : fa[i]? = some (.int x n) := by rfl) : ∃ t, mg x = some (.int n t) := by
  obtain ⟨hp, X, G⟩ := T.ex
  exact He.int_ok X G (T.c.fact i h)
theorem Env.str (T : Env fa fn K mg) (i : Nat) {x z : Str} (h : fa[i]? = some (.str x z) := by rfl) : ∃ t, mg x = some (.str z t) := by
  obtain ⟨hp, X, G⟩ := T.ex
  exact He.str_ok X G (T.c.fact i h)
theorem Env.cls (T : Env fa fn K mg) (i : Nat) {x : Str} (h : fa[i]? = some (.cls x) := by rfl) : Cls K (He.ga K x) := He.cls_ok (T.c.fact i h)
theorem Env.noat (T : Env fa fn K mg) (i : Nat) {x f : Str} (h : fa[i]? = some (.noat x f) := by rfl) : NoAttr K (He.ga K x) f := He.noat_ok (T.c.fact i h)
theorem Env.meth (T : Env fa fn K mg) (i : Nat) {x m : Str} (h : fa[i]? = some (.meth x m) := by rfl) : Meth K (He.ga K x) m (He.ma K (He.ga K x) m) := He.meth_ok (T.c.fact i h)
theorem Env.mkr (T : Env fa fn K mg) (i : Nat) {x : Str} (h : fa[i]? = some (.mkr x) := by rfl) : Mk K (He.ga K x) (He.ma K (He.ga K x) "__init__") := He.mkr_ok (T.c.fact i h)
end

/-! ### a def that keeps its promise, by its place -/
/-- the def's datum stands there -/
def FdAt (K : PySem.W.Frag) (p : Str × Option Str) (fd : FuncData) : Prop := ∃ oc od osl, K.lookup (He.fAd K p) = some ⟨oc, od, .func fd, osl⟩
theorem FdAt.eq {K : PySem.W.Frag} {p : Str × Option Str} {fd fd' : FuncData} (h : FdAt K p fd) (h' : FdAt K p fd') : fd = fd' := by
  obtain ⟨a, b, c, e⟩ := h
  obtain ⟨a', b', c', e'⟩ := h'
  rw [e] at e'
  cases e'
  rfl
theorem fdAt_of {K : PySem.W.Frag} {x qual : Str} {params : Arguments} {body : List Stmt} {scope : Scope} {dvs : List V} {kws : List (Str × V)} {p : Str × Option Str} {fd : FuncData} (F : FunD K x qual params body scope dvs kws (He.fAd K p) fd) : FdAt K p fd := by
  obtain ⟨oc, od, dV, kV, doc, pm, an, cdv, ct, osl, e, lk, hcd, _, _⟩ := F.ex
  exact ⟨oc, od, osl, lk⟩
def Good (P : Program) (w : World) (K : PySem.W.Frag) (mg : Str → Option Value) (base : Heap) (CX : CXT) (k : Nat) (p : Str × Option Str) (ps : List Str) (sp : Sp) : Prop :=
  ∃ fd, FnOk P w K mg base CX k (He.fAd K p) fd ps sp ∧ Binds K fd ps [] ∧ PySem.W.keepIn K (.ref (He.fAd K p)) = true ∧ FdAt K p fd
section
variable {P : Program} {w : World} {K : PySem.W.Frag} {mg : Str → Option Value} {base : Heap} {fa : List He.Fa} {fn : List He.DefD}
theorem Good.mono {CX : CXT} {j k : Nat} {p : Str × Option Str} {ps : List Str} {sp : Sp} (G : Good P w K mg base CX j p ps sp) (h : j ≤ k) : Good P w K mg base CX k p ps sp := by
  obtain ⟨fd, F, b, kp, lk⟩ := G
  exact ⟨fd, F.mono h, b, kp, lk⟩
theorem Good.imp {CX : CXT} {k : Nat} {p : Str × Option Str} {ps : List Str} {sp sp' : Sp} (G : Good P w K mg base CX k p ps sp) (h : ∀ vs H Q E, sp' vs H Q E → sp vs H Q E) : Good P w K mg base CX k p ps sp' := by
  obtain ⟨fd, F, b, kp, lk⟩ := G
  exact ⟨fd, F.imp h, b, kp, lk⟩
/-- THE RULE of a def: nothing leaves it but by return -/
theorem good_mk (T : Env fa fn K mg) (i : Nat) {d : He.DefD} {k : Nat} {N ps : List Str} {sp : Sp} {x qual : Str} {st : Stmt} {at_ : Str × Option Str} (hi : fn[i]? = some d) (hd : d = ⟨at_, x, qual, defArgs st, defBody st, defScope st, [], []⟩) (S : FnScope N ps (defScope st))
    (hb : ∀ (kV doc pm : Value) (an : Option Addr) (cdv ct : Value) (us : List Value), us.length = ps.length → bindArgs (PySem.W.fnOf x qual (defArgs st) (defBody st) (defScope st) .none kV doc pm an cdv ct) ⟨us, []⟩ = pure (ps.zip us))
    (len : ∀ vs H Q E, sp vs H Q E → vs.length = ps.length)
    (hbody : ∀ (f : Addr) (cdv : Value) (A : Around) (outer : List PySem.Env) (s : Shared) (H : Hp) (vs : List V) (Q : VK) (E : XK), Room k (A.deeper (envOfC qual (defScope st) s.heap.objs.size f cdv)) → sp vs H Q E →
      ∃ t, PSs (cxOf CX0 P w K mg base N qual (defScope st) f cdv A outer s H E).nox (defBody st) t ∧ t { nx := fun _ H' => Q .non H', rt := Q } (start N vs) H) : Good P w K mg base CX0 (k + 1) at_ ps sp := by
  subst hd
  obtain ⟨fd, F⟩ := T.c.def_ i hi
  refine ⟨fd, ?_, FunD.bindsN F hb, F.kp, fdAt_of F⟩
  refine FunD.ok F S len fun cdv A outer s H vs Q E hr h => ?_
  obtain ⟨t, h1, h2⟩ := hbody _ cdv A outer s H vs Q E hr h
  exact ⟨t, h1.nox, h2⟩
end

/-! ### calls -/
section
variable {X : Cx} {k : Nat} {x m : Str} {ps : List Str} {sp : Sp} {p pos apos : Pos} {e o : Expr} {es : List Expr} {ta : TE} {t : TA} {C : Addr}
theorem pe_cg (G : Good X.prog X.w X.K X.mg X.base CX0 k (x, none) ps sp) (hr : Room k X.A) (hm : X.mg x = some (.ref (He.ga X.K x))) (ha : PA X (e :: es) t) (hg : Gl X x := by rfl)
    (hdb : (x == ("__debug__" : Str)) = false := by decide) (he : starEach (e :: es) X.env = (false, eval e X.env) :: starEach es X.env := by rfl) (hpl : (backTo pos (starEach es X.env)).any (·.1) = false := by rfl) :
    PE X (.Call (.Name x p) (e :: es) [] pos) (tCall sp [] E0 t) := by
  obtain ⟨fd, F, b, kp, lk⟩ := G
  exact pe_call F hr hg hm kp b .nil pass0 ha hdb he hpl
theorem pe_cg0 (G : Good X.prog X.w X.K X.mg X.base CX0 k (x, none) ps sp) (hr : Room k X.A) (hm : X.mg x = some (.ref (He.ga X.K x))) (hg : Gl X x := by rfl) (hdb : (x == ("__debug__" : Str)) = false := by decide) :
    PE X (.Call (.Name x p) [] [] pos) (tCall sp [] E0 tNil) := by
  obtain ⟨fd, F, b, kp, lk⟩ := G
  exact pe_call0 F hr hg hm kp b .nil pass0 hdb
theorem pe_mg {cn : Str} {pl : Sem Bool} (he : PE X o ta) (c : Cls X.K (He.ga X.K cn)) (hm : Meth X.K (He.ga X.K cn) m (He.ma X.K (He.ga X.K cn) m)) (G : Good X.prog X.w X.K X.mg X.base CX0 k (cn, some m) ps sp) (hr : Room k X.A) (ha : PA X (e :: es) t)
    (hst : starEach (e :: es) X.env = (false, eval e X.env) :: starEach es X.env := by rfl) (hpl : (backTo pos (starEach es X.env)).any (·.1) = false := by rfl)
    (ht : eval (.Call (.Attribute o m apos) (e :: es) [] pos) X.env = (do
      let ov ← eval o X.env
      standAt apos.atName
      let (f, first) ← holding [ov] (getMethod ov m pl)
      callWith pos f first (backTo pos (starEach (e :: es) X.env)) (backToKw pos (keywordEach [] X.env))) := by rfl) :
    PE X (.Call (.Attribute o m apos) (e :: es) [] pos) (tMeth (He.ga X.K cn) m sp [] E0 ta t) := by
  obtain ⟨fd, F, b, kp, lk⟩ := G
  exact pe_meth he c hm F hr b .nil pass0 ha hst hpl ht
theorem pe_mg0 {cn : Str} {pl : Sem Bool} (he : PE X o ta) (c : Cls X.K (He.ga X.K cn)) (hm : Meth X.K (He.ga X.K cn) m (He.ma X.K (He.ga X.K cn) m)) (G : Good X.prog X.w X.K X.mg X.base CX0 k (cn, some m) ps sp) (hr : Room k X.A)
    (ht : eval (.Call (.Attribute o m apos) [] [] pos) X.env = (do
      let ov ← eval o X.env
      standAt apos.atName
      let (f, first) ← holding [ov] (getMethod ov m pl)
      callWith pos f first (backTo pos (starEach [] X.env)) (backToKw pos (keywordEach [] X.env))) := by rfl) :
    PE X (.Call (.Attribute o m apos) [] [] pos) (tMeth (He.ga X.K cn) m sp [] E0 ta tNil) := by
  obtain ⟨fd, F, b, kp, lk⟩ := G
  exact pe_meth0 he c hm F hr b .nil pass0 ht
theorem pe_mk0 (M : Mk X.K (He.ga X.K x) (He.ma X.K (He.ga X.K x) "__init__")) (G : Good X.prog X.w X.K X.mg X.base CX0 k (x, some "__init__") ps sp) (hr : Room (k + 1) X.A) (hm : X.mg x = some (.ref (He.ga X.K x))) (hg : Gl X x := by rfl)
    (hdb : (x == ("__debug__" : Str)) = false := by decide) : PE X (.Call (.Name x p) [] [] pos) (tMake (He.ga X.K x) sp [] E0 tNil) := by
  obtain ⟨fd, F, b, kp, lk⟩ := G
  exact pe_make0 M F hr hg hm b .nil pass0 hdb
theorem pe_gint {i : Int} (h : ∃ t, X.mg x = some (.int i t)) (hg : Gl X x) (hd : (x == ("__debug__" : Str)) = false := by decide) : PE X (.Name x pos) (tC (.int i)) := by
  obtain ⟨t, e⟩ := h
  exact pe_glob hg e ⟨_, rfl⟩ hd
theorem pe_gstr {z : Str} (h : ∃ t, X.mg x = some (.str z t)) (hg : Gl X x) (hd : (x == ("__debug__" : Str)) = false := by decide) : PE X (.Name x pos) (tC (.str z)) := by
  obtain ⟨t, e⟩ := h
  exact pe_glob hg e ⟨_, rfl⟩ hd
theorem pe_gref (h : X.mg x = some (.ref (He.ga X.K x))) (hg : Gl X x) (hd : (x == ("__debug__" : Str)) = false := by decide) : PE X (.Name x pos) (tC (.ref (He.ga X.K x))) :=
  pe_glob hg h rfl hd
theorem pe_mk0K (K : PySem.W.Frag) (hK : X.K = K) (M : Mk K (He.ga K x) (He.ma K (He.ga K x) "__init__")) (G : Good X.prog X.w K X.mg X.base CX0 k (x, some "__init__") ps sp) (hr : Room (k + 1) X.A) (hm : X.mg x = some (.ref (He.ga K x))) (hg : Gl X x := by rfl)
    (hdb : (x == ("__debug__" : Str)) = false := by decide) : PE X (.Call (.Name x p) [] [] pos) (tMake (He.ga K x) sp [] E0 tNil) := by subst hK; exact pe_mk0 M G hr hm hg hdb
theorem pe_mkgK (K : PySem.W.Frag) (hK : X.K = K) (M : Mk K (He.ga K x) (He.ma K (He.ga K x) "__init__")) (G : Good X.prog X.w K X.mg X.base CX0 k (x, some "__init__") ps sp) (hr : Room (k + 1) X.A) (hm : X.mg x = some (.ref (He.ga K x))) (ha : PA X (e :: es) t) (hg : Gl X x := by rfl)
    (hdb : (x == ("__debug__" : Str)) = false := by decide) (hst : starEach (e :: es) X.env = (false, eval e X.env) :: starEach es X.env := by rfl) (hpl : (backTo pos (starEach es X.env)).any (·.1) = false := by rfl) : PE X (.Call (.Name x p) (e :: es) [] pos) (tMake (He.ga K x) sp [] E0 t) := by
  subst hK
  obtain ⟨fd, F, b, kp, lk⟩ := G
  exact pe_make M F hr hg hm b .nil pass0 ha hdb hst hpl
/-- one of two readings -/
theorem pe_or {t1 t2 : TE} (h1 : PE X e t1) (h2 : PE X e t2) : PE X e (fun σ H Q => t1 σ H Q ∨ t2 σ H Q) := ⟨fun pins s σ H Q I h => h.elim (h1.run pins s σ H Q I) (h2.run pins s σ H Q I)⟩
/-! the written part said outright (in a comprehension's block it is another word for the same) -/
variable {K : PySem.W.Frag} {f : Str} {a b i : Expr} {tb : TE}
theorem pe_fldK (K : PySem.W.Frag) (hK : X.K = K) (he : PE X e ta) (hb : attributeBase e f X.env (eval e X.env) = eval e X.env) : PE X (.Attribute e f pos) (tFld K ta f) := by subst hK; exact pe_fld he hb
theorem ix_listK (K : PySem.W.Frag) (hK : X.K = K) : IxR X (rIxL K) := by subst hK; exact ix_list
theorem ix_tupK (K : PySem.W.Frag) (hK : X.K = K) : IxR X (rIxT K) := by subst hK; exact ix_tup
theorem sl_listK (K : PySem.W.Frag) (hK : X.K = K) : SlR X (rSlL K) := by subst hK; exact sl_list
theorem sl_tupK (K : PySem.W.Frag) (hK : X.K = K) : SlR X (rSlT K) := by subst hK; exact sl_tup
theorem op_inK (K : PySem.W.Frag) (hK : X.K = K) : OpR X (compareOp .In) (rIn K false) := by subst hK; exact op_in_seq
theorem op_notInK (K : PySem.W.Frag) (hK : X.K = K) : OpR X (compareOp .NotIn) (rIn K true) := by subst hK; exact op_notIn_seq
theorem op_eqDK (K : PySem.W.Frag) (hK : X.K = K) (hu : X.A.units + 64 < cLine) : OpR X (compareOp .Eq) (rEqD K) := by subst hK; exact op_eqD hu
theorem op_neDK (K : PySem.W.Frag) (hK : X.K = K) (hu : X.A.units + 64 < cLine) : OpR X (compareOp .NotEq) (rNeD K) := by subst hK; exact op_neD hu
theorem op_catTK (K : PySem.W.Frag) (hK : X.K = K) : OpR X (binaryOp .Add) (rCatT K) := by subst hK; exact op_catT
theorem call_isiK (K : PySem.W.Frag) (hK : X.K = K) : CallR X (.builtin "isinstance") (rIsi K) := by subst hK; exact call_isi
def rLenS (K : PySem.W.Frag) : List V → Hp → VK → Prop := fun xs H Q => ∃ p ys, xs = [.ref p] ∧ (SqL K H p ys ∨ SqT K H p ys) ∧ Q (.int ys.length) H
theorem call_lenK (K : PySem.W.Frag) (hK : X.K = K) : CallR X (.builtin "len") (rLenS K) := by subst hK; exact call_len_seq
def rListOf (K : PySem.W.Frag) : List V → Hp → VK → Prop := fun xs H Q => ∃ p ys, xs = [.ref p] ∧ (SqL K H p ys ∨ SqT K H p ys) ∧ ∀ l, H l = none → Q (.ref l) (upd H l (.lst ys))
theorem call_listK (K : PySem.W.Frag) (hK : X.K = K) : CallR X (.type "list") (rListOf K) := by subst hK; exact call_list_of
theorem cr_sumK (K : PySem.W.Frag) (hK : X.K = K) (hc : X.calm = true) : CallR X (.builtin "sum") (rSum K) := by subst hK; exact cr_sum hc
theorem cr_maxK (K : PySem.W.Frag) (hK : X.K = K) (hc : X.calm = true) : CallR X (.builtin "max") (rMax K) := by subst hK; exact cr_max hc
theorem cr_minK (K : PySem.W.Frag) (hK : X.K = K) (hc : X.calm = true) : CallR X (.builtin "min") (rMin K) := by subst hK; exact cr_min hc
theorem pi_listK (K : PySem.W.Frag) (hK : X.K = K) {tg l : Expr} {tl : TE} (hl : PE X l tl) : PI X tg l (iList K tl) := by subst hK; exact pi_list hl
theorem pi_tupK (K : PySem.W.Frag) (hK : X.K = K) {tg l : Expr} {tl : TE} (hl : PE X l tl) : PI X tg l (iTup K tl) := by subst hK; exact pi_tup hl
theorem pe_mgK (K : PySem.W.Frag) (hK : X.K = K) {cn : Str} {pl : Sem Bool} (he : PE X o ta) (c : Cls K (He.ga K cn)) (hm : Meth K (He.ga K cn) m (He.ma K (He.ga K cn) m)) (G : Good X.prog X.w K X.mg X.base CX0 k (cn, some m) ps sp) (hr : Room k X.A) (ha : PA X (e :: es) t)
    (hst : starEach (e :: es) X.env = (false, eval e X.env) :: starEach es X.env := by rfl) (hpl : (backTo pos (starEach es X.env)).any (·.1) = false := by rfl)
    (ht : eval (.Call (.Attribute o m apos) (e :: es) [] pos) X.env = (do
      let ov ← eval o X.env
      standAt apos.atName
      let (f, first) ← holding [ov] (getMethod ov m pl)
      callWith pos f first (backTo pos (starEach (e :: es) X.env)) (backToKw pos (keywordEach [] X.env))) := by rfl) :
    PE X (.Call (.Attribute o m apos) (e :: es) [] pos) (tMeth (He.ga K cn) m sp [] E0 ta t) := by subst hK; exact pe_mg he c hm G hr ha hst hpl ht
theorem pe_mg0K (K : PySem.W.Frag) (hK : X.K = K) {cn : Str} {pl : Sem Bool} (he : PE X o ta) (c : Cls K (He.ga K cn)) (hm : Meth K (He.ga K cn) m (He.ma K (He.ga K cn) m)) (G : Good X.prog X.w K X.mg X.base CX0 k (cn, some m) ps sp) (hr : Room k X.A)
    (ht : eval (.Call (.Attribute o m apos) [] [] pos) X.env = (do
      let ov ← eval o X.env
      standAt apos.atName
      let (f, first) ← holding [ov] (getMethod ov m pl)
      callWith pos f first (backTo pos (starEach [] X.env)) (backToKw pos (keywordEach [] X.env))) := by rfl) :
    PE X (.Call (.Attribute o m apos) [] [] pos) (tMeth (He.ga K cn) m sp [] E0 ta tNil) := by subst hK; exact pe_mg0 he c hm G hr ht
theorem pe_cgK (K : PySem.W.Frag) (hK : X.K = K) (G : Good X.prog X.w K X.mg X.base CX0 k (x, none) ps sp) (hr : Room k X.A) (hm : X.mg x = some (.ref (He.ga K x))) (ha : PA X (e :: es) t) (hg : Gl X x := by rfl)
    (hdb : (x == ("__debug__" : Str)) = false := by decide) (he : starEach (e :: es) X.env = (false, eval e X.env) :: starEach es X.env := by rfl) (hpl : (backTo pos (starEach es X.env)).any (·.1) = false := by rfl) :
    PE X (.Call (.Name x p) (e :: es) [] pos) (tCall sp [] E0 t) := by subst hK; exact pe_cg G hr hm ha hg hdb he hpl
theorem pe_grefK (K : PySem.W.Frag) (hK : X.K = K) (h : X.mg x = some (.ref (He.ga K x))) (hg : Gl X x) (hd : (x == ("__debug__" : Str)) = false := by decide) : PE X (.Name x pos) (tC (.ref (He.ga K x))) := by subst hK; exact pe_gref h hg hd
end
end JF

/-! ### squares as trees: the mathematics of a grove, no program in sight -/
namespace JF
open PySem PySem.Spec PyProof.Rows L2

inductive Sq where
  | leaf (s : Int)
  | node (a b c d : Sq)
  deriving DecidableEq
abbrev Box := Int × Int × Int × Int
def rb : Option Box → Box → Box
  | none, o => o
  | some b, o => (min b.1 o.1, min b.2.1 o.2.1, max (b.1 + b.2.2.1) (o.1 + o.2.2.1) - min b.1 o.1, max (b.2.1 + b.2.2.2) (o.2.1 + o.2.2.2) - min b.2.1 o.2.1)
def r4step (half : Int) (at_ : Int) (f : Option Box) : Option Box → Option Box
  | none => f
  | some b => some (rb f (b.1 + half * (at_ % 2), b.2.1 + half * (at_ / 2), b.2.2.1, b.2.2.2))
def r4 (half : Int) (a b c d : Option Box) : Option Box := r4step half 3 (r4step half 2 (r4step half 1 (r4step half 0 none a) b) c) d
namespace Sq
def level : Sq → Nat
  | leaf _ => 0
  | node a _ _ _ => a.level + 1
def lives : Sq → Int
  | leaf s => if s = 0 then 0 else 1
  | node a b c d => a.lives + b.lives + c.lives + d.lives
def span : Sq → Option Box
  | leaf s => if s = 0 then none else some (0, 0, 1, 1)
  | node a b c d => r4 (2 ^ a.level : Int) a.span b.span c.span d.span
def wf : Sq → Prop
  | leaf s => 0 ≤ s ∧ s ≤ 7
  | node a b c d => a.wf ∧ b.wf ∧ c.wf ∧ d.wf ∧ b.level = a.level ∧ c.level = a.level ∧ d.level = a.level
def even : Nat → Int → Sq
  | 0, s => leaf s
  | k + 1, s => node (even k s) (even k s) (even k s) (even k s)
theorem level_even (k : Nat) (s : Int) : (even k s).level = k := by
  induction k with
  | zero => rfl
  | succ k ih => show (even k s).level + 1 = k + 1; rw [ih]
theorem wf_even {s : Int} (h0 : 0 ≤ s) (h1 : s ≤ 7) (k : Nat) : (even k s).wf := by
  induction k with
  | zero => exact ⟨h0, h1⟩
  | succ k ih => exact ⟨ih, ih, ih, ih, rfl, rfl, rfl⟩
theorem lives_nonneg : ∀ S : Sq, 0 ≤ S.lives
  | leaf s => by unfold lives; split <;> omega
  | node a b c d => by
    have h1 := lives_nonneg a; have h2 := lives_nonneg b; have h3 := lives_nonneg c; have h4 := lives_nonneg d
    unfold lives; omega
end Sq

/-! ### the dict of a grove: what was made, by numbers -/
def kvsOf : List (List Int) → Nat → List (List Key × V)
  | [], _ => []
  | m :: r, i => (m.map Sum.inl, V.int (i : Int)) :: kvsOf r (i + 1)
def lookI : List (List Int) → List Int → Nat → Option Nat
  | [], _, _ => none
  | m :: r, k, i => if m = k then some i else lookI r k (i + 1)
theorem inl_inj : ∀ {a b : List Int}, a.map (Sum.inl : Int → Key) = b.map Sum.inl → a = b
  | [], [], _ => rfl
  | [], _ :: _, h => by cases h
  | _ :: _, [], h => by cases h
  | x :: a, y :: b, h => by
    simp only [List.map_cons, List.cons.injEq, Sum.inl.injEq] at h
    rw [h.1, inl_inj h.2]
theorem kvsOf_len : ∀ (mk : List (List Int)) (i : Nat), (kvsOf mk i).length = mk.length
  | [], _ => rfl
  | _ :: r, i => by show (kvsOf r (i + 1)).length + 1 = r.length + 1; rw [kvsOf_len r]
theorem kvsOf_app : ∀ (mk : List (List Int)) (m : List Int) (i : Nat), kvsOf (mk ++ [m]) i = kvsOf mk i ++ [(m.map Sum.inl, V.int ((i + mk.length : Nat) : Int))]
  | [], m, i => rfl
  | x :: r, m, i => by
    show _ :: kvsOf (r ++ [m]) (i + 1) = _ :: (kvsOf r (i + 1) ++ _)
    rw [kvsOf_app r m (i + 1)]
    have e : i + 1 + r.length = i + (x :: r).length := by simp; omega
    rw [e]
theorem valV_kvsOf : ∀ (mk : List (List Int)) (k : List Int) (i : Nat), valV (kvsOf mk i) (k.map Sum.inl) = (lookI mk k i).map fun n : Nat => V.int (n : Int)
  | [], _, _ => rfl
  | m :: r, k, i => by
    by_cases h : m = k
    · subst h
      simp [kvsOf, lookI, valV]
    · have h' : ¬ (m.map (Sum.inl : Int → Key) = k.map Sum.inl) := fun e => h (inl_inj e)
      have ih := valV_kvsOf r k (i + 1)
      simp only [kvsOf, lookI, valV, List.find?_cons, h, h', decide_false, if_false] at ih ⊢
      exact ih
theorem lookI_some : ∀ {mk : List (List Int)} {k : List Int} {i n : Nat}, lookI mk k i = some n → i ≤ n ∧ mk[n - i]? = some k
  | [], _, _, _, h => by cases h
  | m :: r, k, i, n, h => by
    by_cases e : m = k
    · simp only [lookI, e, if_true, Option.some.injEq] at h
      subst h
      simp [e]
    · simp only [lookI, e, if_false] at h
      obtain ⟨h1, h2⟩ := lookI_some h
      refine ⟨by omega, ?_⟩
      have e2 : n - i = (n - (i + 1)) + 1 := by omega
      rw [e2, List.getElem?_cons_succ]
      exact h2
theorem lookI_none : ∀ {mk : List (List Int)} {k : List Int} {i : Nat}, lookI mk k i = none → k ∉ mk
  | [], _, _, _ => by simp
  | m :: r, k, i, h => by
    by_cases e : m = k
    · simp [lookI, e] at h
    · simp only [lookI, e, if_false] at h
      have := lookI_none h
      simp only [List.mem_cons, not_or]
      exact ⟨fun z => e z.symm, this⟩

/-- what a square is made of, by the numbers of its quarters -/
def Made (q : List Sq) : Sq → List Int → Prop
  | .leaf s, m => m = [s]
  | .node A B C D, m => ∃ a b c d : Nat, m = [(a : Int), (b : Int), (c : Int), (d : Int)] ∧ q[a]? = some A ∧ q[b]? = some B ∧ q[c]? = some C ∧ q[d]? = some D
theorem getElem?_app {α : Type} {q : List α} {i : Nat} {x : α} (h : q[i]? = some x) (t : List α) : (q ++ t)[i]? = some x := by
  rw [List.getElem?_append_left (List.getElem?_eq_some_iff.mp h).1]
  exact h
theorem Made.app {q : List Sq} {S : Sq} {m : List Int} (h : Made q S m) (t : List Sq) : Made (q ++ t) S m := by
  cases S with
  | leaf s => exact h
  | node A B C D =>
    obtain ⟨a, b, c, d, e, h1, h2, h3, h4⟩ := h
    exact ⟨a, b, c, d, e, getElem?_app h1 t, getElem?_app h2 t, getElem?_app h3 t, getElem?_app h4 t⟩
theorem nodup_at {q : List Sq} (hq : q.Nodup) {i j : Nat} {S : Sq} (a : q[i]? = some S) (b : q[j]? = some S) : i = j := by
  obtain ⟨h1, e1⟩ := List.getElem?_eq_some_iff.mp a
  obtain ⟨h2, e2⟩ := List.getElem?_eq_some_iff.mp b
  exact (List.getElem_inj hq).mp (e1.trans e2.symm)
theorem made_inj {q : List Sq} (hq : q.Nodup) {S : Sq} {m m' : List Int} (a : Made q S m) (b : Made q S m') : m = m' := by
  cases S with
  | leaf s => exact (show m = [s] from a).trans (show m' = [s] from b).symm
  | node A B C D =>
    obtain ⟨a1, b1, c1, d1, rfl, h1, h2, h3, h4⟩ := a
    obtain ⟨a2, b2, c2, d2, rfl, k1, k2, k3, k4⟩ := b
    rw [nodup_at hq h1 k1, nodup_at hq h2 k2, nodup_at hq h3 k3, nodup_at hq h4 k4]
theorem made_same {q : List Sq} {S S' : Sq} {m : List Int} (a : Made q S m) (b : Made q S' m) : S = S' := by
  cases S with
  | leaf s =>
    cases S' with
    | leaf s' =>
      have e : [s] = [s'] := (show m = [s] from a).symm.trans (show m = [s'] from b)
      simp only [List.cons.injEq, and_true] at e
      rw [e]
    | node A B C D =>
      obtain ⟨a2, b2, c2, d2, e, _⟩ := b
      have e1 : m = [s] := a
      rw [e1] at e
      simp at e
  | node A B C D =>
    obtain ⟨a1, b1, c1, d1, e1, h1, h2, h3, h4⟩ := a
    cases S' with
    | leaf s' =>
      have e2 : m = [s'] := b
      rw [e1] at e2
      simp at e2
    | node A' B' C' D' =>
      obtain ⟨a2, b2, c2, d2, e2, k1, k2, k3, k4⟩ := b
      rw [e1] at e2
      simp only [List.cons.injEq, Int.ofNat_inj, and_true] at e2
      obtain ⟨rfl, rfl, rfl, rfl⟩ := e2
      rw [h1] at k1; rw [h2] at k2; rw [h3] at k3; rw [h4] at k4
      cases k1; cases k2; cases k3; cases k4
      rfl
end JF

namespace JF
open PySem PySem.Spec PyProof.Rows L2
def top (i : Nat) : Stmt := PySem.Challenge.pw_jumpfield_k50_refused_jumps.main.body.getD i (.Pass ⟨0, 0, 0, 0⟩)
abbrev st_x_wall : Stmt := top 0
theorem sc_x_wall : FnScope ["k"] ["k"] (defScope st_x_wall) := ⟨rfl, rfl, rfl, by decide +kernel, rfl, by decide +kernel, by decide +kernel⟩
def d_x_wall : He.DefD := ⟨("_wall", none), "_wall", "_wall", defArgs (top 0), defBody (top 0), defScope (top 0), [], []⟩
abbrev st_is_whole : Stmt := top 11
theorem sc_is_whole : FnScope ["thing"] ["thing"] (defScope st_is_whole) := ⟨rfl, rfl, rfl, by decide +kernel, rfl, by decide +kernel, by decide +kernel⟩
def d_is_whole : He.DefD := ⟨("is_whole", none), "is_whole", "is_whole", defArgs (top 11), defBody (top 11), defScope (top 11), [], []⟩
abbrev st_round_both : Stmt := top 15
theorem sc_round_both : FnScope ["one", "other", "left", "top", "right", "low"] ["one", "other"] (defScope st_round_both) := ⟨rfl, rfl, rfl, by decide +kernel, rfl, by decide +kernel, by decide +kernel⟩
def d_round_both : He.DefD := ⟨("round_both", none), "round_both", "round_both", defArgs (top 15), defBody (top 15), defScope (top 15), [], []⟩
abbrev st_round_four : Stmt := top 16
theorem sc_round_four : FnScope ["spans", "half", "found", "at", "span", "left", "top"] ["spans", "half"] (defScope st_round_four) := ⟨rfl, rfl, rfl, by decide +kernel, rfl, by decide +kernel, by decide +kernel⟩
def d_round_four : He.DefD := ⟨("round_four", none), "round_four", "round_four", defArgs (top 16), defBody (top 16), defScope (top 16), [], []⟩
abbrev st_is_state : Stmt := top 17
theorem sc_is_state : FnScope ["thing"] ["thing"] (defScope st_is_state) := ⟨rfl, rfl, rfl, by decide +kernel, rfl, by decide +kernel, by decide +kernel⟩
def d_is_state : He.DefD := ⟨("is_state", none), "is_state", "is_state", defArgs (top 17), defBody (top 17), defScope (top 17), [], []⟩
abbrev st_Grove_init : Stmt := inClass (top 18) 0
theorem sc_Grove_init : FnScope ["self"] ["self"] (defScope st_Grove_init) := ⟨rfl, rfl, rfl, by decide +kernel, rfl, by decide +kernel, by decide +kernel⟩
def d_Grove_init : He.DefD := ⟨("Grove", some "__init__"), "__init__", "Grove.__init__", defArgs (inClass (top 18) 0), defBody (inClass (top 18) 0), defScope (inClass (top 18) 0), [], []⟩
abbrev st_Grove_kept : Stmt := inClass (top 18) 1
theorem sc_Grove_kept : FnScope ["self", "made", "level", "lives", "span", "number"] ["self", "made", "level", "lives", "span"] (defScope st_Grove_kept) := ⟨rfl, rfl, rfl, by decide +kernel, rfl, by decide +kernel, by decide +kernel⟩
def d_Grove_kept : He.DefD := ⟨("Grove", some "kept"), "kept", "Grove.kept", defArgs (inClass (top 18) 1), defBody (inClass (top 18) 1), defScope (inClass (top 18) 1), [], []⟩
abbrev st_Grove_cell : Stmt := inClass (top 18) 2
theorem sc_Grove_cell : FnScope ["self", "state", "made"] ["self", "state"] (defScope st_Grove_cell) := ⟨rfl, rfl, rfl, by decide +kernel, rfl, by decide +kernel, by decide +kernel⟩
def d_Grove_cell : He.DefD := ⟨("Grove", some "cell"), "cell", "Grove.cell", defArgs (inClass (top 18) 2), defBody (inClass (top 18) 2), defScope (inClass (top 18) 2), [], []⟩
abbrev st_Grove_knit : Stmt := inClass (top 18) 3
theorem sc_Grove_knit : FnScope ["self", "a", "b", "c", "d", "made", "level", "lives", "span", "one"] ["self", "a", "b", "c", "d"] (defScope st_Grove_knit) := ⟨rfl, rfl, rfl, by decide +kernel, rfl, by decide +kernel, by decide +kernel⟩
def d_Grove_knit : He.DefD := ⟨("Grove", some "knit"), "knit", "Grove.knit", defArgs (inClass (top 18) 3), defBody (inClass (top 18) 3), defScope (inClass (top 18) 3), [], []⟩
abbrev st_Grove_even : Stmt := inClass (top 18) 4
theorem sc_Grove_even : FnScope ["self", "level", "state", "row", "one"] ["self", "level", "state"] (defScope st_Grove_even) := ⟨rfl, rfl, rfl, by decide +kernel, rfl, by decide +kernel, by decide +kernel⟩
def d_Grove_even : He.DefD := ⟨("Grove", some "even"), "even", "Grove.even", defArgs (inClass (top 18) 4), defBody (inClass (top 18) 4), defScope (inClass (top 18) 4), [], []⟩
abbrev st_Grove_asked : Stmt := inClass (top 18) 5
theorem sc_Grove_asked : FnScope ["self", "square"] ["self", "square"] (defScope st_Grove_asked) := ⟨rfl, rfl, rfl, by decide +kernel, rfl, by decide +kernel, by decide +kernel⟩
def d_Grove_asked : He.DefD := ⟨("Grove", some "asked"), "asked", "Grove.asked", defArgs (inClass (top 18) 5), defBody (inClass (top 18) 5), defScope (inClass (top 18) 5), [], []⟩
abbrev st_Grove_leaf : Stmt := inClass (top 18) 6
theorem sc_Grove_leaf : FnScope ["self", "state"] ["self", "state"] (defScope st_Grove_leaf) := ⟨rfl, rfl, rfl, by decide +kernel, rfl, by decide +kernel, by decide +kernel⟩
def d_Grove_leaf : He.DefD := ⟨("Grove", some "leaf"), "leaf", "Grove.leaf", defArgs (inClass (top 18) 6), defBody (inClass (top 18) 6), defScope (inClass (top 18) 6), [], []⟩
abbrev st_Grove_joined : Stmt := inClass (top 18) 7
theorem sc_Grove_joined : FnScope ["self", "a", "b", "c", "d"] ["self", "a", "b", "c", "d"] (defScope st_Grove_joined) := ⟨rfl, rfl, rfl, by decide +kernel, rfl, by decide +kernel, by decide +kernel⟩
def d_Grove_joined : He.DefD := ⟨("Grove", some "joined"), "joined", "Grove.joined", defArgs (inClass (top 18) 7), defBody (inClass (top 18) 7), defScope (inClass (top 18) 7), [], []⟩
abbrev st_Grove_solid : Stmt := inClass (top 18) 8
theorem sc_Grove_solid : FnScope ["self", "level", "state"] ["self", "level", "state"] (defScope st_Grove_solid) := ⟨rfl, rfl, rfl, by decide +kernel, rfl, by decide +kernel, by decide +kernel⟩
def d_Grove_solid : He.DefD := ⟨("Grove", some "solid"), "solid", "Grove.solid", defArgs (inClass (top 18) 8), defBody (inClass (top 18) 8), defScope (inClass (top 18) 8), [], []⟩
abbrev st_Grove_level_of : Stmt := inClass (top 18) 9
theorem sc_Grove_level_of : FnScope ["self", "square"] ["self", "square"] (defScope st_Grove_level_of) := ⟨rfl, rfl, rfl, by decide +kernel, rfl, by decide +kernel, by decide +kernel⟩
def d_Grove_level_of : He.DefD := ⟨("Grove", some "level_of"), "level_of", "Grove.level_of", defArgs (inClass (top 18) 9), defBody (inClass (top 18) 9), defScope (inClass (top 18) 9), [], []⟩
abbrev st_Grove_quarters : Stmt := inClass (top 18) 10
theorem sc_Grove_quarters : FnScope ["self", "square"] ["self", "square"] (defScope st_Grove_quarters) := ⟨rfl, rfl, rfl, by decide +kernel, rfl, by decide +kernel, by decide +kernel⟩
def d_Grove_quarters : He.DefD := ⟨("Grove", some "quarters"), "quarters", "Grove.quarters", defArgs (inClass (top 18) 10), defBody (inClass (top 18) 10), defScope (inClass (top 18) 10), [], []⟩
abbrev st_Grove_state_of : Stmt := inClass (top 18) 11
theorem sc_Grove_state_of : FnScope ["self", "square"] ["self", "square"] (defScope st_Grove_state_of) := ⟨rfl, rfl, rfl, by decide +kernel, rfl, by decide +kernel, by decide +kernel⟩
def d_Grove_state_of : He.DefD := ⟨("Grove", some "state_of"), "state_of", "Grove.state_of", defArgs (inClass (top 18) 11), defBody (inClass (top 18) 11), defScope (inClass (top 18) 11), [], []⟩
abbrev st_Grove_living : Stmt := inClass (top 18) 12
theorem sc_Grove_living : FnScope ["self", "square"] ["self", "square"] (defScope st_Grove_living) := ⟨rfl, rfl, rfl, by decide +kernel, rfl, by decide +kernel, by decide +kernel⟩
def d_Grove_living : He.DefD := ⟨("Grove", some "living"), "living", "Grove.living", defArgs (inClass (top 18) 12), defBody (inClass (top 18) 12), defScope (inClass (top 18) 12), [], []⟩
abbrev st_Grove_span : Stmt := inClass (top 18) 13
theorem sc_Grove_span : FnScope ["self", "square"] ["self", "square"] (defScope st_Grove_span) := ⟨rfl, rfl, rfl, by decide +kernel, rfl, by decide +kernel, by decide +kernel⟩
def d_Grove_span : He.DefD := ⟨("Grove", some "span"), "span", "Grove.span", defArgs (inClass (top 18) 13), defBody (inClass (top 18) 13), defScope (inClass (top 18) 13), [], []⟩
abbrev st_meeting : Stmt := top 20
theorem sc_meeting : FnScope ["grove", "a", "b", "c", "d", "one", "two", "three", "four"] ["grove", "a", "b", "c", "d"] (defScope st_meeting) := ⟨rfl, rfl, rfl, by decide +kernel, rfl, by decide +kernel, by decide +kernel⟩
def d_meeting : He.DefD := ⟨("meeting", none), "meeting", "meeting", defArgs (top 20), defBody (top 20), defScope (top 20), [], []⟩
abbrev st_Condition_holds : Stmt := inClass (top 22) 0
theorem sc_Condition_holds : FnScope ["self", "around"] ["self", "around"] (defScope st_Condition_holds) := ⟨rfl, rfl, rfl, by decide +kernel, rfl, by decide +kernel, by decide +kernel⟩
def d_Condition_holds : He.DefD := ⟨("Condition", some "holds"), "holds", "Condition.holds", defArgs (inClass (top 22) 0), defBody (inClass (top 22) 0), defScope (inClass (top 22) 0), [], []⟩
abbrev st_Condition_reordered : Stmt := inClass (top 22) 1
theorem sc_Condition_reordered : FnScope ["self", "order"] ["self", "order"] (defScope st_Condition_reordered) := ⟨rfl, rfl, rfl, by decide +kernel, rfl, by decide +kernel, by decide +kernel⟩
def d_Condition_reordered : He.DefD := ⟨("Condition", some "reordered"), "reordered", "Condition.reordered", defArgs (inClass (top 22) 1), defBody (inClass (top 22) 1), defScope (inClass (top 22) 1), [], []⟩
abbrev st_Condition_written : Stmt := inClass (top 22) 2
theorem sc_Condition_written : FnScope ["self"] ["self"] (defScope st_Condition_written) := ⟨rfl, rfl, rfl, by decide +kernel, rfl, by decide +kernel, by decide +kernel⟩
def d_Condition_written : He.DefD := ⟨("Condition", some "written"), "written", "Condition.written", defArgs (inClass (top 22) 2), defBody (inClass (top 22) 2), defScope (inClass (top 22) 2), [], []⟩
abbrev st_Amount_init : Stmt := inClass (top 23) 0
theorem sc_Amount_init : FnScope ["self", "state", "numbers"] ["self", "state", "numbers"] (defScope st_Amount_init) := ⟨rfl, rfl, rfl, by decide +kernel, rfl, by decide +kernel, by decide +kernel⟩
def d_Amount_init : He.DefD := ⟨("Amount", some "__init__"), "__init__", "Amount.__init__", defArgs (inClass (top 23) 0), defBody (inClass (top 23) 0), defScope (inClass (top 23) 0), [], []⟩
abbrev st_Amount_holds : Stmt := inClass (top 23) 1
theorem sc_Amount_holds : FnScope ["self", "around"] ["self", "around"] (defScope st_Amount_holds) := ⟨rfl, rfl, rfl, by decide +kernel, rfl, by decide +kernel, by decide +kernel⟩
def d_Amount_holds : He.DefD := ⟨("Amount", some "holds"), "holds", "Amount.holds", defArgs (inClass (top 23) 1), defBody (inClass (top 23) 1), defScope (inClass (top 23) 1), [], []⟩
abbrev st_Amount_written : Stmt := inClass (top 23) 2
theorem sc_Amount_written : FnScope ["self"] ["self"] (defScope st_Amount_written) := ⟨rfl, rfl, rfl, by decide +kernel, rfl, by decide +kernel, by decide +kernel⟩
def d_Amount_written : He.DefD := ⟨("Amount", some "written"), "written", "Amount.written", defArgs (inClass (top 23) 2), defBody (inClass (top 23) 2), defScope (inClass (top 23) 2), [], []⟩
abbrev st_Places_init : Stmt := inClass (top 24) 0
theorem sc_Places_init : FnScope ["self", "wanted"] ["self", "wanted"] (defScope st_Places_init) := ⟨rfl, rfl, rfl, by decide +kernel, rfl, by decide +kernel, by decide +kernel⟩
def d_Places_init : He.DefD := ⟨("Places", some "__init__"), "__init__", "Places.__init__", defArgs (inClass (top 24) 0), defBody (inClass (top 24) 0), defScope (inClass (top 24) 0), [], []⟩
abbrev st_Places_holds : Stmt := inClass (top 24) 1
theorem sc_Places_holds : FnScope ["self", "around", "wish", "state"] ["self", "around"] (defScope st_Places_holds) := ⟨rfl, rfl, rfl, by decide +kernel, rfl, by decide +kernel, by decide +kernel⟩
def d_Places_holds : He.DefD := ⟨("Places", some "holds"), "holds", "Places.holds", defArgs (inClass (top 24) 1), defBody (inClass (top 24) 1), defScope (inClass (top 24) 1), [], []⟩
abbrev st_Places_reordered : Stmt := inClass (top 24) 2
theorem sc_Places_reordered : FnScope ["self", "order"] ["self", "order"] (defScope st_Places_reordered) := ⟨rfl, rfl, rfl, by decide +kernel, rfl, by decide +kernel, by decide +kernel⟩
def d_Places_reordered : He.DefD := ⟨("Places", some "reordered"), "reordered", "Places.reordered", defArgs (inClass (top 24) 2), defBody (inClass (top 24) 2), defScope (inClass (top 24) 2), [], []⟩
abbrev st_Places_written : Stmt := inClass (top 24) 3
theorem sc_Places_written : FnScope ["self"] ["self"] (defScope st_Places_written) := ⟨rfl, rfl, rfl, by decide +kernel, rfl, by decide +kernel, by decide +kernel⟩
def d_Places_written : He.DefD := ⟨("Places", some "written"), "written", "Places.written", defArgs (inClass (top 24) 3), defBody (inClass (top 24) 3), defScope (inClass (top 24) 3), [], []⟩
abbrev st_Clause_init : Stmt := inClass (top 25) 0
theorem sc_Clause_init : FnScope ["self", "taken", "conditions", "made"] ["self", "taken", "conditions", "made"] (defScope st_Clause_init) := ⟨rfl, rfl, rfl, by decide +kernel, rfl, by decide +kernel, by decide +kernel⟩
def d_Clause_init : He.DefD := ⟨("Clause", some "__init__"), "__init__", "Clause.__init__", defArgs (inClass (top 25) 0), defBody (inClass (top 25) 0), defScope (inClass (top 25) 0), [], []⟩
abbrev st_Clause_fits : Stmt := inClass (top 25) 1
theorem sc_Clause_fits : FnScope ["self", "cell", "around", "condition"] ["self", "cell", "around"] (defScope st_Clause_fits) := ⟨rfl, rfl, rfl, by decide +kernel, rfl, by decide +kernel, by decide +kernel⟩
def d_Clause_fits : He.DefD := ⟨("Clause", some "fits"), "fits", "Clause.fits", defArgs (inClass (top 25) 1), defBody (inClass (top 25) 1), defScope (inClass (top 25) 1), [], []⟩
abbrev st_Clause_reordered : Stmt := inClass (top 25) 2
theorem sc_Clause_reordered : FnScope ["self", "order"] ["self", "order"] (defScope st_Clause_reordered) := ⟨rfl, rfl, rfl, by decide +kernel, rfl, by decide +kernel, by decide +kernel⟩
def d_Clause_reordered : He.DefD := ⟨("Clause", some "reordered"), "reordered", "Clause.reordered", defArgs (inClass (top 25) 2), defBody (inClass (top 25) 2), defScope (inClass (top 25) 2), [], []⟩
abbrev st_Clause_written : Stmt := inClass (top 25) 3
theorem sc_Clause_written : FnScope ["self"] ["self"] (defScope st_Clause_written) := ⟨rfl, rfl, rfl, by decide +kernel, rfl, by decide +kernel, by decide +kernel⟩
def d_Clause_written : He.DefD := ⟨("Clause", some "written"), "written", "Clause.written", defArgs (inClass (top 25) 3), defBody (inClass (top 25) 3), defScope (inClass (top 25) 3), [], []⟩
abbrev st_Rule_init : Stmt := inClass (top 29) 0
theorem sc_Rule_init : FnScope ["self", "clauses"] ["self", "clauses"] (defScope st_Rule_init) := ⟨rfl, rfl, rfl, by decide +kernel, rfl, by decide +kernel, by decide +kernel⟩
def d_Rule_init : He.DefD := ⟨("Rule", some "__init__"), "__init__", "Rule.__init__", defArgs (inClass (top 29) 0), defBody (inClass (top 29) 0), defScope (inClass (top 29) 0), [], []⟩
abbrev st_deciding : Stmt := top 30
theorem sc_deciding : FnScope ["rule", "cell", "around", "at", "clause"] ["rule", "cell", "around"] (defScope st_deciding) := ⟨rfl, rfl, rfl, by decide +kernel, rfl, by decide +kernel, by decide +kernel⟩
def d_deciding : He.DefD := ⟨("deciding", none), "deciding", "deciding", defArgs (top 30), defBody (top 30), defScope (top 30), [], []⟩
abbrev st_becomes : Stmt := top 31
theorem sc_becomes : FnScope ["rule", "cell", "around", "at"] ["rule", "cell", "around"] (defScope st_becomes) := ⟨rfl, rfl, rfl, by decide +kernel, rfl, by decide +kernel, by decide +kernel⟩
def d_becomes : He.DefD := ⟨("becomes", none), "becomes", "becomes", defArgs (top 31), defBody (top 31), defScope (top 31), [], []⟩
abbrev st_read_state : Stmt := top 32
theorem sc_read_state : FnScope ["word"] ["word"] (defScope st_read_state) := ⟨rfl, rfl, rfl, by decide +kernel, rfl, by decide +kernel, by decide +kernel⟩
def d_read_state : He.DefD := ⟨("read_state", none), "read_state", "read_state", defArgs (top 32), defBody (top 32), defScope (top 32), [], []⟩
abbrev st_read_wish : Stmt := top 33
theorem sc_read_wish : FnScope ["word"] ["word"] (defScope st_read_wish) := ⟨rfl, rfl, rfl, by decide +kernel, rfl, by decide +kernel, by decide +kernel⟩
def d_read_wish : He.DefD := ⟨("read_wish", none), "read_wish", "read_wish", defArgs (top 33), defBody (top 33), defScope (top 33), [], []⟩
abbrev st_read_numbers : Stmt := top 34
theorem sc_read_numbers : FnScope ["word", "numbers", "sign", "number"] ["word"] (defScope st_read_numbers) := ⟨rfl, rfl, rfl, by decide +kernel, rfl, by decide +kernel, by decide +kernel⟩
def d_read_numbers : He.DefD := ⟨("read_numbers", none), "read_numbers", "read_numbers", defArgs (top 34), defBody (top 34), defScope (top 34), [], []⟩
abbrev st_read_condition : Stmt := top 35
theorem sc_read_condition : FnScope ["word", "sign"] ["word"] (defScope st_read_condition) := ⟨rfl, rfl, rfl, by decide +kernel, rfl, by decide +kernel, by decide +kernel⟩
def d_read_condition : He.DefD := ⟨("read_condition", none), "read_condition", "read_condition", defArgs (top 35), defBody (top 35), defScope (top 35), [], []⟩
abbrev st_read_clause : Stmt := top 36
theorem sc_read_clause : FnScope ["part", "words", "conditions", "word"] ["part"] (defScope st_read_clause) := ⟨rfl, rfl, rfl, by decide +kernel, rfl, by decide +kernel, by decide +kernel⟩
def d_read_clause : He.DefD := ⟨("read_clause", none), "read_clause", "read_clause", defArgs (top 36), defBody (top 36), defScope (top 36), [], []⟩
abbrev st_read_rule : Stmt := top 37
theorem sc_read_rule : FnScope ["text", "clauses", "rule", "part"] ["text"] (defScope st_read_rule) := ⟨rfl, rfl, rfl, by decide +kernel, rfl, by decide +kernel, by decide +kernel⟩
def d_read_rule : He.DefD := ⟨("read_rule", none), "read_rule", "read_rule", defArgs (top 37), defBody (top 37), defScope (top 37), [], []⟩
abbrev st_sixteen : Stmt := top 39
theorem sc_sixteen : FnScope ["grove", "square", "four", "one", "at"] ["grove", "square"] (defScope st_sixteen) := ⟨rfl, rfl, rfl, by decide +kernel, rfl, by decide +kernel, by decide +kernel⟩
def d_sixteen : He.DefD := ⟨("sixteen", none), "sixteen", "sixteen", defArgs (top 39), defBody (top 39), defScope (top 39), [], []⟩
abbrev st_nine_of : Stmt := top 40
theorem sc_nine_of : FnScope ["grove", "square", "some", "parts", "at"] ["grove", "square"] (defScope st_nine_of) := ⟨rfl, rfl, rfl, by decide +kernel, rfl, by decide +kernel, by decide +kernel⟩
def d_nine_of : He.DefD := ⟨("nine_of", none), "nine_of", "nine_of", defArgs (top 40), defBody (top 40), defScope (top 40), [], []⟩
abbrev st_fours_of : Stmt := top 41
theorem sc_fours_of : FnScope ["nine", "at"] ["nine"] (defScope st_fours_of) := ⟨rfl, rfl, rfl, by decide +kernel, rfl, by decide +kernel, by decide +kernel⟩
def d_fours_of : He.DefD := ⟨("fours_of", none), "fours_of", "fours_of", defArgs (top 41), defBody (top 41), defScope (top 41), [], []⟩
abbrev st_around_of : Stmt := top 42
theorem sc_around_of : FnScope ["states", "at", "off"] ["states", "at"] (defScope st_around_of) := ⟨rfl, rfl, rfl, by decide +kernel, rfl, by decide +kernel, by decide +kernel⟩
def d_around_of : He.DefD := ⟨("around_of", none), "around_of", "around_of", defArgs (top 42), defBody (top 42), defScope (top 42), [], []⟩
abbrev st_Jumps_init : Stmt := inClass (top 43) 0
theorem sc_Jumps_init : FnScope ["self", "grove", "rule"] ["self", "grove", "rule"] (defScope st_Jumps_init) := ⟨rfl, rfl, rfl, by decide +kernel, rfl, by decide +kernel, by decide +kernel⟩
def d_Jumps_init : He.DefD := ⟨("Jumps", some "__init__"), "__init__", "Jumps.__init__", defArgs (inClass (top 43) 0), defBody (inClass (top 43) 0), defScope (inClass (top 43) 0), [], []⟩
abbrev st_Jumps_change : Stmt := inClass (top 43) 1
theorem sc_Jumps_change : FnScope ["self", "rule"] ["self", "rule"] (defScope st_Jumps_change) := ⟨rfl, rfl, rfl, by decide +kernel, rfl, by decide +kernel, by decide +kernel⟩
def d_Jumps_change : He.DefD := ⟨("Jumps", some "change"), "change", "Jumps.change", defArgs (inClass (top 43) 1), defBody (inClass (top 43) 1), defScope (inClass (top 43) 1), [], []⟩
abbrev st_Jumps_by_rule : Stmt := inClass (top 43) 2
theorem sc_Jumps_by_rule : FnScope ["self", "square", "states", "made", "at", "one"] ["self", "square"] (defScope st_Jumps_by_rule) := ⟨rfl, rfl, rfl, by decide +kernel, rfl, by decide +kernel, by decide +kernel⟩
def d_Jumps_by_rule : He.DefD := ⟨("Jumps", some "by_rule"), "by_rule", "Jumps.by_rule", defArgs (inClass (top 43) 2), defBody (inClass (top 43) 2), defScope (inClass (top 43) 2), [], []⟩
abbrev st_Jumps_reckoned : Stmt := inClass (top 43) 3
theorem sc_Jumps_reckoned : FnScope ["self", "square", "e", "level", "made", "twice", "nine", "part", "four", "a", "b", "c", "d"] ["self", "square", "e"] (defScope st_Jumps_reckoned) := ⟨rfl, rfl, rfl, by decide +kernel, rfl, by decide +kernel, by decide +kernel⟩
def d_Jumps_reckoned : He.DefD := ⟨("Jumps", some "reckoned"), "reckoned", "Jumps.reckoned", defArgs (inClass (top 43) 3), defBody (inClass (top 43) 3), defScope (inClass (top 43) 3), [], []⟩
abbrev st_Jumps_rests : Stmt := inClass (top 43) 4
theorem sc_Jumps_rests : FnScope ["self", "square", "e", "level", "twice", "found", "nine", "a", "b", "c", "d", "part", "low"] ["self", "square", "e"] (defScope st_Jumps_rests) := ⟨rfl, rfl, rfl, by decide +kernel, rfl, by decide +kernel, by decide +kernel⟩
def d_Jumps_rests : He.DefD := ⟨("Jumps", some "rests"), "rests", "Jumps.rests", defArgs (inClass (top 43) 4), defBody (inClass (top 43) 4), defScope (inClass (top 43) 4), [], []⟩
abbrev st_Jumps_gather : Stmt := inClass (top 43) 5
theorem sc_Jumps_gather : FnScope ["self", "square", "e", "told", "one", "low"] ["self", "square", "e", "told"] (defScope st_Jumps_gather) := ⟨rfl, rfl, rfl, by decide +kernel, rfl, by decide +kernel, by decide +kernel⟩
def d_Jumps_gather : He.DefD := ⟨("Jumps", some "gather"), "gather", "Jumps.gather", defArgs (inClass (top 43) 5), defBody (inClass (top 43) 5), defScope (inClass (top 43) 5), [], []⟩
abbrev st_Jumps_check : Stmt := inClass (top 43) 6
theorem sc_Jumps_check : FnScope ["self", "square", "e", "level"] ["self", "square", "e"] (defScope st_Jumps_check) := ⟨rfl, rfl, rfl, by decide +kernel, rfl, by decide +kernel, by decide +kernel⟩
def d_Jumps_check : He.DefD := ⟨("Jumps", some "check"), "check", "Jumps.check", defArgs (inClass (top 43) 6), defBody (inClass (top 43) 6), defScope (inClass (top 43) 6), [], []⟩
abbrev st_Jumps_after : Stmt := inClass (top 43) 7
theorem sc_Jumps_after : FnScope ["self", "square", "e"] ["self", "square", "e"] (defScope st_Jumps_after) := ⟨rfl, rfl, rfl, by decide +kernel, rfl, by decide +kernel, by decide +kernel⟩
def d_Jumps_after : He.DefD := ⟨("Jumps", some "after"), "after", "Jumps.after", defArgs (inClass (top 43) 7), defBody (inClass (top 43) 7), defScope (inClass (top 43) 7), [], []⟩
abbrev st_Jumps_reasons : Stmt := inClass (top 43) 8
theorem sc_Jumps_reasons : FnScope ["self", "square", "e", "told", "one", "low"] ["self", "square", "e"] (defScope st_Jumps_reasons) := ⟨rfl, rfl, rfl, by decide +kernel, rfl, by decide +kernel, by decide +kernel⟩
def d_Jumps_reasons : He.DefD := ⟨("Jumps", some "reasons"), "reasons", "Jumps.reasons", defArgs (inClass (top 43) 8), defBody (inClass (top 43) 8), defScope (inClass (top 43) 8), [], []⟩
abbrev st_w_at : Stmt := top 45
theorem sc_w_at : FnScope ["_law_script", "_law_k"] ["_law_script", "_law_k"] (defScope st_w_at) := ⟨rfl, rfl, rfl, by decide +kernel, rfl, by decide +kernel, by decide +kernel⟩
def d_w_at : He.DefD := ⟨("_law_at", none), "_law_at", "_law_at", defArgs (top 45), defBody (top 45), defScope (top 45), [], []⟩
abbrev st_w_same : Stmt := top 46
theorem sc_w_same : FnScope ["_law_found", "_law_due"] ["_law_found", "_law_due"] (defScope st_w_same) := ⟨rfl, rfl, rfl, by decide +kernel, rfl, by decide +kernel, by decide +kernel⟩
def d_w_same : He.DefD := ⟨("_law_same", none), "_law_same", "_law_same", defArgs (top 46), defBody (top 46), defScope (top 46), [], []⟩
abbrev st_w_refused : Stmt := top 47
theorem sc_w_refused : FnScope ["_law_deed", "_law_due", "_law_e", "_law_kinds", "_law_k"] ["_law_deed", "_law_due"] (defScope st_w_refused) := ⟨rfl, rfl, rfl, by decide +kernel, rfl, by decide +kernel, by decide +kernel⟩
def d_w_refused : He.DefD := ⟨("_law_refused", none), "_law_refused", "_law_refused", defArgs (top 47), defBody (top 47), defScope (top 47), [], []⟩
abbrev st_w_both : Stmt := top 48
theorem sc_w_both : FnScope ["_law_jumps", "_law_square", "_law_e", "_law_due"] ["_law_jumps", "_law_square", "_law_e", "_law_due"] (defScope st_w_both) := ⟨rfl, rfl, rfl, by decide +kernel, rfl, by decide +kernel, by decide +kernel⟩
def d_w_both : He.DefD := ⟨("_law_both", none), "_law_both", "_law_both", defArgs (top 48), defBody (top 48), defScope (top 48), [], []⟩
abbrev st_w_bad : Stmt := top 49
theorem sc_w_bad : FnScope ["_law_cell", "_law_way", "_law_far"] ["_law_cell"] (defScope st_w_bad) := ⟨rfl, rfl, rfl, by decide +kernel, rfl, by decide +kernel, by decide +kernel⟩
def d_w_bad : He.DefD := ⟨("_law_bad", none), "_law_bad", "_law_bad", defArgs (top 49), defBody (top 49), defScope (top 49), [], []⟩
abbrev st_w_no_steps : Stmt := top 50
theorem sc_w_no_steps : FnScope ["_law_cell", "_law_level", "_law_way", "_law_far"] ["_law_cell", "_law_level"] (defScope st_w_no_steps) := ⟨rfl, rfl, rfl, by decide +kernel, rfl, by decide +kernel, by decide +kernel⟩
def d_w_no_steps : He.DefD := ⟨("_law_no_steps", none), "_law_no_steps", "_law_no_steps", defArgs (top 50), defBody (top 50), defScope (top 50), [], []⟩
abbrev st_law : Stmt := top 51
theorem sc_law : FnScope ["_law_script", "_law_grove", "_law_state", "_law_rule", "_law_jumps", "_law_at_here", "_law_cell", "_law_level", "_law_wrong", "_law_steps", "_law_square"] ["_law_script"] (defScope st_law) := ⟨rfl, rfl, rfl, by decide +kernel, rfl, by decide +kernel, by decide +kernel⟩
def d_law : He.DefD := ⟨("law", none), "law", "law", defArgs (top 51), defBody (top 51), defScope (top 51), [], []⟩
def tfs : List (Str × Option Str) := tfsP
def tabsL (K : PySem.W.Frag) : List (Addr × Str) := tfs.map fun p => (He.tabOf K (He.codeOf K p), p.1 ++ ".<locals>." ++ "<lambda>")
theorem tl_mem {K : PySem.W.Frag} (i : Nat) {p : Str × Option Str} (h : tfs[i]? = some p) : (He.tabOf K (He.codeOf K p), p.1 ++ ".<locals>." ++ "<lambda>") ∈ tabsL K := List.mem_map.mpr ⟨p, List.mem_of_getElem? h, rfl⟩
theorem tl_u {K : PySem.W.Frag} {mg : Str → Option Value} {fa : List He.Fa} {fn : List He.DefD} (T : Env fa fn K mg) (i : Nat) {p : Str × Option Str} (h : tfs[i]? = some p) : ∀ r ∈ tabsL K, r.1 = He.tabOf K (He.codeOf K p) → r.2 = p.1 ++ ".<locals>." ++ "<lambda>" := fun r hr e => by
  obtain ⟨p', hp', rfl⟩ := List.mem_map.mp hr
  obtain ⟨j, hj⟩ := List.getElem?_of_mem hp'
  have nd := T.tnd
  change tfsP[i]? = some p at h
  change tfsP[j]? = some p' at hj
  have hi : i < tfsP.length := (List.getElem?_eq_some_iff.mp h).1
  have hj' : j < tfsP.length := (List.getElem?_eq_some_iff.mp hj).1
  have e1 : (tfsP.map fun p => He.tabOf K (He.codeOf K p))[j]'(by rw [List.length_map]; exact hj') = (tfsP.map fun p => He.tabOf K (He.codeOf K p))[i]'(by rw [List.length_map]; exact hi) := by
    rw [List.getElem_map, List.getElem_map, (List.getElem?_eq_some_iff.mp hj).2, (List.getElem?_eq_some_iff.mp h).2]
    exact e
  have e2 : j = i := (List.getElem_inj nd).mp e1
  subst e2
  rw [h] at hj
  cases hj
  rfl
def fn : List He.DefD := [d_x_wall, d_is_whole, d_round_both, d_round_four, d_is_state, d_Grove_init, d_Grove_kept, d_Grove_cell, d_Grove_knit, d_Grove_even, d_Grove_asked, d_Grove_leaf, d_Grove_joined, d_Grove_solid, d_Grove_level_of, d_Grove_quarters, d_Grove_state_of, d_Grove_living, d_Grove_span, d_meeting, d_Condition_holds, d_Condition_reordered, d_Condition_written, d_Amount_init, d_Amount_holds, d_Amount_written, d_Places_init, d_Places_holds, d_Places_reordered, d_Places_written, d_Clause_init, d_Clause_fits, d_Clause_reordered, d_Clause_written, d_Rule_init, d_deciding, d_becomes, d_read_state, d_read_wish, d_read_numbers, d_read_condition, d_read_clause, d_read_rule, d_sixteen, d_nine_of, d_fours_of, d_around_of, d_Jumps_init, d_Jumps_change, d_Jumps_by_rule, d_Jumps_reckoned, d_Jumps_rests, d_Jumps_gather, d_Jumps_check, d_Jumps_after, d_Jumps_reasons, d_w_at, d_w_same, d_w_refused, d_w_both, d_w_bad, d_w_no_steps, d_law]
def fa : List He.Fa := [(.free "bool"), (.free "isinstance"), (.free "int"), (.free "min"), (.free "max"), (.free "enumerate"), (.glo "round_both"), (.glo "is_whole"), (.free "len"), (.cls "Grove"), (.meth "Grove" "kept"), (.glo "round_four"), (.meth "Grove" "cell"), (.meth "Grove" "knit"), (.int "MANY" 1000000000), (.glo "NoSquare"), (.glo "is_state"), (.glo "_wall"), (.int "HIGHEST" 48), (.meth "Grove" "even"), (.meth "Grove" "asked"), (.meth "Grove" "quarters"), (.free "zip"), (.cls "Places"), (.meth "Places" "holds"), (.cls "Amount"), (.meth "Amount" "holds"), (.cls "Clause"), (.meth "Clause" "fits"), (.glo "deciding"), (.str "STATES" "01234567"), (.glo "read_state"), (.str "NUMBERS" "012345678"), (.mkr "Amount"), (.glo "Amount"), (.glo "read_numbers"), (.mkr "Places"), (.glo "Places"), (.glo "read_wish"), (.glo "read_condition"), (.mkr "Clause"), (.glo "Clause"), (.free "str"), (.glo "read_clause"), (.mkr "Rule"), (.glo "Rule"), (.glo "becomes"), (.free "range"), (.glo "sixteen"), (.meth "Grove" "state_of"), (.meth "Grove" "leaf"), (.glo "around_of"), (.meth "Grove" "level_of"), (.cls "Jumps"), (.meth "Jumps" "by_rule"), (.glo "nine_of"), (.meth "Jumps" "reckoned"), (.glo "fours_of"), (.glo "meeting"), (.meth "Jumps" "rests"), (.meth "Jumps" "gather"), (.glo "NoLevel"), (.glo "NoSteps"), (.meth "Jumps" "check"), (.glo "TooFar"), (.free "ValueError"), (.glo "FieldError"), (.meth "Jumps" "after"), (.glo "_law_refused"), (.meth "Jumps" "reasons"), (.mkr "Grove"), (.glo "Grove"), (.glo "_law_at"), (.glo "read_rule"), (.mkr "Jumps"), (.glo "Jumps"), (.glo "_law_no_steps"), (.glo "_law_both"), (.glo "_law_bad"), (.meth "Grove" "solid"), (.glo "_law_same"), (.noat "Amount" "numbers"), (.noat "Amount" "state"), (.noat "Clause" "conditions"), (.noat "Clause" "made"), (.noat "Clause" "taken"), (.noat "Grove" "levels"), (.noat "Grove" "lives"), (.noat "Grove" "made"), (.noat "Grove" "numbers"), (.noat "Grove" "plain"), (.noat "Grove" "spans"), (.noat "Jumps" "grove"), (.noat "Jumps" "known"), (.noat "Jumps" "rule"), (.noat "Places" "wanted"), (.noat "Rule" "clauses"), (.cls "Rule"), (.glo "law")]
def loose0 : List Str := ["_wall", "FieldError", "NoRule", "Restless", "NoSquare", "NoLevel", "NoState", "TooFar", "NoSteps", "is_whole", "HIGHEST", "MANY", "round_both", "round_four", "is_state", "Grove", "meeting", "Condition", "Amount", "Places", "Clause", "STATES", "NUMBERS", "Rule", "deciding", "becomes", "read_state", "read_wish", "read_numbers", "read_condition"]
def loose1 : List Str := ["read_clause", "read_rule", "sixteen", "nine_of", "fours_of", "around_of", "Jumps", "_law_at", "_law_same", "_law_refused", "_law_both", "_law_bad", "_law_no_steps"]
def looseN : List Str := loose0 ++ loose1
end JF

/-! ### the head's run, early in the text, in three parts: it wants much room; with tables of code objects -/
namespace JF
open PySem PySem.Spec PyProof.Rows L2
abbrev Rr : PySem.W.OpenRow := PySem.W.OpenLaw.row PySem.Challenge.rw_jumpfield_k50_refused_jumps
def hk : PySem.W.Hook := He.hookX 4 fa fn [] tfs tbB
def ob (s : PySem.W.SharedT) : hk.α := He.obsX 4 fa fn [] tfs tbB (HandSHeadRun.getT s)
theorem ob_eq (s : PySem.W.SharedT) : ob s = hk.obs s.abs := He.obsX_eq (HandSHeadRun.getT_eq s)
def hk0 : PySem.W.Hook where
  α := Unit
  obs := fun _ => ()
  val := fun _ => ()
  says := fun _ _ => True
  of := fun _ _ _ => trivial
  keeps := fun _ _ _ _ _ => trivial
def ob0 (_ : PySem.W.SharedT) : hk0.α := ()
def nA : Nat := fa.length / 2
def mA : Nat := fn.length / 2
def KK (g : Addr → Option Obj) : PySem.W.Frag := He.frT g (He.asD g 4)
def obsA (g : Addr → Option Obj) : Bool × He.AlD := (tbB (KK g) && He.tabsB g tfs (KK g), He.obsD (fa.take nA) (fn.take mA) (KK g))
def obsB (g : Addr → Option Obj) : He.AlD := He.obsD (fa.drop nA) (fn.drop mA) (KK g)
theorem obs_join {g : Addr → Option Obj} {w : World} (hA : obsA g = (true, He.valD (fn.take mA))) (hB : obsB g = He.valD (fn.drop mA)) : He.obsX 4 fa fn [] tfs tbB g = He.valX fn [] w := by
  unfold obsA at hA
  rw [Prod.mk.injEq] at hA
  obtain ⟨h1, h2⟩ := hA
  unfold He.obsD He.valD at h2
  unfold obsB He.obsD He.valD at hB
  rw [Prod.mk.injEq, Bool.and_eq_true] at h2 hB
  obtain ⟨⟨a1, a2⟩, a3⟩ := h2
  obtain ⟨⟨b1, b2⟩, b3⟩ := hB
  have hD : He.obsD fa fn (KK g) = He.valD fn := by
    unfold He.obsD He.valD
    rw [Prod.mk.injEq, Bool.and_eq_true]
    refine ⟨⟨?_, ?_⟩, ?_⟩
    · rw [← List.take_append_drop nA fa, List.all_append, a1, b1]; rfl
    · rw [← List.take_append_drop mA fn, List.all_append, a2, b2]; rfl
    · rw [← List.take_append_drop mA fn, List.map_append, List.map_append, a3, b3]
  show ((He.obsD fa fn (KK g), _), tbB (KK g) && He.tabsB g tfs (KK g)) = ((He.valD fn, _), true)
  rw [h1, hD]
  rfl
noncomputable abbrev endS (w : World) (os : OsState) := HandSHeadRun.endF (HandSHeadRun.stepQ (HandSHeadRun.denQ HandSHeadRun.tabQ) Rr.prog w) 100000 Rr.prog w os
theorem run0 (w : World) : HandSHeadRun.RunEq Rr (PySem.W.view Rr.prog [51]) hk0 ob0 100000 looseN w := by
  intro os
  kernel_rfl
theorem runA (w : World) (os : OsState) : (endS w os).map (fun s => obsA (HandSHeadRun.getT s)) = some (true, He.valD (fn.take mA)) := by kernel_rfl
theorem runB (w : World) (os : OsState) : (endS w os).map (fun s => obsB (HandSHeadRun.getT s)) = some (He.valD (fn.drop mA)) := by kernel_rfl
theorem run (w : World) : HandSHeadRun.RunEq Rr (PySem.W.view Rr.prog [51]) hk ob 100000 looseN w := by
  intro os
  have h0 := run0 w os
  have hA := runA w os
  have hB := runB w os
  unfold endS at hA hB
  generalize HandSHeadRun.endF (HandSHeadRun.stepQ (HandSHeadRun.denQ HandSHeadRun.tabQ) Rr.prog w) 100000 Rr.prog w os = x at h0 hA hB ⊢
  cases x with
  | none => cases h0
  | some s =>
    rw [Option.map_some, Option.some.injEq] at h0 hA hB ⊢
    rw [Prod.mk.injEq, Prod.mk.injEq] at h0 ⊢
    exact ⟨h0.1, h0.2.1, obs_join hA hB⟩
end JF

/-! ### readings step by step: a rule for each construct, tried by «walk_at "rd"» -/
namespace JF
open PySem PySem.Spec PyProof.Rows L2
section
variable {D : Ends} {σ : L2.St} {H : Hp} {Q : VK} {QB : Bool → Hp → Prop} {QA : List V → Hp → Prop} {t u : TS} {te ta tb tc : TE} {g : TG} {c c' : TT} {v : V} {i : Nat} {K : PySem.W.Frag}
theorem rd_seq (h : t { D with nx := u D } σ H) : tSeq t u D σ H := h
/-- the walk halts ahead of a loop -/
def Halt (p : Prop) : Prop := p
theorem rd_seqF {wi : TI} (h : Halt (tSeq (tFor wi g t) u D σ H)) : tSeq (tFor wi g t) u D σ H := h
theorem rd_seqW (h : Halt (tSeq (tWhile c t) u D σ H)) : tSeq (tWhile c t) u D σ H := h
theorem rd_seqI {t' : TS} (h : Halt (tSeq (tIfS c t t') u D σ H)) : tSeq (tIfS c t t') u D σ H := h
theorem rd_next (h : D.nx σ H) : tNext D σ H := h
theorem rd_asg (h : te σ H fun x H1 => g x σ H1 D.nx) : tAsg te g D σ H := h
theorem rd_gname {R : L2.St → Hp → Prop} (h : R (σ.set i (some v)) H) : gName i v σ H R := h
theorem rd_ret (h : te σ H D.rt) : tRet te D σ H := h
theorem rd_retN (h : D.rt .non H) : tRetN D σ H := h
theorem rd_drop (h : te σ H fun _ H1 => D.nx σ H1) : tDrop te D σ H := h
theorem rd_if (h : c σ H fun b H1 => if b = true then t D σ H1 else u D σ H1) : tIfS c t u D σ H := h
theorem rd_ifE (h : c σ H fun b H1 => if b = true then ta σ H1 Q else tb σ H1 Q) : tIf c ta tb σ H Q := h
theorem rd_brk (h : D.bk σ H) : tBreak D σ H := h
theorem rd_cont (h : D.ct σ H) : tCont D σ H := h
theorem rd_var (h : σ[i]? = some (some v)) (q : Q v H) : tVar i σ H Q := ⟨v, h, q⟩
theorem rd_c (q : Q v H) : tC v σ H Q := q
theorem rd_op {r : R2} (h : ta σ H fun x H1 => tb σ H1 fun y H2 => r x y H2 Q) : tOp r ta tb σ H Q := h
theorem rd_un {r : V → Hp → VK → Prop} (h : ta σ H fun x H1 => r x H1 Q) : tUn r ta σ H Q := h
theorem rd_I0 {f : Int → Int → V} {a b : Int} (q : Q (f a b) H) : rI0 f (.int a) (.int b) H Q := ⟨a, b, rfl, rfl, q⟩
theorem rd_U {f : Int → V} {a : Int} (q : Q (f a) H) : rU f (.int a) H Q := ⟨a, rfl, q⟩
theorem rd_test (h : te σ H fun x H' => ∃ k, x = .bl k ∧ QB k H') : tTest te σ H QB := h
theorem rd_B (h : te σ H fun x H' => ∃ k, x = .bl k ∧ QB k H') : tB te σ H QB := h
theorem rd_bl {b : Bool} {R : Bool → Prop} (q : R b) : ∃ k, V.bl b = .bl k ∧ R k := ⟨b, rfl, q⟩
theorem iteT' {A B : Prop} (h : A) : if true = true then A else B := iteT h
theorem iteF' {A B : Prop} (h : B) : if false = true then A else B := iteF h
theorem iteNT {A B : Prop} (h : B) : if (!true) = true then A else B := iteF h
theorem iteNF {A B : Prop} (h : A) : if (!false) = true then A else B := iteT h
theorem rd_for {wi : TI} (h : wi σ H fun J H1 => ∃ W : Nat → Nat → L2.St → Hp → Prop, (∃ m, W 0 m σ H1) ∧ ∀ i m σ H, W i m σ H →
  (J.stop i H ∧ D.nx σ H) ∨ (J.go i H ∧ ∃ N : L2.St → Hp → Prop, (∀ σ' H', N σ' H' → ∃ m', m' < m ∧ W (i + 1) m' σ' H') ∧ ∀ x H', J.yld i H x H' → g x σ H' fun σ2 H2 => t { D with nx := N, ct := N, bk := D.nx } σ2 H2)) : tFor wi g t D σ H := h
theorem rd_and (h : c σ H fun b H1 => if b = true then c' σ H1 QB else QB false H1) : tAnd c c' σ H QB := h
theorem rd_or (h : c σ H fun b H1 => if b = true then QB true H1 else c' σ H1 QB) : tOr c c' σ H QB := h
theorem rd_not (h : c σ H fun b H1 => QB (!b) H1) : tNot c σ H QB := h
theorem rd_andV (h : ta σ H fun x H1 => ∃ k, x = .bl k ∧ if k = true then tb σ H1 Q else Q (.bl false) H1) : tAndV ta tb σ H Q := h
theorem rd_orV (h : ta σ H fun x H1 => ∃ k, x = .bl k ∧ if k = true then Q (.bl true) H1 else tb σ H1 Q) : tOrV ta tb σ H Q := h
theorem rd_notV (h : ta σ H fun x H1 => ∃ k, x = .bl k ∧ Q (.bl (!k)) H1) : tNotV ta σ H Q := h
theorem rd_eqI {a b : Int} (q : Q (.bl (decide (a = b))) H) : rEq (.int a) (.int b) H Q := ⟨rfl, by
  have e : decide (V.int a = V.int b) = decide (a = b) := by by_cases z : a = b <;> simp [z]
  rw [e]; exact q⟩
theorem rd_neI {a b : Int} (q : Q (.bl (!decide (a = b))) H) : rNe (.int a) (.int b) H Q := ⟨rfl, by
  have e : decide (V.int a = V.int b) = decide (a = b) := by by_cases z : a = b <;> simp [z]
  rw [e]; exact q⟩
theorem rd_eqS {a b : Str} (q : Q (.bl (decide (a = b))) H) : rEq (.str a) (.str b) H Q := ⟨rfl, by
  have e : decide (V.str a = V.str b) = decide (a = b) := by by_cases z : a = b <;> simp [z]
  rw [e]; exact q⟩
theorem rd_neS {a b : Str} (q : Q (.bl (!decide (a = b))) H) : rNe (.str a) (.str b) H Q := ⟨rfl, by
  have e : decide (V.str a = V.str b) = decide (a = b) := by by_cases z : a = b <;> simp [z]
  rw [e]; exact q⟩
theorem rd_nil (q : QA [] H) : tNil σ H QA := q
theorem rd_cons {tr : TA} (h : ta σ H fun x H1 => tr σ H1 fun xs H2 => QA (x :: xs) H2) : tCons ta tr σ H QA := h
theorem rd_call {sp : Sp} {dvs : List V} {E : XK} {tr : TA} (h : tr σ H fun vs H1 => sp (vs ++ dvs) H1 Q E) : tCall sp dvs E tr σ H Q := h
theorem rd_CB {r : List V → Hp → VK → Prop} {tr : TA} (h : tr σ H fun vs H1 => r vs H1 Q) : tCB r tr σ H Q := h
theorem rd_meth {C : Addr} {m : Str} {sp : Sp} {dvs : List V} {E : XK} {tr : TA} (h : ta σ H fun x H1 => ∃ a dx fs, x = .ref a ∧ H1 a = some (.ins C dx fs) ∧ fs.lookup m = none ∧ tr σ H1 fun vs H2 => sp (x :: (vs ++ dvs)) H2 Q E) : tMeth C m sp dvs E ta tr σ H Q := h
theorem rd_methR {a dx : Addr} {fs : List (Str × V)} {C : Addr} {m : Str} {R : Prop} (h1 : H a = some (.ins C dx fs)) (h2 : fs.lookup m = none) (q : R) : ∃ a' dx fs, V.ref a = .ref a' ∧ H a' = some (.ins C dx fs) ∧ fs.lookup m = none ∧ R := ⟨a, dx, fs, rfl, h1, h2, q⟩
theorem rd_fld {f : Str} (h : ta σ H fun x H1 => ∃ a C dx fs v, x = .ref a ∧ H1 a = some (.ins C dx fs) ∧ Cls K C ∧ NoAttr K C f ∧ fs.lookup f = some v ∧ Q v H1) : tFld K ta f σ H Q := h
theorem rd_fldR {a C dx : Addr} {fs : List (Str × V)} {f : Str} {R : V → Prop} (h1 : H a = some (.ins C dx fs)) (h2 : Cls K C) (h3 : NoAttr K C f) (h4 : fs.lookup f = some v) (q : R v) : ∃ a' C dx fs v, V.ref a = .ref a' ∧ H a' = some (.ins C dx fs) ∧ Cls K C ∧ NoAttr K C f ∧ fs.lookup f = some v ∧ R v := ⟨a, C, dx, fs, v, rfl, h1, h2, h3, h4, q⟩
theorem rd_chain {r r' : R2} (h : ta σ H fun x H1 => tb σ H1 fun y H2 => r x y H2 fun z H3 => ∃ k, z = .bl k ∧ (if k = true then tc σ H3 fun w' H4 => r' y w' H4 Q else Q (.bl false) H3)) : tChain r r' ta tb tc σ H Q := h
theorem rd_tup {tr : TA} (h : tr σ H fun xs H1 => xs.length ≤ sizeLine ∧ ∀ p, H1 p = none → Q (.ref p) (upd H1 p (.tup xs))) : tTup tr σ H Q := h
theorem rd_lst {tr : TA} (h : tr σ H fun xs H1 => xs.length ≤ sizeLine ∧ ∀ p, H1 p = none → Q (.ref p) (upd H1 p (.lst xs))) : tLst tr σ H Q := h
theorem rd_new {n : Nat} {R : Addr → Prop} (hn : n ≤ sizeLine := by (first | (show _ ≤ sizeLine; decide) | omega)) (h : ∀ p, H p = none → R p) : n ≤ sizeLine ∧ ∀ p, H p = none → R p := ⟨hn, h⟩
theorem rd_bm {T : String} {r : V → List V → Hp → VK → Prop} {tr : TA} (h : ta σ H fun x H1 => tyV K T x H1 ∧ tr σ H1 fun xs H2 => r x xs H2 Q) : tBM K T r ta tr σ H Q := h
theorem rd_bm0 {T : String} {r : V → List V → Hp → VK → Prop} (h : ta σ H fun x H1 => tyV K T x H1 ∧ r x [] H1 Q) : tBM0 K T r ta σ H Q := h
theorem rd_ixL {p : Addr} {xs : List V} {k : Int} (h1 : SqL K H p xs) (h2 : atI xs k = some v) (q : Q v H) : rIxL K (.ref p) (.int k) H Q := ⟨p, xs, k, v, rfl, rfl, h1, h2, q⟩
theorem rd_ixT {p : Addr} {xs : List V} {k : Int} (h1 : SqT K H p xs) (h2 : atI xs k = some v) (q : Q v H) : rIxT K (.ref p) (.int k) H Q := ⟨p, xs, k, v, rfl, rfl, h1, h2, q⟩
theorem rd_tyL {l : Addr} {xs : List V} {R : Prop} (h1 : H l = some (.lst xs)) (q : R) : tyV K "list" (.ref l) H ∧ R := ⟨Or.inl ⟨rfl, _, Or.inl (Or.inl h1)⟩, q⟩
theorem rd_append {l : Addr} {xs : List V} {y : V} (h1 : H l = some (.lst xs)) (h2 : xs.length < sizeLine) (q : Q .non (upd H l (.lst (xs ++ [y])))) : rAppend (.ref l) [y] H Q :=
  ⟨l, xs, y, rfl, rfl, h1, h2, q⟩
theorem rd_dget {td ty : TE} (h : td σ H fun x H1 => ty σ H1 fun y H2 => ∃ a v, x = .ref a ∧ DGet H2 a y (some v) ∧ Q v H2) : tDGet td ty σ H Q := h
theorem rd_din {td ty : TE} (h : ty σ H fun y H1 => td σ H1 fun x H2 => ∃ a o, x = .ref a ∧ DGet H2 a y o ∧ Q (.bl o.isSome) H2) : tDIn ty td σ H Q := h
theorem rd_dput {td ty tv : TE} (h : tv σ H fun v H1 => td σ H1 fun x H2 => ty σ H2 fun y H3 => ∃ a H4, x = .ref a ∧ DPut H3 a y v H4 ∧ D.nx σ H4) : sDPut td ty tv D σ H := h
theorem rd_2I {a b : Int} {R : Int → Int → Prop} (h : R a b) : ∃ i j, [V.int a, V.int b] = [V.int i, V.int j] ∧ R i j := ⟨a, b, rfl, h⟩
theorem rd_I {C : Int → Int → Prop} {f : Int → Int → V} {a b : Int} (hc : C a b) (q : Q (f a b) H) : rI C f (.int a) (.int b) H Q := ⟨a, b, rfl, rfl, hc, q⟩
theorem rd_mod {f : Int → Int → V} {a b : Int} (hc : 0 < b) (q : Q (f a b) H) : rI (fun _ j => 0 < j) f (.int a) (.int b) H Q := ⟨a, b, rfl, rfl, hc, q⟩
theorem rd_fdiv {f : Int → Int → V} {a b : Int} (h1 : 0 < b) (h2 : b < 2 ^ 100) (q : Q (f a b) H) : rI CDivW f (.int a) (.int b) H Q :=
  ⟨a, b, rfl, rfl, wide_div h1 (b := 100) (by have h3 : (b.natAbs : Int) = b := by omega
                                              have h4 : (b.natAbs : Int) < ((2 ^ 100 : Nat) : Int) := by rw [h3]; exact h2
                                              exact Int.ofNat_lt.mp h4) (by decide) (by decide), q⟩
theorem mulW_of {a b : Int} (h1 : -(2 ^ 2000) < a) (h2 : a < 2 ^ 2000) (h3 : -(2 ^ 2000) < b) (h4 : b < 2 ^ 2000) : CMulW a b := by
  have e : ∀ x : Int, -(2 ^ 2000) < x → x < 2 ^ 2000 → x.natAbs < 2 ^ 2000 := fun x p q => by
    have e1 : ((2 ^ 2000 : Nat) : Int) = (2 : Int) ^ 2000 := by norm_cast
    have h : (x.natAbs : Int) < ((2 ^ 2000 : Nat) : Int) := by rw [e1]; omega
    exact Int.ofNat_lt.mp h
  exact wide_mul (e a h1 h2) (e b h3 h4) (by decide) (by decide) (by decide)
theorem rd_nn {R : Prop} (h : R) : V.non = V.non ∧ R := ⟨rfl, h⟩
theorem rd_len {p : Addr} {ys : List V} {R : List V → Prop} (h : SqL K H p ys) (q : R ys) : ∃ p' ys, [V.ref p] = [V.ref p'] ∧ (SqL K H p' ys ∨ SqT K H p' ys) ∧ R ys := ⟨p, ys, rfl, .inl h, q⟩
theorem rd_lenT {p : Addr} {ys : List V} {R : List V → Prop} (h : SqT K H p ys) (q : R ys) : ∃ p' ys, [V.ref p] = [V.ref p'] ∧ (SqL K H p' ys ∨ SqT K H p' ys) ∧ R ys := ⟨p, ys, rfl, .inr h, q⟩
theorem rd_iE {tr : TA} {R : It → Hp → Prop} (h : tr σ H fun vs H1 => ∃ a xs, vs = [.ref a] ∧ SqL K H1 a xs ∧ R (Ite K a) H1) : iEnum K tr σ H R := h
theorem rd_iL {R : It → Hp → Prop} (h : te σ H fun x H1 => ∃ a, x = .ref a ∧ (∃ xs, SqL K H1 a xs) ∧ R (Itl K a) H1) : iList K te σ H R := h
theorem rd_iT {R : It → Hp → Prop} (h : te σ H fun x H1 => ∃ a, x = .ref a ∧ (∃ xs, SqT K H1 a xs) ∧ R (Itt K a) H1) : iTup K te σ H R := h
theorem rd_iR1 {tr : TA} {R : It → Hp → Prop} (h : tr σ H fun vs H1 => ∃ j : Int, vs = [.int j] ∧ -(2 ^ 62) ≤ j ∧ j < 2 ^ 62 ∧ R (Itr 0 j.toNat) H1) : iRng1 tr σ H R := h
theorem rd_iR2 {tr : TA} {R : It → Hp → Prop} (h : tr σ H fun vs H1 => ∃ i j : Int, vs = [.int i, .int j] ∧ (-(2 ^ 62) ≤ i ∧ i < 2 ^ 62 ∧ -(2 ^ 62) ≤ j ∧ j < 2 ^ 62) ∧ R (Itr i (j - i).toNat) H1) : iRng2 tr σ H R := h
theorem rd_iR3 {tr : TA} {R : It → Hp → Prop} (h : tr σ H fun vs H1 => ∃ (i j c : Int) (n : Nat), vs = [.int i, .int j, .int c] ∧ RgC i j c n ∧ R (Itc i c n) H1) : iRng3 tr σ H R := h
theorem rd_iS {R : It → Hp → Prop} (h : te σ H fun v H1 => ∃ x, v = .str x ∧ R (Its x) H1) : iStr te σ H R := h
theorem rd_iZ {tr : TA} {R : It → Hp → Prop} (h : tr σ H fun vs H1 => ∃ a b xs ys, vs = [.ref a, .ref b] ∧ SqL K H1 a xs ∧ SqL K H1 b ys ∧ R (Itz K a b) H1) : iZip K tr σ H R := h
theorem rd_sl {r : V → Option Int → Option Int → Hp → VK → Prop} {tl th : TO} (h : te σ H fun x H1 => tl σ H1 fun l H2 => th σ H2 fun u H3 => r x l u H3 Q) : tSl r te tl th σ H Q := h
theorem rd_np {R : Option Int → Hp → Prop} (h : R none H) : tNoPart σ H R := h
theorem rd_pt {R : Option Int → Hp → Prop} (h : te σ H fun x H1 => ∃ i, x = .int i ∧ R (some i) H1) : tPart te σ H R := h
theorem rd_int {a : Int} {R : Int → Prop} (h : R a) : ∃ i, V.int a = .int i ∧ R i := ⟨a, rfl, h⟩
theorem rd_gtup {n : Nat} {tt : TGs} {a : Addr} {xs : List V} {R : L2.St → Hp → Prop} (h1 : SqT K H a xs) (h2 : xs.length = n) (q : tt xs σ H R) : gTup K n tt (.ref a) σ H R := ⟨a, xs, rfl, h1, h2, q⟩
theorem rd_gcons {tt : TGs} {r : List V} {R : L2.St → Hp → Prop} (q : g v σ H fun σ' H' => tt r σ' H' R) : gCons g tt (v :: r) σ H R := ⟨v, r, rfl, q⟩
theorem rd_gsub {to ti : TE} {ts : TSet} {R : L2.St → Hp → Prop} (h : to σ H fun o H1 => ti σ H1 fun i H2 => ts o i v H2 fun H3 => R σ H3) : gSub to ti ts v σ H R := h
theorem rd_gnil {R : L2.St → Hp → Prop} (q : R σ H) : gNil [] σ H R := ⟨rfl, q⟩
theorem rd_lc {wi : TI} {vs : List Nat} (h : wi σ H fun J H1 => ∀ D, H1 D = none → ∃ W : Nat → Nat → Hp → Prop, (∃ m, W 0 m (upd H1 D (.lst []))) ∧ ∀ i m H, W i m H →
  (J.stop i H ∧ Q (.ref D) H) ∨ (J.go i H ∧ ∃ Nx : Hp → Prop, (∀ H', Nx H' → ∃ m', m' < m ∧ W (i + 1) m' H') ∧ ∀ x H', J.yld i H x H' → g x (wipe σ vs) H' fun σ2 H2 => wipe σ2 vs = wipe σ vs ∧ c σ2 H2 fun b H3 =>
    if b = true then te σ2 H3 fun y H4 => ∃ acc, H4 D = some (.lst acc) ∧ acc.length < sizeLine ∧ Nx (upd H4 D (.lst (acc ++ [y]))) else Nx H3)) : tLc wi g c te vs σ H Q := h
theorem rd_yes (h : QB true H) : tYes σ H QB := h
theorem rd_dsetd {td ty tx : TE} (h : td σ H fun x H1 => ∃ a, x = .ref a ∧ IsD H1 a ∧ ty σ H1 fun y H2 => tx σ H2 fun z H3 => ∃ (kvs : List (Key × V)) (k : Key), H3 a = some (.dK kvs) ∧ y = kV k ∧ kvs.length < sizeLine ∧
  (∀ v, valV kvs k = some v → Q v H3) ∧ (valV kvs k = none → Q z (upd H3 a (.dK (putK kvs k z))))) : tDSetd td ty tx σ H Q := h
theorem rd_isD {a : Addr} {kvs : List (Key × V)} {R : Addr → Prop} (h : H a = some (.dK kvs)) (q : R a) : ∃ b, V.ref a = .ref b ∧ IsD H b ∧ R b := ⟨a, rfl, .inl ⟨kvs, .inl h⟩, q⟩
theorem rd_fldS {ta tv : TE} {f : Str} (h : tv σ H fun y H1 => ta σ H1 fun x H2 => ∃ a C dx fs, x = .ref a ∧ H2 a = some (.ins C dx fs) ∧ Cls K C ∧ NoAttr K C f ∧ fs.length < 1000 ∧ D.nx σ (upd H2 a (.ins C dx (putF f y fs)))) : sFld K ta tv f D σ H := h
theorem rd_newK {R : Addr → Prop} (h : ∀ p, H p = none → R p) : ∀ p, H p = none → R p := h
theorem dp_ints {ns : List Int} : DpAll K H (ns.map V.int) (ns.map PyData.int) := by
  induction ns with
  | nil => exact .nil
  | cons n r ih => exact .cons (.int n) ih
theorem rd_eqDI {p p' : Addr} {ns ms : List Int} (h1 : SqL K H p (ns.map V.int)) (h2 : SqL K H p' (ms.map V.int)) (s1 : SeqAt.shaped (.list (ns.map PyData.int)) = true) (s2 : SeqAt.shaped (.list (ms.map PyData.int)) = true)
    (q : Q (.bl (PyData.eqv (.list (ns.map PyData.int)) (.list (ms.map PyData.int)))) H) : rEqD K (.ref p) (.ref p') H Q := ⟨_, _, .lst h1 dp_ints, .lst h2 dp_ints, s1, s2, q⟩
theorem rd_neDI {p p' : Addr} {ns ms : List Int} (h1 : SqL K H p (ns.map V.int)) (h2 : SqL K H p' (ms.map V.int)) (s1 : SeqAt.shaped (.list (ns.map PyData.int)) = true) (s2 : SeqAt.shaped (.list (ms.map PyData.int)) = true)
    (q : Q (.bl (!PyData.eqv (.list (ns.map PyData.int)) (.list (ms.map PyData.int)))) H) : rNeD K (.ref p) (.ref p') H Q := ⟨_, _, .lst h1 dp_ints, .lst h2 dp_ints, s1, s2, q⟩
theorem rd_rep {l : Addr} {k : Int} {xs : List V} (h1 : H l = some (.lst xs)) (h2 : -(2 ^ 63) ≤ k) (h3 : k < 2 ^ 63) (h4 : xs.length * k.toNat ≤ sizeLine) (q : ∀ p, H p = none → Q (.ref p) (upd H p (.lst (List.replicate k.toNat xs).flatten))) : rRep (.ref l) (.int k) H Q :=
  ⟨l, k, xs, rfl, rfl, h1, h2, h3, h4, q⟩
theorem ite_d {p : Prop} [Decidable p] {A B : Prop} (h1 : p → A) (h2 : ¬ p → B) : if decide p = true then A else B := by
  by_cases h : p
  · rw [decide_eq_true h, if_pos rfl]; exact h1 h
  · rw [decide_eq_false h, if_neg Bool.false_ne_true]; exact h2 h
theorem ite_nd {p : Prop} [Decidable p] {A B : Prop} (h1 : ¬ p → A) (h2 : p → B) : if (!decide p) = true then A else B := by
  by_cases h : p
  · rw [decide_eq_true h]; exact iteF (h2 h)
  · rw [decide_eq_false h]; exact iteT (h1 h)
theorem ite_b {b : Bool} {A B : Prop} (h1 : b = true → A) (h2 : b = false → B) : if b = true then A else B := by
  cases b
  · exact iteF (h2 rfl)
  · exact iteT (h1 rfl)
theorem ite_nb {b : Bool} {A B : Prop} (h1 : b = false → A) (h2 : b = true → B) : if (!b) = true then A else B := by
  cases b
  · exact iteT (h1 rfl)
  · exact iteF (h2 rfl)
end
end JF

local macro_rules | `(tactic| walk_at "rs1") => `(tactic| first
  | with_reducible refine JF.rd_seq ?_ | with_reducible refine JF.rd_asg ?_ | with_reducible refine JF.rd_gname ?_
  | with_reducible refine JF.rd_var rfl ?_ | with_reducible refine JF.rd_c ?_ | with_reducible refine JF.rd_op ?_ | with_reducible refine JF.rd_I0 ?_
  | with_reducible refine JF.rd_if ?_ | with_reducible refine JF.rd_test ?_ | with_reducible refine JF.rd_bl ?_
  | with_reducible refine JF.rd_eqI ?_ | with_reducible refine JF.rd_neI ?_ | with_reducible refine JF.rd_eqS ?_ | with_reducible refine JF.rd_neS ?_
  | with_reducible refine JF.rd_cons ?_ | with_reducible refine JF.rd_nil ?_ | with_reducible refine JF.rd_call ?_ | with_reducible refine JF.rd_meth ?_ | with_reducible refine JF.rd_fld ?_ | with_reducible refine JF.rd_CB ?_
  | with_reducible refine JF.rd_ret ?_ | with_reducible refine JF.rd_drop ?_ | with_reducible refine JF.rd_next ?_ | with_reducible refine JF.rd_and ?_ | with_reducible refine JF.rd_or ?_ | with_reducible refine JF.rd_not ?_
  | with_reducible refine JF.rd_andV ?_ | with_reducible refine JF.rd_orV ?_ | with_reducible refine JF.rd_notV ?_ | with_reducible refine JF.rd_B ?_ | with_reducible refine JF.rd_un ?_ | with_reducible refine JF.rd_U ?_
  | with_reducible refine JF.rd_chain ?_ | with_reducible refine JF.rd_tup ?_ | with_reducible refine JF.rd_lst ?_ | with_reducible refine JF.rd_bm ?_ | with_reducible refine JF.rd_bm0 ?_
  | with_reducible refine JF.rd_dget ?_ | with_reducible refine JF.rd_din ?_ | with_reducible refine JF.rd_dput ?_ | with_reducible refine JF.rd_ifE ?_ | with_reducible refine JF.rd_retN ?_ | with_reducible refine JF.rd_brk ?_ | with_reducible refine JF.rd_cont ?_
  | with_reducible refine JF.iteT' ?_ | with_reducible refine JF.iteF' ?_ | with_reducible refine JF.iteNT ?_ | with_reducible refine JF.iteNF ?_ | ((with_reducible refine' JF.rd_fldR ?h1 ?h2 ?h3 ?h4 ?q); (case h1 => assumption); (case h2 => assumption); (case h3 => assumption); (case h4 => exact rfl))
  | with_reducible refine JF.rd_dsetd ?_ | with_reducible refine JF.rd_fldS ?_
  | with_reducible refine JF.rd_yes ?_ | with_reducible refine JF.rd_iE ?_ | with_reducible refine JF.rd_iL ?_ | with_reducible refine JF.rd_iT ?_ | with_reducible refine JF.rd_iR1 ?_ | with_reducible refine JF.rd_iR2 ?_ | with_reducible refine JF.rd_iR3 ?_ | with_reducible refine JF.rd_iS ?_ | with_reducible refine JF.rd_iZ ?_ | with_reducible refine JF.rd_sl ?_ | with_reducible refine JF.rd_np ?_ | with_reducible refine JF.rd_pt ?_ | with_reducible refine JF.rd_int ?_
  | ((with_reducible refine' JF.rd_gtup ?h1 ?h2 ?q); (case h1 => exact L2.SqT.of (by assumption)); (case h2 => exact rfl)) | with_reducible refine JF.rd_gcons ?_ | with_reducible refine JF.rd_gnil ?_ | with_reducible refine JF.rd_gsub ?_
  | with_reducible refine JF.rd_2I ?_ | ((with_reducible refine' JF.rd_ixT ?h1 ?h2 ?q); (case h1 => exact L2.SqT.of (by assumption)); (case h2 => exact rfl)) | ((with_reducible refine JF.rd_mod ?_ ?_); · decide) | ((with_reducible refine JF.rd_fdiv ?h1 ?h2 ?_); (case h1 => decide); (case h2 => decide)) | with_reducible refine JF.rd_nn ?_)
local macro_rules | `(tactic| walk_at "rd1") => `(tactic| first | walk_at "rs1" | with_reducible refine JF.rd_for ?_ | with_reducible refine JF.rd_lc ?_)
local macro_rules | `(tactic| walk_at "rh") => `(tactic| repeat (first | with_reducible refine JF.rd_seqF ?_ | with_reducible refine JF.rd_seqW ?_ | walk_at "rs1"))
local macro_rules | `(tactic| walk_at "rhi") => `(tactic| repeat (first | with_reducible refine JF.rd_seqF ?_ | with_reducible refine JF.rd_seqW ?_ | with_reducible refine JF.rd_seqI ?_ | walk_at "rs1"))
local macro_rules | `(tactic| walk_at "rs") => `(tactic| repeat walk_at "rs1")
local macro_rules | `(tactic| walk_at "rd") => `(tactic| repeat walk_at "rd1")
local macro_rules | `(tactic| walk_at "ne") => `(tactic| first | assumption | (apply Ne.symm; assumption))
local macro_rules | `(tactic| walk_at "hp") => `(tactic| first | assumption | exact L2.upd_same | ((with_reducible refine (L2.upd_ne ?h1).trans ?h2); (case h1 => walk_at "ne"); (case h2 => walk_at "hp")))

/-! ### readings are monotone in what is wanted; a cut between two statements -/
namespace JF
open PySem PySem.Spec PyProof.Rows L2
def MonE (t : TE) : Prop := ∀ σ H (Q Q' : VK), (∀ v H, Q v H → Q' v H) → t σ H Q → t σ H Q'
def MonT (t : TT) : Prop := ∀ σ H (Q Q' : Bool → Hp → Prop), (∀ v H, Q v H → Q' v H) → t σ H Q → t σ H Q'
def MonA (t : TA) : Prop := ∀ σ H (Q Q' : List V → Hp → Prop), (∀ v H, Q v H → Q' v H) → t σ H Q → t σ H Q'
def MonO (t : TO) : Prop := ∀ σ H (Q Q' : Option Int → Hp → Prop), (∀ v H, Q v H → Q' v H) → t σ H Q → t σ H Q'
def MonR (r : R2) : Prop := ∀ x y H (Q Q' : VK), (∀ v H, Q v H → Q' v H) → r x y H Q → r x y H Q'
def MonU (r : V → Hp → VK → Prop) : Prop := ∀ x H (Q Q' : VK), (∀ v H, Q v H → Q' v H) → r x H Q → r x H Q'
def MonC (r : List V → Hp → VK → Prop) : Prop := ∀ x H (Q Q' : VK), (∀ v H, Q v H → Q' v H) → r x H Q → r x H Q'
def MonM (r : V → List V → Hp → VK → Prop) : Prop := ∀ x y H (Q Q' : VK), (∀ v H, Q v H → Q' v H) → r x y H Q → r x y H Q'
def MonL (r : V → Option Int → Option Int → Hp → VK → Prop) : Prop := ∀ x y z H (Q Q' : VK), (∀ v H, Q v H → Q' v H) → r x y z H Q → r x y z H Q'
def MonG (g : TG) : Prop := ∀ v σ H (Q Q' : L2.St → Hp → Prop), (∀ σ H, Q σ H → Q' σ H) → g v σ H Q → g v σ H Q'
def MonGs (g : TGs) : Prop := ∀ v σ H (Q Q' : L2.St → Hp → Prop), (∀ σ H, Q σ H → Q' σ H) → g v σ H Q → g v σ H Q'
def MonI (t : TI) : Prop := ∀ σ H (Q Q' : It → Hp → Prop), (∀ v H, Q v H → Q' v H) → t σ H Q → t σ H Q'
def MonP (sp : Sp) : Prop := ∀ vs H (Q Q' : VK) E, (∀ v H, Q v H → Q' v H) → sp vs H Q E → sp vs H Q' E
def EndsLe (D D' : Ends) : Prop := (∀ σ H, D.nx σ H → D'.nx σ H) ∧ (∀ v H, D.rt v H → D'.rt v H) ∧ (∀ σ H, D.bk σ H → D'.bk σ H) ∧ (∀ σ H, D.ct σ H → D'.ct σ H)
def MonS (t : TS) : Prop := ∀ D D' σ H, EndsLe D D' → t D σ H → t D' σ H
section
variable {t u : TS} {te ta tb tc : TE} {c c' : TT} {g : TG} {gs : TGs} {tr : TA} {r r' : R2} {wi : TI}
/-- THE CUT: P holds between both -/
theorem rd_cut {D : Ends} {σ : L2.St} {H : Hp} (P : L2.St → Hp → Prop) (m : MonS t) (h1 : t { D with nx := P } σ H) (h2 : ∀ σ H, P σ H → u D σ H) : tSeq t u D σ H :=
  m { D with nx := P } { D with nx := u D } σ H ⟨h2, fun _ _ h => h, fun _ _ h => h, fun _ _ h => h⟩ h1
theorem rd_cutE {σ : L2.St} {H : Hp} {Q : VK} (P : VK) (m : MonE te) (h1 : te σ H P) (h2 : ∀ v H, P v H → Q v H) : te σ H Q := m _ _ _ _ h2 h1
theorem me_var {i : Nat} : MonE (tVar i) := fun σ H Q Q' h ⟨v, e, q⟩ => ⟨v, e, h _ _ q⟩
theorem me_c {v : V} : MonE (tC v) := fun σ H Q Q' h q => h _ _ q
theorem me_op (m : MonR r) (a : MonE ta) (b : MonE tb) : MonE (tOp r ta tb) := fun σ H Q Q' h q => a _ _ _ _ (fun _ _ z => b _ _ _ _ (fun _ _ z' => m _ _ _ _ _ h z') z) q
theorem me_un {r : V → Hp → VK → Prop} (m : MonU r) (a : MonE ta) : MonE (tUn r ta) := fun σ H Q Q' h q => a _ _ _ _ (fun _ _ z => m _ _ _ _ h z) q
theorem me_fld {K : PySem.W.Frag} {f : Str} (a : MonE ta) : MonE (tFld K ta f) := fun σ H Q Q' h q => a _ _ _ _ (fun _ _ ⟨x, C, dx, fs, v, e1, e2, e3, e4, e5, z⟩ => ⟨x, C, dx, fs, v, e1, e2, e3, e4, e5, h _ _ z⟩) q
theorem me_tup (a : MonA tr) : MonE (tTup tr) := fun σ H Q Q' h q => a _ _ _ _ (fun _ _ ⟨l, z⟩ => ⟨l, fun p hp => h _ _ (z p hp)⟩) q
theorem me_lst (a : MonA tr) : MonE (tLst tr) := fun σ H Q Q' h q => a _ _ _ _ (fun _ _ ⟨l, z⟩ => ⟨l, fun p hp => h _ _ (z p hp)⟩) q
theorem me_call {sp : Sp} {dvs : List V} {E : XK} (m : MonP sp) (a : MonA tr) : MonE (tCall sp dvs E tr) := fun σ H Q Q' h q => a _ _ _ _ (fun _ _ z => m _ _ _ _ _ h z) q
theorem me_meth {C : Addr} {n : Str} {sp : Sp} {dvs : List V} {E : XK} (m : MonP sp) (a : MonE ta) (b : MonA tr) : MonE (tMeth C n sp dvs E ta tr) := fun σ H Q Q' h q => a _ _ _ _ (fun _ _ ⟨x, dx, fs, e1, e2, e3, z⟩ => ⟨x, dx, fs, e1, e2, e3, b _ _ _ _ (fun _ _ y => m _ _ _ _ _ h y) z⟩) q
theorem me_cb {r : List V → Hp → VK → Prop} (m : MonC r) (a : MonA tr) : MonE (tCB r tr) := fun σ H Q Q' h q => a _ _ _ _ (fun _ _ z => m _ _ _ _ h z) q
theorem me_bm {K : PySem.W.Frag} {T : String} {r : V → List V → Hp → VK → Prop} (m : MonM r) (a : MonE ta) (b : MonA tr) : MonE (tBM K T r ta tr) := fun σ H Q Q' h q => a _ _ _ _ (fun _ _ ⟨y, z⟩ => ⟨y, b _ _ _ _ (fun _ _ z' => m _ _ _ _ _ h z') z⟩) q
theorem me_bm0 {K : PySem.W.Frag} {T : String} {r : V → List V → Hp → VK → Prop} (m : MonM r) (a : MonE ta) : MonE (tBM0 K T r ta) := fun σ H Q Q' h q => a _ _ _ _ (fun _ _ ⟨y, z⟩ => ⟨y, m _ _ _ _ _ h z⟩) q
theorem me_andV (a : MonE ta) (b : MonE tb) : MonE (tAndV ta tb) := fun σ H Q Q' h q => a _ _ _ _ (fun _ _ ⟨k, e, z⟩ => ⟨k, e, by cases k; exact h _ _ z; exact b _ _ _ _ h z⟩) q
theorem me_orV (a : MonE ta) (b : MonE tb) : MonE (tOrV ta tb) := fun σ H Q Q' h q => a _ _ _ _ (fun _ _ ⟨k, e, z⟩ => ⟨k, e, by cases k; exact b _ _ _ _ h z; exact h _ _ z⟩) q
theorem me_notV (a : MonE ta) : MonE (tNotV ta) := fun σ H Q Q' h q => a _ _ _ _ (fun _ _ ⟨k, e, z⟩ => ⟨k, e, h _ _ z⟩) q
theorem me_if (m : MonT c) (a : MonE ta) (b : MonE tb) : MonE (tIf c ta tb) := fun σ H Q Q' h q => m _ _ _ _ (fun k _ z => by cases k; exact b _ _ _ _ h z; exact a _ _ _ _ h z) q
theorem me_chain (m : MonR r) (m' : MonR r') (a : MonE ta) (b : MonE tb) (d : MonE tc) : MonE (tChain r r' ta tb tc) := fun σ H Q Q' h q =>
  a _ _ _ _ (fun _ _ z => b _ _ _ _ (fun _ _ z' => m _ _ _ _ _ (fun _ _ ⟨k, e, y⟩ => ⟨k, e, by cases k; exact h _ _ y; exact d _ _ _ _ (fun _ _ y' => m' _ _ _ _ _ h y') y⟩) z') z) q
theorem me_sl {rl : V → Option Int → Option Int → Hp → VK → Prop} {tl th : TO} (m : MonL rl) (a : MonE te) (b : MonO tl) (d : MonO th) : MonE (tSl rl te tl th) := fun σ H Q Q' h q => a _ _ _ _ (fun _ _ z => b _ _ _ _ (fun _ _ z => d _ _ _ _ (fun _ _ z => m _ _ _ _ _ _ h z) z) z) q
theorem me_dget {td ty : TE} (a : MonE td) (b : MonE ty) : MonE (tDGet td ty) := fun σ H Q Q' h q => a _ _ _ _ (fun _ _ z => b _ _ _ _ (fun _ _ ⟨x, v, e1, e2, z⟩ => ⟨x, v, e1, e2, h _ _ z⟩) z) q
theorem me_dget2 {td ty tx : TE} (a : MonE td) (b : MonE ty) (d : MonE tx) : MonE (tDGet2 td ty tx) := fun σ H Q Q' h q => a _ _ _ _ (fun _ _ ⟨x, e1, e2, z⟩ => ⟨x, e1, e2, b _ _ _ _ (fun _ _ z => d _ _ _ _ (fun _ _ ⟨o, e3, z⟩ => ⟨o, e3, h _ _ z⟩) z) z⟩) q
theorem me_din {td ty : TE} (a : MonE td) (b : MonE ty) : MonE (tDIn ty td) := fun σ H Q Q' h q => b _ _ _ _ (fun _ _ z => a _ _ _ _ (fun _ _ ⟨x, v, e1, e2, z⟩ => ⟨x, v, e1, e2, h _ _ z⟩) z) q
theorem me_dnotin {td ty : TE} (a : MonE td) (b : MonE ty) : MonE (tDNotIn ty td) := fun σ H Q Q' h q => b _ _ _ _ (fun _ _ z => a _ _ _ _ (fun _ _ ⟨x, v, e1, e2, z⟩ => ⟨x, v, e1, e2, h _ _ z⟩) z) q
theorem me_dsetd {td ty tx : TE} (a : MonE td) (b : MonE ty) (d : MonE tx) : MonE (tDSetd td ty tx) := fun σ H Q Q' h q =>
  a _ _ _ _ (fun _ _ ⟨x, e1, e2, z⟩ => ⟨x, e1, e2, b _ _ _ _ (fun _ _ z => d _ _ _ _ (fun _ _ ⟨kvs, k, e3, e4, e5, z1, z2⟩ => ⟨kvs, k, e3, e4, e5, fun v hv => h _ _ (z1 v hv), fun hv => h _ _ (z2 hv)⟩) z) z⟩) q
theorem mt_test' (a : MonE te) : MonT (tTest te) := fun σ H Q Q' h q => a _ _ _ _ (fun _ _ ⟨k, e, z⟩ => ⟨k, e, h _ _ z⟩) q
theorem mt_B (a : MonE te) : MonT (tB te) := fun σ H Q Q' h q => a _ _ _ _ (fun _ _ ⟨k, e, z⟩ => ⟨k, e, h _ _ z⟩) q
theorem mt_and (a : MonT c) (b : MonT c') : MonT (tAnd c c') := fun σ H Q Q' h q => a _ _ _ _ (fun k _ z => by cases k; exact h _ _ z; exact b _ _ _ _ h z) q
theorem mt_or (a : MonT c) (b : MonT c') : MonT (tOr c c') := fun σ H Q Q' h q => a _ _ _ _ (fun k _ z => by cases k; exact b _ _ _ _ h z; exact h _ _ z) q
theorem mt_not (a : MonT c) : MonT (tNot c) := fun σ H Q Q' h q => a _ _ _ _ (fun k _ z => h _ _ z) q
theorem ma_nil : MonA tNil := fun σ H Q Q' h q => h _ _ q
theorem ma_cons (a : MonE ta) (b : MonA tr) : MonA (tCons ta tr) := fun σ H Q Q' h q => a _ _ _ _ (fun _ _ z => b _ _ _ _ (fun _ _ y => h _ _ y) z) q
theorem mo_none : MonO tNoPart := fun σ H Q Q' h q => h _ _ q
theorem mo_some (a : MonE te) : MonO (tPart te) := fun σ H Q Q' h q => a _ _ _ _ (fun _ _ ⟨i, e, z⟩ => ⟨i, e, h _ _ z⟩) q
theorem mr_I0 {f : Int → Int → V} : MonR (rI0 f) := fun x y H Q Q' h ⟨i, j, a, b, q⟩ => ⟨i, j, a, b, h _ _ q⟩
theorem mr_I {C : Int → Int → Prop} {f : Int → Int → V} : MonR (rI C f) := fun x y H Q Q' h ⟨i, j, a, b, d, q⟩ => ⟨i, j, a, b, d, h _ _ q⟩
theorem mr_eq : MonR rEq := fun x y H Q Q' h ⟨a, q⟩ => ⟨a, h _ _ q⟩
theorem mr_ne : MonR rNe := fun x y H Q Q' h ⟨a, q⟩ => ⟨a, h _ _ q⟩
theorem mr_ixL {K : PySem.W.Frag} : MonR (rIxL K) := fun x y H Q Q' h ⟨p, xs, i, v, a, b, c, d, q⟩ => ⟨p, xs, i, v, a, b, c, d, h _ _ q⟩
theorem mr_ixT {K : PySem.W.Frag} : MonR (rIxT K) := fun x y H Q Q' h ⟨p, xs, i, v, a, b, c, d, q⟩ => ⟨p, xs, i, v, a, b, c, d, h _ _ q⟩
theorem mr_ixS : MonR rIxS := fun x y H Q Q' h ⟨p, xs, i, a, b, c, d, q⟩ => ⟨p, xs, i, a, b, c, d, h _ _ q⟩
theorem mr_cat : MonR rCat := fun x y H Q Q' h ⟨l, b, xs, zs, e1, e2, e3, e4, e5, q⟩ => ⟨l, b, xs, zs, e1, e2, e3, e4, e5, fun p hp => h _ _ (q p hp)⟩
theorem mr_in {K : PySem.W.Frag} {neg : Bool} : MonR (rIn K neg) := fun x y H Q Q' h ⟨p, xs, e1, e2, e3, e4, q⟩ => ⟨p, xs, e1, e2, e3, e4, h _ _ q⟩
theorem mr_isN : MonR (fun x y H Q => y = V.non ∧ Q (.bl (decide (x = .non))) H) := fun x y H Q Q' h ⟨a, q⟩ => ⟨a, h _ _ q⟩
theorem mr_notN : MonR (fun x y H Q => y = V.non ∧ Q (.bl (!decide (x = .non))) H) := fun x y H Q Q' h ⟨a, q⟩ => ⟨a, h _ _ q⟩
theorem mu_U {f : Int → V} : MonU (rU f) := fun x H Q Q' h ⟨i, a, q⟩ => ⟨i, a, h _ _ q⟩
theorem mc_len {K : PySem.W.Frag} : MonC (rLenS K) := fun x H Q Q' h ⟨p, ys, a, b, q⟩ => ⟨p, ys, a, b, h _ _ q⟩
theorem mc_isi {K : PySem.W.Frag} : MonC (rIsi K) := fun x H Q Q' h ⟨x', c, t, u, b, a1, a2, a3, a4, q⟩ => ⟨x', c, t, u, b, a1, a2, a3, a4, h _ _ q⟩
theorem mm_append : MonM rAppend := fun x y H Q Q' h ⟨l, xs, z, a, b, c, d, q⟩ => ⟨l, xs, z, a, b, c, d, h _ _ q⟩
theorem mg_name {i : Nat} : MonG (gName i) := fun v σ H Q Q' h q => h _ _ q
theorem mg_tup {K : PySem.W.Frag} {n : Nat} (m : MonGs gs) : MonG (gTup K n gs) := fun v σ H Q Q' h ⟨a, xs, e1, e2, e3, q⟩ => ⟨a, xs, e1, e2, e3, m _ _ _ _ _ h q⟩
theorem mgs_nil : MonGs gNil := fun v σ H Q Q' h ⟨e, q⟩ => ⟨e, h _ _ q⟩
theorem mgs_cons (a : MonG g) (b : MonGs gs) : MonGs (gCons g gs) := fun v σ H Q Q' h ⟨x, r, e, q⟩ => ⟨x, r, e, a _ _ _ _ _ (fun _ _ z => b _ _ _ _ _ h z) q⟩
theorem mi_L {K : PySem.W.Frag} (a : MonE te) : MonI (iList K te) := fun σ H Q Q' h q => a _ _ _ _ (fun _ _ ⟨x, e1, e2, z⟩ => ⟨x, e1, e2, h _ _ z⟩) q
theorem mi_T {K : PySem.W.Frag} (a : MonE te) : MonI (iTup K te) := fun σ H Q Q' h q => a _ _ _ _ (fun _ _ ⟨x, e1, e2, z⟩ => ⟨x, e1, e2, h _ _ z⟩) q
theorem mi_R1 (a : MonA tr) : MonI (iRng1 tr) := fun σ H Q Q' h q => a _ _ _ _ (fun _ _ ⟨j, e1, e2, e3, z⟩ => ⟨j, e1, e2, e3, h _ _ z⟩) q
theorem mi_R2 (a : MonA tr) : MonI (iRng2 tr) := fun σ H Q Q' h q => a _ _ _ _ (fun _ _ ⟨i, j, e1, e2, z⟩ => ⟨i, j, e1, e2, h _ _ z⟩) q
theorem mi_R3 (a : MonA tr) : MonI (iRng3 tr) := fun σ H Q Q' h q => a _ _ _ _ (fun _ _ ⟨i, j, c, n, e1, e2, z⟩ => ⟨i, j, c, n, e1, e2, h _ _ z⟩) q
theorem mi_E {K : PySem.W.Frag} (a : MonA tr) : MonI (iEnum K tr) := fun σ H Q Q' h q => a _ _ _ _ (fun _ _ ⟨x, xs, e1, e2, z⟩ => ⟨x, xs, e1, e2, h _ _ z⟩) q
theorem mi_S (a : MonE te) : MonI (iStr te) := fun σ H Q Q' h q => a _ _ _ _ (fun _ _ ⟨x, e1, z⟩ => ⟨x, e1, h _ _ z⟩) q
theorem mi_Z {K : PySem.W.Frag} (a : MonA tr) : MonI (iZip K tr) := fun σ H Q Q' h q => a _ _ _ _ (fun _ _ ⟨x, y, xs, ys, e1, e2, e3, z⟩ => ⟨x, y, xs, ys, e1, e2, e3, h _ _ z⟩) q
theorem EndsLe.seq {D D' : Ends} (h : EndsLe D D') {P P' : L2.St → Hp → Prop} (hp : ∀ σ H, P σ H → P' σ H) : EndsLe { D with nx := P } { D' with nx := P' } := ⟨hp, h.2.1, h.2.2.1, h.2.2.2⟩
theorem ms_next : MonS tNext := fun D D' σ H h q => h.1 _ _ q
theorem ms_seq (a : MonS t) (b : MonS u) : MonS (tSeq t u) := fun D D' σ H h q => a _ _ _ _ (h.seq fun _ _ z => b _ _ _ _ h z) q
theorem ms_asg (a : MonE te) (b : MonG g) : MonS (tAsg te g) := fun D D' σ H h q => a _ _ _ _ (fun _ _ z => b _ _ _ _ _ h.1 z) q
theorem ms_drop (a : MonE te) : MonS (tDrop te) := fun D D' σ H h q => a _ _ _ _ (fun _ _ z => h.1 _ _ z) q
theorem ms_ret (a : MonE te) : MonS (tRet te) := fun D D' σ H h q => a _ _ _ _ h.2.1 q
theorem ms_retN : MonS tRetN := fun D D' σ H h q => h.2.1 _ _ q
theorem ms_if (a : MonT c) (b : MonS t) (d : MonS u) : MonS (tIfS c t u) := fun D D' σ H h q => a _ _ _ _ (fun k _ z => by cases k; exact d _ _ _ _ h z; exact b _ _ _ _ h z) q
theorem ms_brk : MonS tBreak := fun D D' σ H h q => h.2.2.1 _ _ q
theorem ms_cont : MonS tCont := fun D D' σ H h q => h.2.2.2 _ _ q
theorem ms_never : MonS tNever := fun D D' σ H h q => q
theorem ms_dput {td ty tv : TE} (a : MonE td) (b : MonE ty) (d : MonE tv) : MonS (sDPut td ty tv) := fun D D' σ H h q => d _ _ _ _ (fun _ _ z => a _ _ _ _ (fun _ _ z => b _ _ _ _ (fun _ _ ⟨x, H4, e1, e2, z⟩ => ⟨x, H4, e1, e2, h.1 _ _ z⟩) z) z) q
theorem ms_fldS {K : PySem.W.Frag} {f : Str} (a : MonE ta) (b : MonE tb) : MonS (sFld K ta tb f) := fun D D' σ H h q => b _ _ _ _ (fun _ _ z => a _ _ _ _ (fun _ _ ⟨x, C, dx, fs, e1, e2, e3, e4, e5, z⟩ => ⟨x, C, dx, fs, e1, e2, e3, e4, e5, h.1 _ _ z⟩) z) q
theorem ms_for (a : MonI wi) (b : MonG g) (d : MonS t) : MonS (tFor wi g t) := fun D D' σ H h q =>
  a _ _ _ _ (fun J H1 ⟨W, w0, z⟩ => ⟨W, w0, fun i m σ H hw => by
    rcases z i m σ H hw with ⟨s, y⟩ | ⟨s, N, hN, y⟩
    · exact .inl ⟨s, h.1 _ _ y⟩
    · exact .inr ⟨s, N, hN, fun x H' hy => b _ _ _ _ _ (fun _ _ y' => d { D with nx := N, ct := N, bk := D.nx } { D' with nx := N, ct := N, bk := D'.nx } _ _ ⟨fun _ _ z => z, h.2.1, h.1, fun _ _ z => z⟩ y') (y x H' hy)⟩⟩) q
theorem ms_while (a : MonT c) (b : MonS t) : MonS (tWhile c t) := fun D D' σ H h ⟨W, w0, z⟩ => ⟨W, w0, fun m σ H hw => a _ _ _ _ (fun k H1 y => by
  cases k
  · exact h.1 _ _ y
  · obtain ⟨N, hN, y⟩ := y
    exact ⟨N, hN, b { D with nx := N, ct := N, bk := D.nx } { D' with nx := N, ct := N, bk := D'.nx } _ _ ⟨fun _ _ z => z, h.2.1, h.1, fun _ _ z => z⟩ y⟩) (z m σ H hw)⟩
theorem me_lc {te' : TE} {tt' : TT} {g' : TG} {vs : List Nat} (a : MonI wi) : MonE (tLc wi g' tt' te' vs) := fun σ H Q Q' h q => a _ _ _ _ (fun J H1 z D hD => by
  obtain ⟨W, w0, z⟩ := z D hD
  exact ⟨W, w0, fun i m H hw => (z i m H hw).imp (fun ⟨s, y⟩ => ⟨s, h _ _ y⟩) id⟩) q
theorem me_m1 {rm : V → List V → Hp → VK → Prop} (m : MonM rm) (a : MonE ta) (b : MonE tb) : MonE (tM1 rm ta tb) := fun σ H Q Q' h q => a _ _ _ _ (fun _ _ ⟨e, z⟩ => ⟨e, b _ _ _ _ (fun _ _ z' => m _ _ _ _ _ h z') z⟩) q
theorem mm_split : MonM (fun x xs H Q => ∃ a b, x = .str a ∧ xs = [.str b] ∧ (b.length == 0) = false ∧ a.length + 2 ≤ sizeLine ∧ rNewStrs (Txt.split a b) H Q) := fun x y H Q Q' h ⟨a, b, e1, e2, e3, e4, q⟩ => ⟨a, b, e1, e2, e3, e4, fun p hp => h _ _ (q p hp)⟩
end
end JF

local macro_rules | `(tactic| walk_at "mono1") => `(tactic| first | assumption | (with_reducible apply JF.me_var) | (with_reducible apply JF.me_c) | (with_reducible apply JF.me_op) | (with_reducible apply JF.me_un) | (with_reducible apply JF.me_fld) | (with_reducible apply JF.me_tup) | (with_reducible apply JF.me_lst) | (with_reducible apply JF.me_call) | (with_reducible apply JF.me_meth) | (with_reducible apply JF.me_cb) | (with_reducible apply JF.me_bm) | (with_reducible apply JF.me_bm0) | (with_reducible apply JF.me_andV) | (with_reducible apply JF.me_orV) | (with_reducible apply JF.me_notV) | (with_reducible apply JF.me_if) | (with_reducible apply JF.me_chain) | (with_reducible apply JF.me_sl) | (with_reducible apply JF.me_dget) | (with_reducible apply JF.me_dget2) | (with_reducible apply JF.me_din) | (with_reducible apply JF.me_dnotin) | (with_reducible apply JF.me_dsetd) | (with_reducible apply JF.me_lc) | (with_reducible apply JF.me_m1) | (with_reducible exact JF.mm_split) | (with_reducible apply JF.mt_test') | (with_reducible apply JF.mt_B) | (with_reducible apply JF.mt_and) | (with_reducible apply JF.mt_or) | (with_reducible apply JF.mt_not) | (with_reducible apply JF.ma_nil) | (with_reducible apply JF.ma_cons) | (with_reducible apply JF.mo_none) | (with_reducible apply JF.mo_some) | (with_reducible apply JF.mr_I0) | (with_reducible apply JF.mr_I) | (with_reducible apply JF.mr_eq) | (with_reducible apply JF.mr_ne) | (with_reducible apply JF.mr_ixL) | (with_reducible apply JF.mr_ixT) | (with_reducible apply JF.mr_ixS) | (with_reducible apply JF.mr_cat) | (with_reducible apply JF.mr_in) | (with_reducible apply JF.mr_isN) | (with_reducible apply JF.mr_notN) | (with_reducible apply JF.mu_U) | (with_reducible apply JF.mc_len) | (with_reducible apply JF.mc_isi) | (with_reducible apply JF.mm_append) | (with_reducible apply JF.mg_name) | (with_reducible apply JF.mg_tup) | (with_reducible apply JF.mgs_nil) | (with_reducible apply JF.mgs_cons) | (with_reducible apply JF.mi_L) | (with_reducible apply JF.mi_T) | (with_reducible apply JF.mi_R1) | (with_reducible apply JF.mi_R2) | (with_reducible apply JF.mi_R3) | (with_reducible apply JF.mi_E) | (with_reducible apply JF.mi_S) | (with_reducible apply JF.mi_Z) | (with_reducible apply JF.ms_next) | (with_reducible apply JF.ms_seq) | (with_reducible apply JF.ms_asg) | (with_reducible apply JF.ms_drop) | (with_reducible apply JF.ms_ret) | (with_reducible apply JF.ms_retN) | (with_reducible apply JF.ms_if) | (with_reducible apply JF.ms_brk) | (with_reducible apply JF.ms_cont) | (with_reducible apply JF.ms_never) | (with_reducible apply JF.ms_dput) | (with_reducible apply JF.ms_fldS) | (with_reducible apply JF.ms_for) | (with_reducible apply JF.ms_while))
local macro_rules | `(tactic| walk_at "mono") => `(tactic| repeat' walk_at "mono1")
/-! ### a grove in the heap -/
namespace JF
open PySem PySem.Spec PyProof.Rows L2
theorem nodup_sub_len {α : Type} [DecidableEq α] : ∀ (l m : List α), l.Nodup → (∀ x ∈ l, x ∈ m) → l.length ≤ m.length
  | [], m, _, _ => Nat.zero_le _
  | x :: l, m, h, hs => by
    rw [List.nodup_cons] at h
    have hx : x ∈ m := hs x List.mem_cons_self
    have ih := nodup_sub_len l (m.erase x) h.2 fun y hy => (List.mem_erase_of_ne (fun e => h.1 (by rw [← e]; exact hy))).mpr (hs y (List.mem_cons_of_mem _ hy))
    rw [List.length_erase_of_mem hx] at ih
    have : 0 < m.length := List.length_pos_of_mem hx
    show l.length + 1 ≤ m.length
    omega
theorem states_len {l : List Int} (h : l.Nodup) (hs : ∀ x ∈ l, 0 ≤ x ∧ x ≤ 7) : l.length ≤ 8 :=
  nodup_sub_len l [0, 1, 2, 3, 4, 5, 6, 7] h fun x hx => by
    have := hs x hx
    simp only [List.mem_cons, List.not_mem_nil, or_false]
    omega
structure GA where
  g : Addr
  dx : Addr
  dn : Addr
  dm : Addr
  dl : Addr
  dv : Addr
  ds : Addr
  dp : Addr
def GA.flds (a : GA) : List (Str × V) := [("numbers", .ref a.dn), ("made", .ref a.dm), ("levels", .ref a.dl), ("lives", .ref a.dv), ("spans", .ref a.ds), ("plain", .ref a.dp)]
def GA.m5 (a : GA) : List Addr := [a.dn, a.dm, a.dl, a.dv, a.ds]
def GA.muts (a : GA) (rows : List (Int × Addr)) : List Addr := a.m5 ++ a.dp :: rows.map (·.2)
/-- a span as a value -/
def SpanV (H : Hp) (v : V) : Option Box → Prop
  | none => v = .non
  | some b => ∃ p, v = .ref p ∧ H p = some (.tup [.int b.1, .int b.2.1, .int b.2.2.1, .int b.2.2.2])
theorem SpanV.keep {H H' : Hp} {v : V} {o : Option Box} (h : SpanV H v o) (k : ∀ b xs, H b = some (.tup xs) → H' b = some (.tup xs)) : SpanV H' v o := by
  cases o with
  | none => exact h
  | some b =>
    obtain ⟨p, e, hp⟩ := h
    exact ⟨p, e, k _ _ hp⟩
/-- what the lists of a grove hold -/
structure GData (H : Hp) (a : GA) (q : List Sq) (tups : List Addr) (mk : List (List Int)) (spt : List V) : Prop where
  hn : H a.dn = some (.dT (kvsOf mk 0))
  hm : H a.dm = some (.lst (tups.map V.ref))
  hl : H a.dl = some (.lst (q.map fun S => V.int (S.level : Int)))
  hv : H a.dv = some (.lst (q.map fun S => V.int S.lives))
  hs : H a.ds = some (.lst spt)
  lt : tups.length = q.length
  lm : mk.length = q.length
  ls : spt.length = q.length
  tu : ∀ (i : Nat) t m, tups[i]? = some t → mk[i]? = some m → H t = some (.tup (m.map V.int))
  sp : ∀ (i : Nat) v S, spt[i]? = some v → q[i]? = some S → SpanV H v S.span
  md : ∀ (i : Nat) m S, mk[i]? = some m → q[i]? = some S → Made q S m
structure GAt (C : Addr) (H : Hp) (a : GA) (rows : List (Int × Addr)) (q : List Sq) : Prop where
  ob : H a.g = some (.ins C a.dx a.flds)
  da : ∃ tups mk spt, GData H a q tups mk spt
  wf : ∀ S ∈ q, S.wf
  qn : q.Nodup
  pl : H a.dp = some (.dK (rows.map fun sa => ((Sum.inl sa.1 : Key), V.ref sa.2)))
  nd : (a.g :: a.muts rows).Nodup
  rn : (rows.map (·.1)).Nodup
  rs : ∀ s ∈ rows.map (·.1), 0 ≤ s ∧ s ≤ 7
  ro : ∀ s b, (s, b) ∈ rows → ∃ ns : List Nat, H b = some (.lst (ns.map fun (n : Nat) => V.int (n : Int))) ∧ ∀ (i : Nat) n, ns[i]? = some n → q[n]? = some (Sq.even i s)
/-- all but what stands at these addresses is as it was -/
def Fr (S : List Addr) (H H' : Hp) : Prop := ∀ b o, H b = some o → b ∉ S → H' b = some o
theorem Fr.refl (S : List Addr) (H : Hp) : Fr S H H := fun _ _ h _ => h
theorem Fr.trans {S : List Addr} {H H1 H2 : Hp} (x : Fr S H H1) (y : Fr S H1 H2) : Fr S H H2 := fun b o h n => y b o (x b o h n) n
theorem Fr.mono {S S' : List Addr} {H H' : Hp} (x : Fr S H H') (h : ∀ b ∈ S, b ∈ S') : Fr S' H H' := fun b o e n => x b o e fun z => n (h b z)
theorem fr_of {S : List Addr} {H H' : Hp} (x : Same H H') : Fr S H H' := fun b o e _ => x b o e
def HO.still : HO → Prop
  | .tup _ | .ins _ _ _ | .own _ => True
  | _ => False
/-- a grove stands where its own lists, the tuples and the instances are kept -/
theorem GAt.keep {C : Addr} {H H' : Hp} {a : GA} {rows : List (Int × Addr)} {q : List Sq} (G : GAt C H a rows q) (k : ∀ b o, H b = some o → HO.still o ∨ b ∈ a.muts rows → H' b = some o) : GAt C H' a rows q := by
  obtain ⟨tups, mk, spt, D⟩ := G.da
  have mem : ∀ b, b ∈ a.m5 → b ∈ a.muts rows := fun b h => List.mem_append_left _ h
  refine ⟨k _ _ G.ob (.inl trivial), ⟨tups, mk, spt, k _ _ D.hn (.inr (mem _ (by simp [GA.m5]))), k _ _ D.hm (.inr (mem _ (by simp [GA.m5]))), k _ _ D.hl (.inr (mem _ (by simp [GA.m5]))), k _ _ D.hv (.inr (mem _ (by simp [GA.m5]))), k _ _ D.hs (.inr (mem _ (by simp [GA.m5]))), D.lt, D.lm, D.ls,
    fun i t m h1 h2 => k _ _ (D.tu i t m h1 h2) (.inl trivial), fun i v S h1 h2 => (D.sp i v S h1 h2).keep fun b xs e => k _ _ e (.inl trivial), D.md⟩, G.wf, G.qn, k _ _ G.pl (.inr (by simp [GA.muts])), G.nd, G.rn, G.rs, fun s b h => ?_⟩
  obtain ⟨ns, h1, h2⟩ := G.ro s b h
  refine ⟨ns, k _ _ h1 (.inr ?_), h2⟩
  unfold GA.muts
  exact List.mem_append_right _ (List.mem_cons_of_mem _ (List.mem_map_of_mem (f := fun sa : Int × Addr => sa.2) h))
theorem GAt.same {C : Addr} {H H' : Hp} {a : GA} {rows : List (Int × Addr)} {q : List Sq} (G : GAt C H a rows q) (s : Same H H') : GAt C H' a rows q := G.keep fun b o e _ => s b o e
/-- a new object is laid -/
theorem same_upd {H : Hp} {p : Addr} {o : HO} (h : H p = none) : Same H (upd H p o) := fun b u e => by rw [upd_ne (ne_of_none e h)]; exact e
/-- a list, a dict of the asker's own is changed -/
theorem GAt.upd {C : Addr} {H : Hp} {a : GA} {rows : List (Int × Addr)} {q : List Sq} {p : Addr} {o : HO} (G : GAt C H a rows q) (hp : ∀ u, H p = some u → ¬ HO.still u) (hn : p ∉ a.muts rows) : GAt C (upd H p o) a rows q :=
  G.keep fun b u e h => by
    rw [upd_ne]
    · exact e
    · rintro rfl
      rcases h with h | h
      · exact hp u e h
      · exact hn h
/-- a grove goes on: what was is as it was, squares were added -/
structure GStep (C : Addr) (H : Hp) (a : GA) (rows : List (Int × Addr)) (q : List Sq) (H' : Hp) (rows' : List (Int × Addr)) (q' : List Sq) : Prop where
  gat : GAt C H' a rows' q'
  pre : q <+: q'
  fr : Fr (a.muts rows) H H'
  new : ∀ b ∈ a.muts rows', b ∈ a.muts rows ∨ H b = none
theorem GStep.refl {C : Addr} {H : Hp} {a : GA} {rows : List (Int × Addr)} {q : List Sq} (G : GAt C H a rows q) : GStep C H a rows q H rows q := ⟨G, List.prefix_refl _, Fr.refl _ _, fun _ h => .inl h⟩
theorem GStep.trans {C : Addr} {H H1 H2 : Hp} {a : GA} {rows r1 r2 : List (Int × Addr)} {q q1 q2 : List Sq} (x : GStep C H a rows q H1 r1 q1) (y : GStep C H1 a r1 q1 H2 r2 q2) : GStep C H a rows q H2 r2 q2 := by
  refine ⟨y.gat, x.pre.trans y.pre, fun b o e n => ?_, fun b h => ?_⟩
  · refine y.fr b o (x.fr b o e n) fun z => ?_
    rcases x.new b z with z | z
    · exact n z
    · rw [e] at z; cases z
  · rcases y.new b h with z | z
    · exact x.new b z
    · by_cases hb : b ∈ a.muts rows
      · exact .inl hb
      · right
        cases q : H b with
        | none => rfl
        | some o =>
          rw [x.fr b o q hb] at z
          cases z
/-- the asker's own things are kept, and stay the asker's own -/
theorem GStep.own {C : Addr} {H H1 : Hp} {a : GA} {rows r1 : List (Int × Addr)} {q q1 : List Sq} (x : GStep C H a rows q H1 r1 q1) {b : Addr} {o : HO} (h : H b = some o) (n : b ∉ a.muts rows) : H1 b = some o ∧ b ∉ a.muts r1 :=
  ⟨x.fr b o h n, fun z => (x.new b z).elim n fun z => by rw [h] at z; cases z⟩
theorem pre_get {q q' : List Sq} (h : q <+: q') {n : Nat} {S : Sq} (e : q[n]? = some S) : q'[n]? = some S := by
  obtain ⟨t, rfl⟩ := h
  exact getElem?_app e t
theorem ne_app {H : Hp} {b : Addr} {o : HO} {S : List Addr} (h : H b = some o) (hs : ∀ c ∈ S, ∀ u, H c = some u → o ≠ u) (hn : ∀ c ∈ S, ∃ u, H c = some u) : b ∉ S := fun z => by
  obtain ⟨u, e⟩ := hn b z
  refine hs b z u e ?_
  rw [h] at e
  exact Option.some.inj e
/-- a tuple is none of a grove's own lists -/
theorem GAt.tup_out {C : Addr} {H : Hp} {a : GA} {rows : List (Int × Addr)} {q : List Sq} (G : GAt C H a rows q) {b : Addr} {xs : List V} (h : H b = some (.tup xs)) : b ∉ a.muts rows := by
  obtain ⟨tups, mk, spt, D⟩ := G.da
  intro z
  unfold GA.muts GA.m5 at z
  simp only [List.cons_append, List.nil_append, List.mem_cons, List.mem_map] at z
  rcases z with rfl | rfl | rfl | rfl | rfl | rfl | ⟨sa, hm, rfl⟩
  · rw [D.hn] at h; cases h
  · rw [D.hm] at h; cases h
  · rw [D.hl] at h; cases h
  · rw [D.hv] at h; cases h
  · rw [D.hs] at h; cases h
  · rw [G.pl] at h; cases h
  · obtain ⟨ns, e, _⟩ := G.ro sa.1 sa.2 hm
    rw [e] at h; cases h
/-- what is new is none of them -/
theorem GAt.new_out {C : Addr} {H : Hp} {a : GA} {rows : List (Int × Addr)} {q : List Sq} (G : GAt C H a rows q) {b : Addr} (h : H b = none) : b ∉ a.muts rows := by
  obtain ⟨tups, mk, spt, D⟩ := G.da
  intro z
  unfold GA.muts GA.m5 at z
  simp only [List.cons_append, List.nil_append, List.mem_cons, List.mem_map] at z
  rcases z with rfl | rfl | rfl | rfl | rfl | rfl | ⟨sa, hm, rfl⟩
  · rw [D.hn] at h; cases h
  · rw [D.hm] at h; cases h
  · rw [D.hl] at h; cases h
  · rw [D.hv] at h; cases h
  · rw [D.hs] at h; cases h
  · rw [G.pl] at h; cases h
  · obtain ⟨ns, e, _⟩ := G.ro sa.1 sa.2 hm
    rw [e] at h; cases h
end JF

/-! ### the grove's small defs -/
namespace JF
open PySem PySem.Spec PyProof.Rows L2
section
variable {P : Program} {w : World} {K : PySem.W.Frag} {mg : Str → Option Value} {base : Heap}
/-- is_whole of a whole number, a truth, a text, None -/
def wholeV : V → Bool
  | .int _ => true
  | _ => false
def sp_is_whole : Sp := fun vs H Q _ => ∃ x : V, vs = [x] ∧ ((∃ i, x = .int i) ∨ (∃ b, x = .bl b) ∨ (∃ z, x = .str z) ∨ x = .non) ∧ Q (.bl (wholeV x)) H
theorem isi_ty {H : Hp} {Q : VK} {x : V} {a b : String} {r : Bool} (h : TyX K H x (.type a)) (k : kitB a b = some r) (q : Q (.bl r) H) : rIsi K [x, .ty b] H Q :=
  ⟨x, .ty b, _, _, r, rfl, .ty b, h, kit_ty k, q⟩
theorem ok_is_whole (T : Env fa fn K mg) : Good P w K mg base CX0 1 ("is_whole", none) ["thing"] sp_is_whole := by
  refine good_mk T 1 (d := d_is_whole) (N := ["thing"]) (ps := ["thing"]) rfl rfl sc_is_whole (fun _ _ _ _ _ _ us hl => match us, hl with | [_], _ => rfl) (fun vs H Q E h => ?_) (fun f cdv A outer s H vs Q E hr h => ?_)
  · obtain ⟨x, rfl, _⟩ := h; rfl
  · obtain ⟨x, rfl, hx, k⟩ := h
    refine ⟨_, (pss_one (ps_ret (pe_and (pe_callB (call_isiK K rfl) (by rfl) (T.free 1) (by decide +kernel) (pa_cons (pv 0) (pa_cons (pe_bltn (v := V.ty "int") rfl (T.free 2) (by decide +kernel) rfl) pa_nil))) (pe_one (pe_not (pe_callB (call_isiK K rfl) (by rfl) (T.free 1) (by decide +kernel) (pa_cons (pv 0) (pa_cons (pe_bltn (v := V.ty "bool") rfl (T.free 0) (by decide +kernel) rfl) pa_nil)))))))), ?_⟩
    walk_at "rd"
    rcases hx with ⟨i, rfl⟩ | ⟨b, rfl⟩ | ⟨z, rfl⟩ | rfl
    · refine isi_ty (.base (.int i)) (by decide +kernel : kitB "int" "int" = some true) ?_
      walk_at "rd"
      refine isi_ty (.base (.int i)) (by decide +kernel : kitB "int" "bool" = some false) ?_
      walk_at "rd"
      exact k
    · refine isi_ty (.base (.bl b)) (by decide +kernel : kitB "bool" "int" = some true) ?_
      walk_at "rd"
      refine isi_ty (.base (.bl b)) (by decide +kernel : kitB "bool" "bool" = some true) ?_
      walk_at "rd"
      exact k
    · refine isi_ty (.base (.str z)) (by decide +kernel : kitB "str" "int" = some false) ?_
      walk_at "rd"
      exact k
    · refine isi_ty (.base .non) (by decide +kernel : kitB "NoneType" "int" = some false) ?_
      walk_at "rd"
      exact k
/-! ### a state -/
def stateV : V → Bool
  | .int i => decide (0 ≤ i) && decide (i ≤ 7)
  | _ => false
theorem stateV_ok {s : Int} (h0 : 0 ≤ s) (h7 : s ≤ 7) : stateV (.int s) = true := by show (decide (0 ≤ s) && decide (s ≤ 7)) = true; rw [decide_eq_true h0, decide_eq_true h7]; rfl
def sp_is_state : Sp := fun vs H Q _ => ∃ x : V, vs = [x] ∧ ((∃ i, x = .int i) ∨ (∃ b, x = .bl b) ∨ (∃ z, x = .str z) ∨ x = .non) ∧ Q (.bl (stateV x)) H
theorem ok_is_state (T : Env fa fn K mg) : Good P w K mg base CX0 2 ("is_state", none) ["thing"] sp_is_state := by
  have G_is_whole := ok_is_whole (P := P) (w := w) (base := base) T
  refine good_mk T 4 (d := d_is_state) (N := ["thing"]) (ps := ["thing"]) rfl rfl sc_is_state (fun _ _ _ _ _ _ us hl => match us, hl with | [_], _ => rfl) (fun vs H Q E h => ?_) (fun f cdv A outer s H vs Q E hr h => ?_)
  · obtain ⟨x, rfl, _⟩ := h; rfl
  · obtain ⟨x, rfl, hx, k⟩ := h
    refine ⟨_, (pss_one (ps_ret (pe_and (pe_cgK K rfl G_is_whole (hr.mono (by decide)) (T.glo 7) (pa_cons (pv 0) pa_nil)) (pe_one (pe_chain op_le op_le pe_int (pv 0) pe_int))))), ?_⟩
    walk_at "rd"
    refine ⟨x, rfl, hx, ?_⟩
    walk_at "rd"
    rcases hx with ⟨i, rfl⟩ | ⟨b, rfl⟩ | ⟨z, rfl⟩ | rfl
    · refine iteT ?_
      walk_at "rd"
      have k' : Q (.bl (decide (0 ≤ i) && decide (i ≤ 7))) H := k
      by_cases h0 : 0 ≤ i
      · rw [decide_eq_true h0] at k' ⊢
        walk_at "rd"
        exact k'
      · rw [decide_eq_false h0] at k' ⊢
        walk_at "rd"
        exact k'
    · refine iteF ?_
      exact k
    · refine iteF ?_
      exact k
    · refine iteF ?_
      exact k
/-! ### boxes -/
def sp_round_both : Sp := fun vs H Q _ => ∃ (v : V) (o : Option Box) (p : Addr) (b : Box), vs = [v, .ref p] ∧ SpanV H v o ∧ SpanV H (.ref p) (some b) ∧ ∀ H' u, Same H H' → SpanV H' u (some (rb o b)) → Q u H'
theorem min_if (a b : Int) : (if b < a then b else a) = min a b := by rw [Int.min_def]; split <;> split <;> omega
theorem max_if (a b : Int) : (if b > a then b else a) = max a b := by rw [Int.max_def]; split <;> split <;> omega
theorem ok_round_both (T : Env fa fn K mg) : Good P w K mg base CX0 1 ("round_both", none) ["one", "other"] sp_round_both := by
  refine good_mk T 2 (d := d_round_both) (N := ["one", "other", "left", "top", "right", "low"]) (ps := ["one", "other"]) rfl rfl sc_round_both (fun _ _ _ _ _ _ us hl => match us, hl with | [_, _], _ => rfl) (fun vs H Q E h => ?_) (fun f cdv A outer s H vs Q E hr h => ?_)
  · obtain ⟨v, o, p, b, rfl, _⟩ := h; rfl
  · obtain ⟨v, o, p, b, rfl, hv, ⟨p', e, hp⟩, k⟩ := h
    cases e
    refine ⟨_, (pss_cons (ps_if (pt_cmpR op_isN (pv 0) pe_non (nomark _)) (pss_one (ps_ret (pv 1))) pss_nil)
      (pss_cons (ps_set (i := 2) sc_round_both.nd rfl (Or.inl rfl) (pe_callB (call_min2 rfl) (by rfl) (T.free 3) (by decide +kernel) (pa_cons (pe_ix (ix_tupK K rfl) (pv 0) pe_int (fun _ _ => rfl)) (pa_cons (pe_ix (ix_tupK K rfl) (pv 1) pe_int (fun _ _ => rfl)) pa_nil))))
      (pss_cons (ps_set (i := 3) sc_round_both.nd rfl (Or.inl rfl) (pe_callB (call_min2 rfl) (by rfl) (T.free 3) (by decide +kernel) (pa_cons (pe_ix (ix_tupK K rfl) (pv 0) pe_int (fun _ _ => rfl)) (pa_cons (pe_ix (ix_tupK K rfl) (pv 1) pe_int (fun _ _ => rfl)) pa_nil))))
      (pss_cons (ps_set (i := 4) sc_round_both.nd rfl (Or.inl rfl) (pe_callB (call_max2 rfl) (by rfl) (T.free 4) (by decide +kernel) (pa_cons (pe_op op_add (pe_ix (ix_tupK K rfl) (pv 0) pe_int (fun _ _ => rfl)) (pe_ix (ix_tupK K rfl) (pv 0) pe_int (fun _ _ => rfl))) (pa_cons (pe_op op_add (pe_ix (ix_tupK K rfl) (pv 1) pe_int (fun _ _ => rfl)) (pe_ix (ix_tupK K rfl) (pv 1) pe_int (fun _ _ => rfl))) pa_nil))))
      (pss_cons (ps_set (i := 5) sc_round_both.nd rfl (Or.inl rfl) (pe_callB (call_max2 rfl) (by rfl) (T.free 4) (by decide +kernel) (pa_cons (pe_op op_add (pe_ix (ix_tupK K rfl) (pv 0) pe_int (fun _ _ => rfl)) (pe_ix (ix_tupK K rfl) (pv 0) pe_int (fun _ _ => rfl))) (pa_cons (pe_op op_add (pe_ix (ix_tupK K rfl) (pv 1) pe_int (fun _ _ => rfl)) (pe_ix (ix_tupK K rfl) (pv 1) pe_int (fun _ _ => rfl))) pa_nil))))
      (pss_one (ps_ret (pe_tup (pa_cons (pv 2) (pa_cons (pv 3) (pa_cons (pe_op op_sub (pv 4) (pv 2)) (pa_cons (pe_op op_sub (pv 5) (pv 3)) pa_nil)))))))))))), ?_⟩
    walk_at "rd"
    cases o with
    | none =>
      have e : v = .non := hv
      subst e
      refine iteT ?_
      walk_at "rd"
      exact k H _ (Same.refl H) ⟨p, rfl, hp⟩
    | some a =>
      obtain ⟨q, rfl, hq⟩ := hv
      refine iteF ?_
      walk_at "rd"
      refine rd_new (hn := by show 4 ≤ sizeLine; decide) fun t ht => ?_
      walk_at "rd"
      refine k _ _ (fun b o e => by rw [upd_ne (ne_of_none e ht)]; exact e) ⟨t, rfl, ?_⟩
      rw [upd_same]
      simp only [rb, min_if, max_if]
/-! ### the span of four -/
def acc4 (half : Int) (os : List (Option Box)) : Nat → Option Box
  | 0 => none
  | k + 1 => r4step half (k : Int) (acc4 half os k) (os.getD k none)
def sp_round_four : Sp := fun vs H Q _ => ∃ (p : Addr) (us : List V) (os : List (Option Box)) (half : Int), vs = [.ref p, .int half] ∧ H p = some (.lst us) ∧ us.length = 4 ∧ os.length = 4 ∧ (∀ (i : Nat) v o, us[i]? = some v → os[i]? = some o → SpanV H v o) ∧
  0 ≤ half ∧ half < 2 ^ 64 ∧ ∀ H' u, Same H H' → SpanV H' u (acc4 half os 4) → Q u H'
theorem half_ok {h x : Int} (h0 : 0 ≤ h) (h1 : h < 2 ^ 64) (x0 : 0 ≤ x) (x1 : x < 4) : CMulW h x := by
  have e1 : (2 : Int) ^ 64 ≤ 2 ^ 2000 := by decide +kernel
  have e2 : (4 : Int) ≤ 2 ^ 2000 := by decide +kernel
  exact mulW_of (by omega) (by omega) (by omega) (by omega)
theorem ok_round_four (T : Env fa fn K mg) : Good P w K mg base CX0 2 ("round_four", none) ["spans", "half"] sp_round_four := by
  have G_round_both := ok_round_both (P := P) (w := w) (base := base) T
  refine good_mk T 3 (d := d_round_four) (N := ["spans", "half", "found", "at", "span", "left", "top"]) (ps := ["spans", "half"]) rfl rfl sc_round_four (fun _ _ _ _ _ _ us hl => match us, hl with | [_, _], _ => rfl) (fun vs H Q E h => ?_) (fun f cdv A outer s H vs Q E hr h => ?_)
  · obtain ⟨p, us, os, half, rfl, _⟩ := h; rfl
  · obtain ⟨p, us, os, half, rfl, hp, hu, ho, hs, h0, h1, k⟩ := h
    refine ⟨_, (pss_cons (ps_set (i := 2) sc_round_four.nd rfl (Or.inl rfl) pe_non)
      (pss_cons (ps_for PassesOwn.never rfl (pi_enum (by rfl) (T.free 5) (pa_cons (pv 0) pa_nil)) (pg_tup rfl (pgs_cons (pg_name (i := 3) sc_round_four.nd rfl (Or.inl rfl)) (pgs_cons (pg_name (i := 4) sc_round_four.nd rfl (Or.inl rfl)) pgs_nil))) (pss_one (ps_if (pt_cmpR op_notN (pv 4) pe_non (nomark _)) (pss_cons (ps_set (i := 5) sc_round_four.nd rfl (Or.inl rfl) (pe_op op_add (pe_ix (ix_tupK K rfl) (pv 4) pe_int (fun _ _ => rfl)) (pe_op op_mulW (pv 1) (pe_op op_mod (pv 3) pe_int))))
      (pss_cons (ps_set (i := 6) sc_round_four.nd rfl (Or.inl rfl) (pe_op op_add (pe_ix (ix_tupK K rfl) (pv 4) pe_int (fun _ _ => rfl)) (pe_op op_mulW (pv 1) (pe_op op_fdivW (pv 3) pe_int))))
      (pss_one (ps_set (i := 2) sc_round_four.nd rfl (Or.inl rfl) (pe_cgK K rfl G_round_both (hr.mono (by decide)) (T.glo 6) (pa_cons (pv 2) (pa_cons (pe_tup (pa_cons (pv 5) (pa_cons (pv 6) (pa_cons (pe_ix (ix_tupK K rfl) (pv 4) pe_int (fun _ _ => rfl)) (pa_cons (pe_ix (ix_tupK K rfl) (pv 4) pe_int (fun _ _ => rfl)) pa_nil))))) pa_nil))))))) pss_nil)))
      (pss_one (ps_ret (pv 2))))), ?_⟩
    walk_at "rd"
    refine ⟨p, us, rfl, SqL.of hp, ?_⟩
    refine for_it (walk_enum (xs := us)) (fun i σ H' => ∃ f x1 x2 x3 x4, σ = [some (.ref p), some (.int half), some f, x1, x2, x3, x4] ∧ Same H H' ∧ SpanV H' f (acc4 half os i)) ?_ ?_ ?_ ?_
    · exact ⟨.non, none, none, none, none, rfl, Same.refl H, rfl⟩
    · rintro i σ H' _ ⟨_, _, _, _, _, _, s1, _⟩
      exact SqL.of (s1 _ _ hp)
    · rintro i x σ H1 H2 hi ⟨f, x1, x2, x3, x4, rfl, s1, hf⟩ ⟨t, x, y, rfl, ht, rfl, ex, ey⟩
      cases ex
      have hu2 : us[i]? = some y := ey
      have s2 : Same H1 (upd H1 t (.tup [V.int (i : Nat), y])) := fun b o e => by rw [upd_ne (ne_of_none e ht)]; exact e
      have hT : (upd H1 t (.tup [V.int (i : Nat), y])) t = some (.tup [V.int (i : Nat), y]) := upd_same
      walk_at "rd"
      have hi4 : i < 4 := by omega
      obtain ⟨o, ho2⟩ : ∃ o, os[i]? = some o := ⟨os[i], by simp [ho, hi4]⟩
      have eo : os.getD i none = o := by simp [List.getD, ho2]
      have hy := hs i y o hu2 ho2
      cases o with
      | none =>
        have e : y = .non := hy
        subst e
        refine iteF ?_
        walk_at "rd"
        refine ⟨f, _, _, x3, x4, rfl, s1.trans s2, ?_⟩
        show SpanV _ f (r4step half (i : Int) (acc4 half os i) (os.getD i none))
        rw [eo]
        exact hf.keep fun b xs e => s2 _ _ e
      | some b =>
        obtain ⟨q, rfl, hq⟩ := hy
        have hq2 := s2 _ _ (s1 _ _ hq)
        refine iteT ?_
        walk_at "rd"
        refine rd_I (half_ok h0 h1 (by omega) (by omega)) ?_
        walk_at "rd"
        refine rd_I (half_ok h0 h1 (by omega) (by omega)) ?_
        walk_at "rd"
        refine rd_new (hn := by show 4 ≤ sizeLine; decide) fun t2 ht2 => ?_
        have s3 : ∀ o, Same (upd H1 t (.tup [V.int (i : Nat), .ref q])) (upd (upd H1 t (.tup [V.int (i : Nat), .ref q])) t2 o) := fun o b' o' e => by rw [upd_ne (ne_of_none e ht2)]; exact e
        walk_at "rd"
        refine ⟨f, acc4 half os i, t2, (b.1 + half * ((i : Int) % 2), b.2.1 + half * ((i : Int) / 2), b.2.2.1, b.2.2.2), rfl, (hf.keep fun b xs e => s3 _ _ _ (s2 _ _ e)), ⟨t2, rfl, upd_same⟩, fun H3 u s4 hu3 => ?_⟩
        walk_at "rd"
        refine ⟨u, _, _, _, _, rfl, (s1.trans s2).trans ((s3 _).trans s4), ?_⟩
        show SpanV _ u (r4step half (i : Int) (acc4 half os i) (os.getD i none))
        rw [eo]
        exact hu3
    · rintro σ H' ⟨f, x1, x2, x3, x4, rfl, s1, hf⟩
      rw [hu] at hf
      walk_at "rd"
      exact k _ _ s1 hf
end
end JF

/-! ### the grove's methods: kept, cell, knit -/
namespace JF
open PySem PySem.Spec PyProof.Rows L2
/-- the class stands at -/
abbrev CG (K : PySem.W.Frag) : Addr := He.ga K "Grove"
theorem nd_of {a : GA} {rows : List (Int × Addr)} (h : (a.g :: a.muts rows).Nodup) :
    (a.g ≠ a.dn ∧ a.g ≠ a.dm ∧ a.g ≠ a.dl ∧ a.g ≠ a.dv ∧ a.g ≠ a.ds ∧ a.g ≠ a.dp) ∧ (a.dn ≠ a.dm ∧ a.dn ≠ a.dl ∧ a.dn ≠ a.dv ∧ a.dn ≠ a.ds ∧ a.dn ≠ a.dp) ∧ (a.dm ≠ a.dl ∧ a.dm ≠ a.dv ∧ a.dm ≠ a.ds ∧ a.dm ≠ a.dp) ∧ (a.dl ≠ a.dv ∧ a.dl ≠ a.ds ∧ a.dl ≠ a.dp) ∧ (a.dv ≠ a.ds ∧ a.dv ≠ a.dp) ∧ a.ds ≠ a.dp ∧
      ∀ s b, (s, b) ∈ rows → b ≠ a.g ∧ b ≠ a.dn ∧ b ≠ a.dm ∧ b ≠ a.dl ∧ b ≠ a.dv ∧ b ≠ a.ds ∧ b ≠ a.dp := by
  simp only [GA.muts, GA.m5, List.cons_append, List.nil_append, List.nodup_cons, List.mem_cons, not_or] at h
  obtain ⟨⟨g1, g2, g3, g4, g5, g6, g7⟩, ⟨n1, n2, n3, n4, n5, n6⟩, ⟨m1, m2, m3, m4, m5⟩, ⟨l1, l2, l3, l4⟩, ⟨v1, v2, v3⟩, ⟨s1, s2⟩, p1, _⟩ := h
  refine ⟨⟨g1, g2, g3, g4, g5, g6⟩, ⟨n1, n2, n3, n4, n5⟩, ⟨m1, m2, m3, m4⟩, ⟨l1, l2, l3⟩, ⟨v1, v2⟩, s1, fun s b hb => ?_⟩
  have hm : b ∈ rows.map (·.2) := List.mem_map_of_mem (f := fun sa : Int × Addr => sa.2) hb
  exact ⟨fun z => g7 (z ▸ hm), fun z => n6 (z ▸ hm), fun z => m5 (z ▸ hm), fun z => l4 (z ▸ hm), fun z => v3 (z ▸ hm), fun z => s2 (z ▸ hm), fun z => p1 (z ▸ hm)⟩
theorem inl_kV (m : List Int) : (m.map (Sum.inl : Int → Key)).map kV = m.map V.int := by
  rw [List.map_map]; rfl
theorem snoc_get {α β : Type} {l : List α} {x : α} {l' : List β} {y : β} (hl : l.length = l'.length) {i : Nat} {u : α} {v : β} (h1 : (l ++ [x])[i]? = some u) (h2 : (l' ++ [y])[i]? = some v) : (l[i]? = some u ∧ l'[i]? = some v) ∨ (i = l.length ∧ u = x ∧ v = y) := by
  by_cases h : i < l.length
  · rw [List.getElem?_append_left h] at h1
    rw [List.getElem?_append_left (by omega)] at h2
    exact .inl ⟨h1, h2⟩
  · have hi : i < (l ++ [x]).length := (List.getElem?_eq_some_iff.mp h1).1
    have e : i = l.length := by simp at hi; omega
    subst e
    simp at h1
    rw [hl] at h2
    simp at h2
    exact .inr ⟨rfl, h1.symm, h2.symm⟩
/-- a square that is there stands in the dict by its own number; one that is not there does not -/
theorem look_of {q : List Sq} {mk : List (List Int)} (qn : q.Nodup) (lm : mk.length = q.length) (md : ∀ (i : Nat) m S, mk[i]? = some m → q[i]? = some S → Made q S m) {S : Sq} {m : List Int} (hm : Made q S m) :
    (∀ n, lookI mk m 0 = some n → q[n]? = some S) ∧ (lookI mk m 0 = none → S ∉ q) := by
  constructor
  · intro n h
    obtain ⟨_, h2⟩ := lookI_some h
    simp only [Nat.sub_zero] at h2
    have hn : n < q.length := by rw [← lm]; exact (List.getElem?_eq_some_iff.mp h2).1
    have e : q[n]? = some q[n] := by simp [hn]
    rw [e]
    exact congrArg some (made_same (md n m _ h2 e) hm)
  · intro h hS
    obtain ⟨n, hn, e⟩ := List.mem_iff_getElem.mp hS
    have hn' : n < mk.length := by omega
    have e1 : mk[n]? = some mk[n] := by simp [hn']
    have e2 : q[n]? = some S := by simp [hn, e]
    refine lookI_none h ?_
    rw [made_inj qn hm (md n _ S e1 e2)]
    exact List.getElem_mem hn'
theorem noats {K : PySem.W.Frag} {mg : Str → Option Value} (T : Env fa fn K mg) : NoAttr K (CG K) "numbers" ∧ NoAttr K (CG K) "made" ∧ NoAttr K (CG K) "levels" ∧ NoAttr K (CG K) "lives" ∧ NoAttr K (CG K) "spans" ∧ NoAttr K (CG K) "plain" :=
  ⟨T.noat 89, T.noat 88, T.noat 86, T.noat 87, T.noat 91, T.noat 90⟩
/-- the heap behind kept -/
theorem gat_kept {C : Addr} {H H' : Hp} {a : GA} {rows : List (Int × Addr)} {q : List Sq} {tups : List Addr} {mk : List (List Int)} {spt : List V} {S : Sq} {t : Addr} {m : List Int} {v : V} (G : GAt C H a rows q) (D : GData H a q tups mk spt)
    (ht : H t = some (.tup (m.map V.int))) (hm : Made q S m) (hw : S.wf) (hS : S ∉ q) (hv : SpanV H v S.span)
    (h1 : H' a.dn = some (.dT (kvsOf (mk ++ [m]) 0))) (h2 : H' a.dm = some (.lst ((tups ++ [t]).map V.ref))) (h3 : H' a.dl = some (.lst ((q ++ [S]).map fun S => V.int (S.level : Int)))) (h4 : H' a.dv = some (.lst ((q ++ [S]).map fun S => V.int S.lives))) (h5 : H' a.ds = some (.lst (spt ++ [v])))
    (fr : Fr a.m5 H H') : GAt C H' a rows (q ++ [S]) := by
  obtain ⟨⟨g1, g2, g3, g4, g5, g6⟩, ⟨n1, n2, n3, n4, n5⟩, ⟨m1, m2, m3, m4⟩, ⟨l1, l2, l3⟩, ⟨v1, v2⟩, s1, hr⟩ := nd_of G.nd
  have out : ∀ b xs, H b = some (.tup xs) → H' b = some (.tup xs) := fun b xs e => fr b _ e fun z => G.tup_out e (List.mem_append_left _ z)
  refine ⟨fr _ _ G.ob (by simp [GA.m5, g1, g2, g3, g4, g5]), ⟨tups ++ [t], mk ++ [m], spt ++ [v], h1, h2, h3, h4, h5, by simp [D.lt], by simp [D.lm], by simp [D.ls], fun i t' m' e1 e2 => ?_, fun i v' S' e1 e2 => ?_, fun i m' S' e1 e2 => ?_⟩, fun S' h => ?_, ?_, fr _ _ G.pl (by simp [GA.m5, Ne.symm n5, Ne.symm m4, Ne.symm l3, Ne.symm v2, Ne.symm s1]), G.nd, G.rn, G.rs, fun s b hb => ?_⟩
  · rcases snoc_get (by rw [D.lt, D.lm]) e1 e2 with ⟨e1, e2⟩ | ⟨_, rfl, rfl⟩
    · exact out _ _ (D.tu i t' m' e1 e2)
    · exact out _ _ ht
  · rcases snoc_get D.ls e1 e2 with ⟨e1, e2⟩ | ⟨_, rfl, rfl⟩
    · exact (D.sp i v' S' e1 e2).keep out
    · exact hv.keep out
  · rcases snoc_get D.lm e1 e2 with ⟨e1, e2⟩ | ⟨_, rfl, rfl⟩
    · exact (D.md i m' S' e1 e2).app _
    · exact hm.app _
  · rcases List.mem_append.mp h with h | h
    · exact G.wf S' h
    · simp only [List.mem_singleton] at h; subst h; exact hw
  · rw [List.nodup_append]
    refine ⟨G.qn, by simp, fun x hx y hy e => ?_⟩
    simp only [List.mem_singleton] at hy
    subst hy
    exact hS (e ▸ hx)
  · obtain ⟨ns, e, k⟩ := G.ro s b hb
    obtain ⟨_, b1, b2, b3, b4, b5, _⟩ := hr s b hb
    refine ⟨ns, fr _ _ e (by simp [GA.m5, b1, b2, b3, b4, b5]), fun i n hn => getElem?_app (k i n hn) _⟩
section
variable {P : Program} {w : World} {K : PySem.W.Frag} {mg : Str → Option Value} {base : Heap}
def sp_kept (C : Addr) : Sp := fun vs H Q _ => ∃ (a : GA) (rows : List (Int × Addr)) (q : List Sq) (S : Sq) (t : Addr) (m : List Int) (v : V), vs = [.ref a.g, .ref t, .int (S.level : Int), .int S.lives, v] ∧ GAt C H a rows q ∧ H t = some (.tup (m.map V.int)) ∧ Made q S m ∧ S.wf ∧ S ∉ q ∧ SpanV H v S.span ∧ q.length < 16000000 ∧
  ∀ H', GAt C H' a rows (q ++ [S]) → Fr a.m5 H H' → Q (.int (q.length : Int)) H'
theorem sizeBig : 16000000 < sizeLine := by decide
theorem ok_kept (T : Env fa fn K mg) : Good P w K mg base CX0 1 ("Grove", some "kept") ["self", "made", "level", "lives", "span"] (sp_kept (CG K)) := by
  refine good_mk T 6 (d := d_Grove_kept) (N := ["self", "made", "level", "lives", "span", "number"]) (ps := ["self", "made", "level", "lives", "span"]) rfl rfl sc_Grove_kept (fun _ _ _ _ _ _ us hl => match us, hl with | [_, _, _, _, _], _ => rfl) (fun vs H Q E h => ?_) (fun f cdv A outer s H vs Q E hr h => ?_)
  · obtain ⟨a, rows, q, S, t, m, v, rfl, _⟩ := h; rfl
  · obtain ⟨a, rows, q, S, t, m, v, rfl, G, ht, hm, hw, hS, hv, hlen, k⟩ := h
    have hu := hu_of hr
    have cl : Cls K (CG K) := T.cls 9
    have hsz := sizeBig
    obtain ⟨tups, mk, spt, D⟩ := id G.da
    obtain ⟨⟨g1, g2, g3, g4, g5, g6⟩, ⟨n1, n2, n3, n4, n5⟩, ⟨m1, m2, m3, m4⟩, ⟨l1, l2, l3⟩, ⟨v1, v2⟩, s1, _⟩ := nd_of G.nd
    have hob := G.ob
    have hn := D.hn
    have hm' := D.hm
    have hl := D.hl
    have hv' := D.hv
    have hs := D.hs
    have ne : ∀ b o, H b = some o → (∀ xs, o ≠ .tup xs) → b ≠ t := fun b o e h => ne_of e ht (h _)
    refine ⟨_, (pss_cons (ps_set (i := 5) sc_Grove_kept.nd rfl (Or.inl rfl) (pe_callB (call_lenK K rfl) (by rfl) (T.free 8) (by decide +kernel) (pa_cons (pe_fldK K rfl (pv 0) rfl) pa_nil)))
      (pss_cons (ps_dput hu (pe_fldK K rfl (pv 0) rfl) (pv 1) (pv 5) rfl)
      (pss_cons (ps_expr (pe_bm PySem.F.plainAttrs_list PySem.F.slot_list_append PySem.F.type_list_append mt_append (pe_fldK K rfl (pv 0) rfl) (pa_cons (pv 1) pa_nil)))
      (pss_cons (ps_expr (pe_bm PySem.F.plainAttrs_list PySem.F.slot_list_append PySem.F.type_list_append mt_append (pe_fldK K rfl (pv 0) rfl) (pa_cons (pv 2) pa_nil)))
      (pss_cons (ps_expr (pe_bm PySem.F.plainAttrs_list PySem.F.slot_list_append PySem.F.type_list_append mt_append (pe_fldK K rfl (pv 0) rfl) (pa_cons (pv 3) pa_nil)))
      (pss_cons (ps_expr (pe_bm PySem.F.plainAttrs_list PySem.F.slot_list_append PySem.F.type_list_append mt_append (pe_fldK K rfl (pv 0) rfl) (pa_cons (pv 4) pa_nil)))
      (pss_one (ps_ret (pv 5))))))))), ?_⟩
    walk_at "rd"
    refine rd_fldR hob cl (T.noat 88) (by rfl) ?_
    walk_at "rd"
    refine rd_len (SqL.of hm') ?_
    walk_at "rd"
    refine rd_fldR hob cl (T.noat 89) (by rfl) ?_
    walk_at "rd"
    refine ⟨a.dn, _, rfl, DPut.t (k := m.map Sum.inl) hn (by rw [inl_kV]; exact ht) (by rw [kvsOf_len, D.lm]; omega), ?_⟩
    have hnone : valV (kvsOf mk 0) (m.map Sum.inl) = none := by
      rw [valV_kvsOf]
      cases e : lookI mk m 0 with
      | none => rfl
      | some n => exact (hS (List.mem_of_getElem? ((look_of G.qn D.lm D.md hm).1 n e))).elim
    rw [putK_new _ hnone]
    have e1 : kvsOf mk 0 ++ [(m.map Sum.inl, V.int (((tups.map V.ref).length : Nat) : Int))] = kvsOf (mk ++ [m]) 0 := by
      rw [kvsOf_app, Nat.zero_add, D.lm, List.length_map, D.lt]
    rw [e1]
    walk_at "rd"
    refine rd_fldR (by walk_at "hp") cl (T.noat 88) (by rfl) ?_
    refine rd_tyL (by walk_at "hp") ?_
    walk_at "rd"
    refine rd_append (xs := tups.map V.ref) (by walk_at "hp") (by rw [List.length_map, D.lt]; omega) ?_
    walk_at "rd"
    refine rd_fldR (by walk_at "hp") cl (T.noat 86) (by rfl) ?_
    refine rd_tyL (xs := q.map fun S => V.int (S.level : Int)) (by walk_at "hp") ?_
    walk_at "rd"
    refine rd_append (xs := q.map fun S => V.int (S.level : Int)) (by walk_at "hp") (by rw [List.length_map]; omega) ?_
    walk_at "rd"
    refine rd_fldR (by walk_at "hp") cl (T.noat 87) (by rfl) ?_
    refine rd_tyL (xs := q.map fun S => V.int S.lives) (by walk_at "hp") ?_
    walk_at "rd"
    refine rd_append (xs := q.map fun S => V.int S.lives) (by walk_at "hp") (by rw [List.length_map]; omega) ?_
    walk_at "rd"
    refine rd_fldR (by walk_at "hp") cl (T.noat 91) (by rfl) ?_
    refine rd_tyL (xs := spt) (by walk_at "hp") ?_
    walk_at "rd"
    refine rd_append (xs := spt) (by walk_at "hp") (by rw [D.ls]; omega) ?_
    walk_at "rd"
    rw [List.length_map, D.lt]
    refine k _ (gat_kept G D ht hm hw hS hv (by walk_at "hp") ((by walk_at "hp" : _ = some (HO.lst (tups.map V.ref ++ [V.ref t]))).trans (by simp)) ((by walk_at "hp" : _ = some (HO.lst ((q.map fun S => V.int (S.level : Int)) ++ [V.int (S.level : Int)]))).trans (by simp)) ((by walk_at "hp" : _ = some (HO.lst ((q.map fun S => V.int S.lives) ++ [V.int S.lives]))).trans (by simp)) (by walk_at "hp") ?fr) ?fr
    case fr =>
      intro b o e hb
      simp only [GA.m5, List.mem_cons, List.not_mem_nil, or_false, not_or] at hb
      obtain ⟨b1, b2, b3, b4, b5⟩ := hb
      walk_at "hp"
/-! ### cell and knit -/
theorem take_snoc {α : Type} {l : List α} {i : Nat} {v : α} (h : l[i]? = some v) : l.take (i + 1) = l.take i ++ [v] := by
  rw [List.take_add_one, h]; rfl
def sp_cell (C : Addr) : Sp := fun vs H Q _ => ∃ (a : GA) (rows : List (Int × Addr)) (q : List Sq) (s : Int), vs = [.ref a.g, .int s] ∧ GAt C H a rows q ∧ 0 ≤ s ∧ s ≤ 7 ∧ q.length < 16000000 ∧
  ∀ H' q' (n : Nat), GAt C H' a rows q' → q <+: q' → q'.length ≤ q.length + 1 → q'[n]? = some (.leaf s) → Fr a.m5 H H' → Q (.int (n : Int)) H'
theorem ok_cell (T : Env fa fn K mg) : Good P w K mg base CX0 2 ("Grove", some "cell") ["self", "state"] (sp_cell (CG K)) := by
  have G_Grove_kept := ok_kept (P := P) (w := w) (base := base) T
  refine good_mk T 7 (d := d_Grove_cell) (N := ["self", "state", "made"]) (ps := ["self", "state"]) rfl rfl sc_Grove_cell (fun _ _ _ _ _ _ us hl => match us, hl with | [_, _], _ => rfl) (fun vs H Q E h => ?_) (fun f cdv A outer s H vs Q E hr h => ?_)
  · obtain ⟨a, rows, q, s, rfl, _⟩ := h; rfl
  · obtain ⟨a, rows, q, s, rfl, G, h0, h7, hlen, k⟩ := h
    have hu := hu_of hr
    have cl : Cls K (CG K) := T.cls 9
    obtain ⟨na1, na2, na3, na4, na5, na6⟩ := noats T
    refine ⟨_, (pss_cons (ps_set (i := 2) sc_Grove_cell.nd rfl (Or.inl rfl) (pe_tup (pa_cons (pv 1) pa_nil)))
      (pss_cons (ps_if (pt_cmp (pc_din hu (pv 2) (pe_fldK K rfl (pv 0) rfl))) (pss_one (ps_ret (pe_dget hu (pe_fldK K rfl (pv 0) rfl) (pv 2) (fun _ _ => rfl)))) pss_nil)
      (pss_cons (ps_if (pt_cmpR op_eq (pv 1) pe_int (nomark _)) (pss_one (ps_ret (pe_mgK K rfl (pv 0) (T.cls 9) (T.meth 10) G_Grove_kept (hr.mono (by decide)) (pa_cons (pv 2) (pa_cons pe_int (pa_cons pe_int (pa_cons pe_non pa_nil))))))) pss_nil)
      (pss_one (ps_ret (pe_mgK K rfl (pv 0) (T.cls 9) (T.meth 10) G_Grove_kept (hr.mono (by decide)) (pa_cons (pv 2) (pa_cons pe_int (pa_cons pe_int (pa_cons (pe_tup (pa_cons pe_int (pa_cons pe_int (pa_cons pe_int (pa_cons pe_int pa_nil))))) pa_nil)))))))))), ?_⟩
    walk_at "rd"
    refine rd_new (hn := by show 1 ≤ sizeLine; decide) fun t ht => ?_
    walk_at "rd"
    have sm := same_upd (o := HO.tup [V.int s]) ht
    have G1 := G.same sm
    have ob1 := G1.ob
    obtain ⟨tups, mk, spt, D⟩ := G1.da
    have hT : (upd H t (HO.tup [V.int s])) t = some (.tup ([s].map V.int)) := upd_same
    have hT' : (upd H t (HO.tup [V.int s])) t = some (.tup (([s].map (Sum.inl : Int → Key)).map kV)) := upd_same
    walk_at "rd"
    refine ⟨a.dn, _, rfl, DGet.t (k := [s].map Sum.inl) D.hn hT', ?_⟩
    rw [valV_kvsOf]
    obtain ⟨L1, L2⟩ := look_of G.qn D.lm D.md (S := .leaf s) (m := [s]) rfl
    cases e : lookI mk [s] 0 with
    | some n =>
      walk_at "rd"
      refine iteT ?_
      walk_at "rd"
      refine ⟨a.dn, .int (n : Int), rfl, ?_, ?_⟩
      · have z := DGet.t (k := [s].map Sum.inl) D.hn hT'
        rw [valV_kvsOf, e] at z
        exact z
      · exact k _ q n G1 (List.prefix_refl _) (by omega) (L1 n e) (fr_of sm)
    | none =>
      walk_at "rd"
      refine iteF ?_
      walk_at "rd"
      have hS := L2 e
      have fin : ∀ H', GAt (CG K) H' a rows (q ++ [Sq.leaf s]) → Fr a.m5 (upd H t (HO.tup [V.int s])) H' → Q (.int (q.length : Int)) H' := fun H' g fr =>
        k H' _ q.length g (List.prefix_append _ _) (by simp) (by simp) ((fr_of sm).trans fr)
      refine ite_d (fun hs => ?_) (fun hs => ?_)
      · walk_at "rd"
        refine rd_methR G1.ob (by rfl) ?_
        walk_at "rd"
        exact ⟨a, rows, q, .leaf s, t, [s], .non, by simp [Sq.level, Sq.lives, hs], G1, hT, rfl, ⟨h0, h7⟩, hS, by simp [Sq.span, hs, SpanV], hlen, fin⟩
      · walk_at "rd"
        refine rd_methR G1.ob (by rfl) ?_
        walk_at "rd"
        refine rd_new (hn := by show 4 ≤ sizeLine; decide) fun t2 ht2 => ?_
        walk_at "rd"
        have sm2 := same_upd (o := HO.tup [V.int 0, V.int 0, V.int 1, V.int 1]) ht2
        exact ⟨a, rows, q, .leaf s, t, [s], .ref t2, by simp [Sq.level, Sq.lives, hs], G1.same sm2, sm2 _ _ hT, rfl, ⟨h0, h7⟩, hS, by simp only [Sq.span, hs, if_false]; exact ⟨t2, rfl, upd_same⟩, hlen, fun H' g fr => fin H' g ((fr_of sm2).trans fr)⟩
def sp_knit (C : Addr) : Sp := fun vs H Q _ => ∃ (a : GA) (rows : List (Int × Addr)) (q : List Sq) (A B C' D : Sq) (na nb nc nd : Nat), vs = [.ref a.g, .int (na : Int), .int (nb : Int), .int (nc : Int), .int (nd : Int)] ∧ GAt C H a rows q ∧
  q[na]? = some A ∧ q[nb]? = some B ∧ q[nc]? = some C' ∧ q[nd]? = some D ∧ (Sq.node A B C' D).wf ∧ A.level ≤ 60 ∧ q.length < 16000000 ∧
  ∀ H' q' (n : Nat), GAt C H' a rows q' → q <+: q' → q'.length ≤ q.length + 1 → q'[n]? = some (.node A B C' D) → Fr a.m5 H H' → Q (.int (n : Int)) H'
theorem map_get {α β : Type} {l : List α} {n : Nat} {x : α} (f : α → β) (h : l[n]? = some x) : (l.map f)[n]? = some (f x) := by
  rw [List.getElem?_map, h]; rfl
theorem acc4_r4 (half : Int) (a b c d : Option Box) : acc4 half [a, b, c, d] 4 = r4 half a b c d := rfl
theorem ok_knit (T : Env fa fn K mg) : Good P w K mg base CX0 3 ("Grove", some "knit") ["self", "a", "b", "c", "d"] (sp_knit (CG K)) := by
  have G_Grove_kept := ok_kept (P := P) (w := w) (base := base) T
  have G_round_four := ok_round_four (P := P) (w := w) (base := base) T
  refine good_mk T 8 (d := d_Grove_knit) (N := ["self", "a", "b", "c", "d", "made", "level", "lives", "span", "one"]) (ps := ["self", "a", "b", "c", "d"]) rfl rfl sc_Grove_knit (fun _ _ _ _ _ _ us hl => match us, hl with | [_, _, _, _, _], _ => rfl) (fun vs H Q E h => ?_) (fun f cdv A outer s H vs Q E hr h => ?_)
  · obtain ⟨a, rows, q, A, B, C', D, na, nb, nc, nd, rfl, _⟩ := h; rfl
  · obtain ⟨a, rows, q, A, B, C', D, na, nb, nc, nd, rfl, G, ha, hb, hc, hd, hwf, hlv, hlen, k⟩ := h
    have hu := hu_of hr
    have cl : Cls K (CG K) := T.cls 9
    obtain ⟨na1, na2, na3, na4, na5, na6⟩ := noats T
    refine ⟨_, (pss_cons (ps_set (i := 5) sc_Grove_knit.nd rfl (Or.inl rfl) (pe_tup (pa_cons (pv 1) (pa_cons (pv 2) (pa_cons (pv 3) (pa_cons (pv 4) pa_nil))))))
      (pss_cons (ps_if (pt_cmp (pc_din hu (pv 5) (pe_fldK K rfl (pv 0) rfl))) (pss_one (ps_ret (pe_dget hu (pe_fldK K rfl (pv 0) rfl) (pv 5) (fun _ _ => rfl)))) pss_nil)
      (pss_cons (ps_set (i := 6) sc_Grove_knit.nd rfl (Or.inl rfl) (pe_ix (ix_listK K rfl) (pe_fldK K rfl (pv 0) rfl) (pv 1) (fun _ _ => rfl)))
      (pss_cons (ps_set (i := 7) sc_Grove_knit.nd rfl (Or.inl rfl) (pe_op op_add (pe_op op_add (pe_op op_add (pe_ix (ix_listK K rfl) (pe_fldK K rfl (pv 0) rfl) (pv 1) (fun _ _ => rfl)) (pe_ix (ix_listK K rfl) (pe_fldK K rfl (pv 0) rfl) (pv 2) (fun _ _ => rfl))) (pe_ix (ix_listK K rfl) (pe_fldK K rfl (pv 0) rfl) (pv 3) (fun _ _ => rfl))) (pe_ix (ix_listK K rfl) (pe_fldK K rfl (pv 0) rfl) (pv 4) (fun _ _ => rfl))))
      (pss_cons (ps_set (i := 8) sc_Grove_knit.nd rfl (Or.inl rfl) (pe_cgK K rfl G_round_four (hr.mono (by decide)) (T.glo 11) (pa_cons (pe_lc (own := [("one", 9)]) (tt := tYes) rfl sc_Grove_knit.nd (pi_tupK K rfl (pv 5)) (blkOk_by (own := [("one", 9)]) (N := ["self", "a", "b", "c", "d", "made", "level", "lives", "span", "one"]) (sc := defScope st_Grove_knit) (by decide +kernel)) (fun _ _ _ _ _ => by exact (pg_name (i := 9) sc_Grove_knit.nd rfl (Or.inl rfl))) (fun _ _ _ _ _ => by exact pts_nil) (fun _ _ _ _ _ => by exact (pe_ix (ix_listK K rfl) (pe_fldK K rfl (pv 0) rfl) (pv 9) (fun _ _ => rfl)))) (pa_cons (pe_op op_shl pe_int (pv 6)) pa_nil))))
      (pss_one (ps_ret (pe_mgK K rfl (pv 0) (T.cls 9) (T.meth 10) G_Grove_kept (hr.mono (by decide)) (pa_cons (pv 5) (pa_cons (pe_op op_add (pv 6) pe_int) (pa_cons (pv 7) (pa_cons (pv 8) pa_nil)))))))))))), ?_⟩
    walk_at "rd"
    refine rd_new (hn := by show 4 ≤ sizeLine; decide) fun t ht => ?_
    walk_at "rd"
    have sm := same_upd (o := HO.tup [V.int (na : Int), V.int (nb : Int), V.int (nc : Int), V.int (nd : Int)]) ht
    have G1 := G.same sm
    have ob1 := G1.ob
    have hT : (upd H t (HO.tup [V.int (na : Int), V.int (nb : Int), V.int (nc : Int), V.int (nd : Int)])) t = some (.tup [V.int (na : Int), V.int (nb : Int), V.int (nc : Int), V.int (nd : Int)]) := upd_same
    generalize hH1 : upd H t (HO.tup [V.int (na : Int), V.int (nb : Int), V.int (nc : Int), V.int (nd : Int)]) = H1 at sm G1 ob1 hT ⊢
    obtain ⟨tups, mk, spt, Dt⟩ := G1.da
    have hT' : H1 t = some (.tup (([(na : Int), (nb : Int), (nc : Int), (nd : Int)].map (Sum.inl : Int → Key)).map kV)) := hT
    walk_at "rd"
    refine ⟨a.dn, _, rfl, DGet.t (k := [(na : Int), (nb : Int), (nc : Int), (nd : Int)].map Sum.inl) Dt.hn hT', ?_⟩
    rw [valV_kvsOf]
    have hM : Made q (.node A B C' D) [(na : Int), (nb : Int), (nc : Int), (nd : Int)] := ⟨na, nb, nc, nd, rfl, ha, hb, hc, hd⟩
    obtain ⟨L1, L2⟩ := look_of G.qn Dt.lm Dt.md hM
    cases e : lookI mk [(na : Int), (nb : Int), (nc : Int), (nd : Int)] 0 with
    | some n =>
      walk_at "rd"
      refine iteT ?_
      walk_at "rd"
      refine ⟨a.dn, .int (n : Int), rfl, ?_, ?_⟩
      · have z := DGet.t (k := [(na : Int), (nb : Int), (nc : Int), (nd : Int)].map Sum.inl) Dt.hn hT'
        rw [valV_kvsOf, e] at z
        exact z
      · exact k _ q n G1 (List.prefix_refl _) (by omega) (L1 n e) (fr_of sm)
    | none =>
      walk_at "rd"
      refine iteF ?_
      walk_at "rd"
      have hS := L2 e
      obtain ⟨wa, wb, wc, wd, l1, l2, l3⟩ := id hwf
      walk_at "rd"
      refine rd_ixL (SqL.of Dt.hl) (atI_nat (map_get (fun S : Sq => V.int (S.level : Int)) ha)) ?_
      walk_at "rd"
      refine rd_ixL (SqL.of Dt.hv) (atI_nat (map_get (fun S : Sq => V.int S.lives) ha)) ?_
      walk_at "rd"
      refine rd_ixL (SqL.of Dt.hv) (atI_nat (map_get (fun S : Sq => V.int S.lives) hb)) ?_
      walk_at "rd"
      refine rd_ixL (SqL.of Dt.hv) (atI_nat (map_get (fun S : Sq => V.int S.lives) hc)) ?_
      walk_at "rd"
      refine rd_ixL (SqL.of Dt.hv) (atI_nat (map_get (fun S : Sq => V.int S.lives) hd)) ?_
      walk_at "rd"
      have sv : ∀ (n : Nat) S, q[n]? = some S → ∃ v, spt[n]? = some v ∧ SpanV H1 v S.span := fun n S h => by
        have hn : n < spt.length := by rw [Dt.ls]; exact (List.getElem?_eq_some_iff.mp h).1
        exact ⟨spt[n], by simp [hn], Dt.sp n _ S (by simp [hn]) h⟩
      obtain ⟨va, ea, pa⟩ := sv _ _ ha
      obtain ⟨vb, eb, pb⟩ := sv _ _ hb
      obtain ⟨vc, ec, pc⟩ := sv _ _ hc
      obtain ⟨vd, ed, pd⟩ := sv _ _ hd
      refine ⟨t, rfl, ⟨_, SqT.of hT⟩, fun dl hdl => ?_⟩
      have ndl : ∀ b o, H1 b = some o → b ≠ dl := fun b o e => ne_of_none e hdl
      refine lc_tup (K := K) (xs := [V.int (na : Int), V.int (nb : Int), V.int (nc : Int), V.int (nd : Int)]) (fun i H' => H' = upd H1 dl (.lst ([va, vb, vc, vd].take i))) rfl (fun i H' _ e => SqT.of (by rw [e, upd_ne (ndl _ _ hT)]; exact hT)) ?_ ?_
      · rintro i x H' hx rfl
        obtain ⟨n, v, rfl, e1, e2⟩ : ∃ (n : Nat) (v : V), x = .int (n : Int) ∧ spt[n]? = some v ∧ [va, vb, vc, vd][i]? = some v := by
          match i, hx with
          | 0, hx => exact ⟨na, va, (Option.some.inj hx).symm, ea, rfl⟩
          | 1, hx => exact ⟨nb, vb, (Option.some.inj hx).symm, eb, rfl⟩
          | 2, hx => exact ⟨nc, vc, (Option.some.inj hx).symm, ec, rfl⟩
          | 3, hx => exact ⟨nd, vd, (Option.some.inj hx).symm, ed, rfl⟩
        walk_at "rd"
        refine ⟨rfl, ?_⟩
        walk_at "rd"
        refine rd_fldR (by rw [upd_ne (ndl _ _ G1.ob)]; exact G1.ob) cl na5 (by rfl) ?_
        walk_at "rd"
        refine rd_ixL (SqL.of (by rw [upd_ne (ndl _ _ Dt.hs)]; exact Dt.hs)) (atI_nat e1) ?_
        refine ⟨_, upd_same, ?_, ?_⟩
        · have : (([va, vb, vc, vd] : List V).take i).length ≤ 4 := by rw [List.length_take]; exact Nat.min_le_right _ _
          exact small1000 (by omega)
        · rw [upd_upd, take_snoc e2]
      · rintro H' rfl
        have s2 := same_upd (o := HO.lst [va, vb, vc, vd]) hdl
        walk_at "rd"
        refine rd_I (by refine ⟨by omega, by omega, by decide⟩) ?_
        walk_at "rd"
        have eh : (1 : Int) * 2 ^ ((A.level : Int)).toNat = 2 ^ A.level := by rw [Int.one_mul, Int.toNat_natCast]
        refine ⟨dl, [va, vb, vc, vd], [A.span, B.span, C'.span, D.span], _, rfl, upd_same, rfl, rfl, ?_, ?_, ?_, fun H2 u s3 hu2 => ?_⟩
        · intro i v o h1 h2
          match i, h1, h2 with
          | 0, h1, h2 => cases h1; cases h2; exact pa.keep fun b xs e => s2 _ _ e
          | 1, h1, h2 => cases h1; cases h2; exact pb.keep fun b xs e => s2 _ _ e
          | 2, h1, h2 => cases h1; cases h2; exact pc.keep fun b xs e => s2 _ _ e
          | 3, h1, h2 => cases h1; cases h2; exact pd.keep fun b xs e => s2 _ _ e
        · have e2 : (0 : Int) < 2 ^ A.level := Int.pow_pos (by decide)
          rw [eh]; omega
        · have e2 : 2 ^ A.level < 2 ^ 64 := Nat.pow_lt_pow_right (by decide) (by omega)
          rw [eh]
          exact_mod_cast e2
        · rw [eh, acc4_r4] at hu2
          have s13 : Same H1 H2 := fun b o e => s3 b o (by rw [upd_ne (ndl _ _ e)]; exact e)
          walk_at "rd"
          refine rd_methR (s13 _ _ G1.ob) (by rfl) ?_
          walk_at "rd"
          refine ⟨a, rows, q, .node A B C' D, t, [(na : Int), (nb : Int), (nc : Int), (nd : Int)], u, ?_, G1.same s13, s13 _ _ hT, hM, hwf, hS, ?_, hlen, fun H' g fr => k H' _ q.length g (List.prefix_append _ _) (by simp) (by simp) (((fr_of sm).trans (fr_of s13)).trans fr)⟩
          · have e1 : (V.int ((A.level : Int) + 1)) = V.int (((Sq.node A B C' D).level : Nat) : Int) := rfl
            rw [← e1]; rfl
          · exact hu2
theorem mp_kept {C : Addr} : MonP (sp_kept C) := fun vs H Q Q' E h ⟨a, rows, q, S, t, m, v, x1, x2, x3, x4, x5, x6, x7, x8, k⟩ => ⟨a, rows, q, S, t, m, v, x1, x2, x3, x4, x5, x6, x7, x8, fun H' g f => h _ _ (k H' g f)⟩
theorem mp_cell {C : Addr} : MonP (sp_cell C) := fun vs H Q Q' E h ⟨a, rows, q, s, x1, x2, x3, x4, x5, k⟩ => ⟨a, rows, q, s, x1, x2, x3, x4, x5, fun H' q' n g p l e f => h _ _ (k H' q' n g p l e f)⟩
theorem mp_knit {C : Addr} : MonP (sp_knit C) := fun vs H Q Q' E h ⟨a, rows, q, A, B, C', D, na, nb, nc, nd, x1, x2, x3, x4, x5, x6, x7, x8, x9, k⟩ => ⟨a, rows, q, A, B, C', D, na, nb, nc, nd, x1, x2, x3, x4, x5, x6, x7, x8, x9, fun H' q' n g p l e f => h _ _ (k H' q' n g p l e f)⟩
end
end JF

/-! ### the grove's methods: __init__, even -/
namespace JF
open PySem PySem.Spec PyProof.Rows L2
section
variable {P : Program} {w : World} {K : PySem.W.Frag} {mg : Str → Option Value} {base : Heap}
def sp_ginit (C : Addr) : Sp := fun vs H Q _ => ∃ (p dx : Addr), vs = [.ref p] ∧ H p = some (.ins C dx []) ∧ ∀ (a : GA) (H' : Hp), a.g = p → GAt C H' a [] [] → (∀ b ∈ a.muts [], H b = none) → (∀ b o, H b = some o → b ≠ p → H' b = some o) → Q .non H'
theorem ok_ginit (T : Env fa fn K mg) : Good P w K mg base CX0 1 ("Grove", some "__init__") ["self"] (sp_ginit (CG K)) := by
  refine good_mk T 5 (d := d_Grove_init) (N := ["self"]) (ps := ["self"]) rfl rfl sc_Grove_init (fun _ _ _ _ _ _ us hl => match us, hl with | [_], _ => rfl) (fun vs H Q E h => ?_) (fun f cdv A outer s H vs Q E hr h => ?_)
  · obtain ⟨p, dx, rfl, _⟩ := h; rfl
  · obtain ⟨p, dx, rfl, hp, k⟩ := h
    have cl : Cls K (CG K) := T.cls 9
    obtain ⟨na1, na2, na3, na4, na5, na6⟩ := noats T
    refine ⟨_, (pss_cons (ps_fld (pv 0) pe_dnewT rfl)
      (pss_cons (ps_fld (pv 0) (pe_lst pa_nil) rfl)
      (pss_cons (ps_fld (pv 0) (pe_lst pa_nil) rfl)
      (pss_cons (ps_fld (pv 0) (pe_lst pa_nil) rfl)
      (pss_cons (ps_fld (pv 0) (pe_lst pa_nil) rfl)
      (pss_one (ps_fld (pv 0) pe_dnewK rfl))))))), ?_⟩
    walk_at "rd"
    intro dn hdn
    have p1 : p ≠ dn := ne_of_none hp hdn
    walk_at "rd"
    refine ⟨p, CG K, dx, [], rfl, by walk_at "hp", cl, na1, by decide, ?_⟩
    walk_at "rd"
    refine rd_new (hn := by show 0 ≤ sizeLine; decide) fun dm hdm => ?_
    have p2 : p ≠ dm := ne_of_none upd_same hdm
    have e1 : dn ≠ dm := ne_of_none (by rw [upd_ne p1.symm, upd_same]) hdm
    walk_at "rd"
    refine ⟨p, CG K, dx, _, rfl, by walk_at "hp", cl, na2, (by show 1 < 1000; decide), ?_⟩
    walk_at "rd"
    refine rd_new (hn := by show 0 ≤ sizeLine; decide) fun dl hdl => ?_
    have p3 : p ≠ dl := ne_of_none upd_same hdl
    have e2 : dn ≠ dl := ne_of_none (o := .dT []) (by walk_at "hp") hdl
    have e3 : dm ≠ dl := ne_of_none (o := .lst []) (by walk_at "hp") hdl
    walk_at "rd"
    refine ⟨p, CG K, dx, _, rfl, by walk_at "hp", cl, na3, (by show 2 < 1000; decide), ?_⟩
    walk_at "rd"
    refine rd_new (hn := by show 0 ≤ sizeLine; decide) fun dv hdv => ?_
    have p4 : p ≠ dv := ne_of_none upd_same hdv
    have f1 : dn ≠ dv := ne_of_none (o := .dT []) (by walk_at "hp") hdv
    have f2 : dm ≠ dv := ne_of_none (o := .lst []) (by walk_at "hp") hdv
    have f3 : dl ≠ dv := ne_of_none (o := .lst []) (by walk_at "hp") hdv
    walk_at "rd"
    refine ⟨p, CG K, dx, _, rfl, by walk_at "hp", cl, na4, (by show 3 < 1000; decide), ?_⟩
    walk_at "rd"
    refine rd_new (hn := by show 0 ≤ sizeLine; decide) fun ds hds => ?_
    have p5 : p ≠ ds := ne_of_none upd_same hds
    have g1 : dn ≠ ds := ne_of_none (o := .dT []) (by walk_at "hp") hds
    have g2 : dm ≠ ds := ne_of_none (o := .lst []) (by walk_at "hp") hds
    have g3 : dl ≠ ds := ne_of_none (o := .lst []) (by walk_at "hp") hds
    have g4 : dv ≠ ds := ne_of_none (o := .lst []) (by walk_at "hp") hds
    walk_at "rd"
    refine ⟨p, CG K, dx, _, rfl, by walk_at "hp", cl, na5, (by show 4 < 1000; decide), ?_⟩
    walk_at "rd"
    intro dp hdp
    have p6 : p ≠ dp := ne_of_none upd_same hdp
    have h1 : dn ≠ dp := ne_of_none (o := .dT []) (by walk_at "hp") hdp
    have h2 : dm ≠ dp := ne_of_none (o := .lst []) (by walk_at "hp") hdp
    have h3 : dl ≠ dp := ne_of_none (o := .lst []) (by walk_at "hp") hdp
    have h4 : dv ≠ dp := ne_of_none (o := .lst []) (by walk_at "hp") hdp
    have h5 : ds ≠ dp := ne_of_none (o := .lst []) (by walk_at "hp") hdp
    walk_at "rd"
    refine ⟨p, CG K, dx, _, rfl, by walk_at "hp", cl, na6, (by show 5 < 1000; decide), ?_⟩
    have emp : ∀ (i : Nat) {α : Type} (x : α), ([] : List α)[i]? = some x → False := fun i α x e => by simp at e
    have out : ∀ (b u : Addr) (Hx : Hp) (o : HO), upd Hx u o b = none → Hx b = none := fun b u Hx o e => by
      by_cases z : b = u
      · subst z; rw [upd_same] at e; cases e
      · rw [upd_ne z] at e; exact e
    refine k ⟨p, dx, dn, dm, dl, dv, ds, dp⟩ _ rfl ⟨upd_same, ⟨[], [], [], by walk_at "hp", by walk_at "hp", by walk_at "hp", by walk_at "hp", by walk_at "hp", rfl, rfl, rfl, fun i t m e => (emp i _ e).elim, fun i t m e => (emp i _ e).elim, fun i t m e => (emp i _ e).elim⟩, by simp, by simp, by walk_at "hp", by simp [GA.muts, GA.m5, *], by simp, by simp, by simp⟩ ?_ ?_
    · intro b hb
      simp only [GA.muts, GA.m5, List.cons_append, List.nil_append, List.mem_cons, List.map_nil, List.not_mem_nil, or_false] at hb
      rcases hb with rfl | rfl | rfl | rfl | rfl | rfl
      · exact hdn
      · exact out _ _ _ _ (out _ _ _ _ hdm)
      · exact out _ _ _ _ (out _ _ _ _ (out _ _ _ _ (out _ _ _ _ hdl)))
      · exact out _ _ _ _ (out _ _ _ _ (out _ _ _ _ (out _ _ _ _ (out _ _ _ _ (out _ _ _ _ hdv)))))
      · exact out _ _ _ _ (out _ _ _ _ (out _ _ _ _ (out _ _ _ _ (out _ _ _ _ (out _ _ _ _ (out _ _ _ _ (out _ _ _ _ hds)))))))
      · exact out _ _ _ _ (out _ _ _ _ (out _ _ _ _ (out _ _ _ _ (out _ _ _ _ (out _ _ _ _ (out _ _ _ _ (out _ _ _ _ (out _ _ _ _ (out _ _ _ _ hdp)))))))))
    · intro b o e hb
      have b1 : b ≠ dn := ne_of_none e hdn
      have b2 : b ≠ dm := ne_of_none e (out _ _ _ _ (out _ _ _ _ hdm))
      have b3 : b ≠ dl := ne_of_none e (out _ _ _ _ (out _ _ _ _ (out _ _ _ _ (out _ _ _ _ hdl))))
      have b4 : b ≠ dv := ne_of_none e (out _ _ _ _ (out _ _ _ _ (out _ _ _ _ (out _ _ _ _ (out _ _ _ _ (out _ _ _ _ hdv))))))
      have b5 : b ≠ ds := ne_of_none e (out _ _ _ _ (out _ _ _ _ (out _ _ _ _ (out _ _ _ _ (out _ _ _ _ (out _ _ _ _ (out _ _ _ _ (out _ _ _ _ hds))))))))
      have b6 : b ≠ dp := ne_of_none e (out _ _ _ _ (out _ _ _ _ (out _ _ _ _ (out _ _ _ _ (out _ _ _ _ (out _ _ _ _ (out _ _ _ _ (out _ _ _ _ (out _ _ _ _ (out _ _ _ _ hdp))))))))))
      walk_at "hp"
end
end JF

/-! ### even, and the asking methods -/
namespace JF
open PySem PySem.Spec PyProof.Rows L2
/-- a row of plain squares grows -/
theorem GAt.row {C : Addr} {H : Hp} {a : GA} {rows : List (Int × Addr)} {q : List Sq} {s : Int} {b : Addr} {ns : List Nat} (G : GAt C H a rows q) (h : (s, b) ∈ rows) (hv : ∀ (i : Nat) n, ns[i]? = some n → q[n]? = some (Sq.even i s)) :
    GAt C (L2.upd H b (.lst (ns.map fun (n : Nat) => V.int (n : Int)))) a rows q := by
  obtain ⟨tups, mk, spt, D⟩ := G.da
  obtain ⟨⟨g1, g2, g3, g4, g5, g6⟩, _, _, _, _, _, hr⟩ := nd_of G.nd
  obtain ⟨r1, r2, r3, r4', r5, r6, r7⟩ := hr s b h
  obtain ⟨ns0, hb0, _⟩ := G.ro s b h
  have out : ∀ c xs, H c = some (.tup xs) → L2.upd H b (.lst (ns.map fun (n : Nat) => V.int (n : Int))) c = some (.tup xs) := fun c xs e => by
    rw [upd_ne (by rintro rfl; rw [hb0] at e; cases e)]; exact e
  refine ⟨by rw [upd_ne r1.symm]; exact G.ob, ⟨tups, mk, spt, by rw [upd_ne r2.symm]; exact D.hn, by rw [upd_ne r3.symm]; exact D.hm, by rw [upd_ne r4'.symm]; exact D.hl, by rw [upd_ne r5.symm]; exact D.hv, by rw [upd_ne r6.symm]; exact D.hs, D.lt, D.lm, D.ls,
    fun i t m h1 h2 => out _ _ (D.tu i t m h1 h2), fun i v S h1 h2 => (D.sp i v S h1 h2).keep out, D.md⟩, G.wf, G.qn, by rw [upd_ne r7.symm]; exact G.pl, G.nd, G.rn, G.rs, fun s' b' h' => ?_⟩
  by_cases e : b' = b
  · subst e
    have hs : s' = s := by
      have nd2 : (rows.map (·.2)).Nodup := by
        have z := (List.nodup_cons.mp G.nd).2
        unfold GA.muts at z
        exact (List.nodup_cons.mp (List.nodup_append.mp z).2.1).2
      obtain ⟨i, hi, e1⟩ := List.mem_iff_getElem.mp h
      obtain ⟨j, hj, e2⟩ := List.mem_iff_getElem.mp h'
      have e3 : i = j := (List.getElem_inj (xs := rows.map (·.2)) (h₀ := by simpa using hi) (h₁ := by simpa using hj) nd2).mp (by simp [e1, e2])
      subst e3
      rw [e1] at e2
      exact (congrArg Prod.fst e2).symm
    subst hs
    exact ⟨ns, upd_same, hv⟩
  · obtain ⟨ns', e1, e2⟩ := G.ro s' b' h'
    exact ⟨ns', by rw [upd_ne e]; exact e1, e2⟩
theorem rows_look {rows : List (Int × Addr)} {s : Int} : (∀ v, valV (rows.map fun sa => ((Sum.inl sa.1 : Key), V.ref sa.2)) (Sum.inl s) = some v → ∃ b, (s, b) ∈ rows ∧ v = .ref b) ∧ (valV (rows.map fun sa => ((Sum.inl sa.1 : Key), V.ref sa.2)) (Sum.inl s) = none → s ∉ rows.map (·.1)) := by
  induction rows with
  | nil => exact ⟨fun v h => (by cases h), fun _ => by simp⟩
  | cons x r ih =>
    by_cases e : x.1 = s
    · constructor
      · intro v h
        have h' : some (V.ref x.2) = some v := by rw [← h]; simp [valV, e]
        exact ⟨x.2, by rw [← e]; exact List.mem_cons_self, (Option.some.inj h').symm⟩
      · intro h
        have h' : valV (((x :: r).map fun sa => ((Sum.inl sa.1 : Key), V.ref sa.2))) (Sum.inl s) = some (V.ref x.2) := by simp [valV, e]
        rw [h'] at h; cases h
    · have e' : ¬ ((Sum.inl x.1 : Key) = Sum.inl s) := fun z => e (Sum.inl.inj z)
      have eq : valV (((x :: r).map fun sa => ((Sum.inl sa.1 : Key), V.ref sa.2))) (Sum.inl s) = valV ((r.map fun sa => ((Sum.inl sa.1 : Key), V.ref sa.2))) (Sum.inl s) := by
        simp [valV, e]
      rw [eq]
      refine ⟨fun v h => ?_, fun h => ?_⟩
      · obtain ⟨b, h1, h2⟩ := ih.1 v h
        exact ⟨b, List.mem_cons_of_mem _ h1, h2⟩
      · simp only [List.map_cons, List.mem_cons, not_or]
        exact ⟨fun z => e z.symm, ih.2 h⟩
/-- a new row -/
theorem GAt.addrow {C : Addr} {H : Hp} {a : GA} {rows : List (Int × Addr)} {q : List Sq} {s : Int} {p : Addr} (G : GAt C H a rows q) (hp : H p = none) (hs : s ∉ rows.map (·.1)) (h0 : 0 ≤ s) (h7 : s ≤ 7) :
    GAt C (L2.upd (L2.upd H p (.lst [])) a.dp (.dK ((rows.map fun sa => ((Sum.inl sa.1 : Key), V.ref sa.2)) ++ [((Sum.inl s : Key), V.ref p)]))) a (rows ++ [(s, p)]) q := by
  have G1 := G.same (same_upd (o := .lst []) hp)
  obtain ⟨tups, mk, spt, D⟩ := G1.da
  obtain ⟨⟨g1, g2, g3, g4, g5, g6⟩, ⟨n1, n2, n3, n4, n5⟩, ⟨m1, m2, m3, m4⟩, ⟨l1, l2, l3⟩, ⟨v1, v2⟩, s1, hr⟩ := nd_of G.nd
  have hdp : ∀ xs, L2.upd H p (.lst []) a.dp ≠ some (.tup xs) := fun xs e => by rw [G1.pl] at e; cases e
  have out : ∀ c xs o, L2.upd H p (.lst []) c = some (.tup xs) → L2.upd (L2.upd H p (.lst [])) a.dp o c = some (.tup xs) := fun c xs o e => by
    rw [upd_ne (by rintro rfl; exact hdp _ e)]; exact e
  refine ⟨by rw [upd_ne g6]; exact G1.ob, ⟨tups, mk, spt, by rw [upd_ne n5]; exact D.hn, by rw [upd_ne m4]; exact D.hm, by rw [upd_ne l3]; exact D.hl, by rw [upd_ne v2]; exact D.hv, by rw [upd_ne s1]; exact D.hs, D.lt, D.lm, D.ls,
    fun i t m h1 h2 => out _ _ _ (D.tu i t m h1 h2), fun i v S h1 h2 => (D.sp i v S h1 h2).keep fun b xs e => out _ _ _ e, D.md⟩, G1.wf, G1.qn, by rw [upd_same, List.map_append]; rfl, ?_, ?_, fun s' h' => ?_, fun s' b' h' => ?_⟩
  · have hout := G.new_out hp
    have hg : a.g ≠ p := ne_of_none G.ob hp
    have z := G.nd
    rw [List.nodup_cons] at z ⊢
    have em : a.muts (rows ++ [(s, p)]) = a.muts rows ++ [p] := by simp [GA.muts]
    rw [em]
    refine ⟨fun h => ?_, ?_⟩
    · rcases List.mem_append.mp h with h | h
      · exact z.1 h
      · simp only [List.mem_singleton] at h; exact hg h
    · rw [List.nodup_append]
      refine ⟨z.2, by simp, fun x hx y hy e => ?_⟩
      simp only [List.mem_singleton] at hy
      subst hy
      exact hout (e ▸ hx)
  · rw [List.map_append, List.nodup_append]
    refine ⟨G.rn, by simp, fun x hx y hy e => ?_⟩
    simp only [List.map_cons, List.map_nil, List.mem_singleton] at hy
    subst hy
    exact hs (e ▸ hx)
  · rw [List.map_append] at h'
    rcases List.mem_append.mp h' with h' | h'
    · exact G.rs s' h'
    · simp only [List.map_cons, List.map_nil, List.mem_singleton] at h'
      subst h'; exact ⟨h0, h7⟩
  · rcases List.mem_append.mp h' with h' | h'
    · obtain ⟨ns, e1, e2⟩ := G1.ro s' b' h'
      obtain ⟨_, _, _, _, _, _, r7⟩ := hr s' b' h'
      exact ⟨ns, by rw [upd_ne r7]; exact e1, e2⟩
    · simp only [List.mem_singleton, Prod.mk.injEq] at h'
      obtain ⟨rfl, rfl⟩ := h'
      have : b' ≠ a.dp := (ne_of_none G.pl hp).symm
      exact ⟨[], by rw [upd_ne this, upd_same]; rfl, fun i n h => by simp at h⟩
theorem fr_muts {a : GA} {rows : List (Int × Addr)} {H H' : Hp} (h : Fr a.m5 H H') : Fr (a.muts rows) H H' := h.mono fun b hb => List.mem_append_left _ hb
theorem row_mem {a : GA} {rows : List (Int × Addr)} {s : Int} {b : Addr} (h : (s, b) ∈ rows) : b ∈ a.muts rows :=
  List.mem_append_right _ (List.mem_cons_of_mem _ (List.mem_map_of_mem (f := fun sa : Int × Addr => sa.2) h))
/-- knit's and cell's way: the rows stay -/
theorem GStep.m5 {C : Addr} {H H1 H2 : Hp} {a : GA} {rows r1 : List (Int × Addr)} {q q1 q2 : List Sq} (x : GStep C H a rows q H1 r1 q1) (G : GAt C H2 a r1 q2) (p : q1 <+: q2) (f : Fr a.m5 H1 H2) : GStep C H a rows q H2 r1 q2 :=
  x.trans ⟨G, p, fr_muts f, fun _ h => .inl h⟩
theorem GStep.row {C : Addr} {H H1 : Hp} {a : GA} {rows r1 : List (Int × Addr)} {q q1 : List Sq} {s : Int} {b : Addr} {ns : List Nat} (x : GStep C H a rows q H1 r1 q1) (h : (s, b) ∈ r1) (hv : ∀ (i : Nat) n, ns[i]? = some n → q1[n]? = some (Sq.even i s)) :
    GStep C H a rows q (L2.upd H1 b (.lst (ns.map fun (n : Nat) => V.int (n : Int)))) r1 q1 :=
  x.trans ⟨x.gat.row h hv, List.prefix_refl _, fun c o e n => by rw [upd_ne (by rintro rfl; exact n (row_mem h))]; exact e, fun _ h => .inl h⟩
theorem GStep.same {C : Addr} {H H1 H2 : Hp} {a : GA} {rows r1 : List (Int × Addr)} {q q1 : List Sq} (x : GStep C H a rows q H1 r1 q1) (s : Same H1 H2) : GStep C H a rows q H2 r1 q1 :=
  x.trans ⟨x.gat.same s, List.prefix_refl _, fr_of s, fun _ h => .inl h⟩
theorem row_not5 {C : Addr} {H : Hp} {a : GA} {rows : List (Int × Addr)} {q : List Sq} {s : Int} {b : Addr} (G : GAt C H a rows q) (h : (s, b) ∈ rows) : b ∉ a.m5 := by
  obtain ⟨_, _, _, _, _, _, hr⟩ := nd_of G.nd
  obtain ⟨r1, r2, r3, r4', r5, r6, r7⟩ := hr s b h
  simp [GA.m5, r2, r3, r4', r5, r6]
theorem map_int_len (ns : List Nat) : (ns.map fun (n : Nat) => V.int (n : Int)).length = ns.length := List.length_map _
section
variable {P : Program} {w : World} {K : PySem.W.Frag} {mg : Str → Option Value} {base : Heap}
def sp_even (C : Addr) : Sp := fun vs H Q _ => ∃ (a : GA) (rows : List (Int × Addr)) (q : List Sq) (l : Nat) (s : Int), vs = [.ref a.g, .int (l : Int), .int s] ∧ GAt C H a rows q ∧ l ≤ 60 ∧ 0 ≤ s ∧ s ≤ 7 ∧ q.length + 100 < 16000000 ∧
  ∀ H' rows' q' (n : Nat), GStep C H a rows q H' rows' q' → q'.length ≤ q.length + l + 1 → q'[n]? = some (Sq.even l s) → Q (.int (n : Int)) H'
theorem ok_even (T : Env fa fn K mg) : Good P w K mg base CX0 4 ("Grove", some "even") ["self", "level", "state"] (sp_even (CG K)) := by
  have G_Grove_cell := ok_cell (P := P) (w := w) (base := base) T
  have G_Grove_knit := ok_knit (P := P) (w := w) (base := base) T
  refine good_mk T 9 (d := d_Grove_even) (N := ["self", "level", "state", "row", "one"]) (ps := ["self", "level", "state"]) rfl rfl sc_Grove_even (fun _ _ _ _ _ _ us hl => match us, hl with | [_, _, _], _ => rfl) (fun vs H Q E h => ?_) (fun f cdv A outer σ0 H vs Q E hr h => ?_)
  · obtain ⟨a, rows, q, l, s, rfl, _⟩ := h; rfl
  · obtain ⟨a, rows, q, l, s, rfl, G, hl, h0, h7, hlen, k⟩ := h
    have hu := hu_of hr
    have cl : Cls K (CG K) := T.cls 9
    obtain ⟨na1, na2, na3, na4, na5, na6⟩ := noats T
    have ob := G.ob
    have hsz := sizeBig
    have mp1 := mp_cell (C := CG K)
    have mp2 := mp_knit (C := CG K)
    refine ⟨_, (pss_cons (ps_set (i := 3) sc_Grove_even.nd rfl (Or.inl rfl) (pe_dsetd (pe_fldK K rfl (pv 0) rfl) (pv 2) (pe_lst pa_nil) ⟨rfl, rfl, rfl, rfl⟩))
      (pss_cons (ps_if (pt_cmpR op_eq (pe_callB (call_lenK K rfl) (by rfl) (T.free 8) (by decide +kernel) (pa_cons (pv 3) pa_nil)) pe_int (nomark _)) (pss_one (ps_expr (pe_bm PySem.F.plainAttrs_list PySem.F.slot_list_append PySem.F.type_list_append mt_append (pv 3) (pa_cons (pe_mgK K rfl (pv 0) (T.cls 9) (T.meth 12) G_Grove_cell (hr.mono (by decide)) (pa_cons (pv 2) pa_nil)) pa_nil)))) pss_nil)
      (pss_cons (ps_while PassesOwn.never (pt_cmpR op_le (pe_callB (call_lenK K rfl) (by rfl) (T.free 8) (by decide +kernel) (pa_cons (pv 3) pa_nil)) (pv 1) (nomark _)) (pss_cons (ps_set (i := 4) sc_Grove_even.nd rfl (Or.inl rfl) (pe_ix (ix_listK K rfl) (pv 3) (pe_un un_neg pe_int) (fun _ _ => rfl)))
      (pss_one (ps_expr (pe_bm PySem.F.plainAttrs_list PySem.F.slot_list_append PySem.F.type_list_append mt_append (pv 3) (pa_cons (pe_mgK K rfl (pv 0) (T.cls 9) (T.meth 13) G_Grove_knit (hr.mono (by decide)) (pa_cons (pv 4) (pa_cons (pv 4) (pa_cons (pv 4) (pa_cons (pv 4) pa_nil))))) pa_nil))))))
      (pss_one (ps_ret (pe_ix (ix_listK K rfl) (pv 3) (pv 1) (fun _ _ => rfl))))))), ?_⟩
    -- row = self.plain.setdefault(state, [])
    refine rd_cut (fun σ H1 => ∃ (r1 : List (Int × Addr)) (b : Addr) (ns : List Nat), σ = [some (.ref a.g), some (.int (l : Int)), some (.int s), some (.ref b), none] ∧ GStep (CG K) H a rows q H1 r1 q ∧ (s, b) ∈ r1 ∧
      H1 b = some (.lst (ns.map fun (n : Nat) => V.int (n : Int))) ∧ ∀ (i : Nat) n, ns[i]? = some n → q[n]? = some (Sq.even i s)) (by walk_at "mono") ?_ ?_
    · walk_at "rd"
      refine rd_isD G.pl ?_
      walk_at "rd"
      refine rd_new (hn := by show 0 ≤ sizeLine; decide) fun p hp => ?_
      have sm := same_upd (o := .lst []) hp
      have G1 := G.same sm
      have S1 := (GStep.refl G).same sm
      have rl : rows.length ≤ 8 := by have z := states_len G.rn G.rs; rw [List.length_map] at z; exact z
      refine ⟨_, Sum.inl s, G1.pl, rfl, by rw [List.length_map]; exact small1000 (by omega), fun v hv => ?_, fun hv => ?_⟩
      · obtain ⟨b, hb, rfl⟩ := rows_look.1 v hv
        obtain ⟨ns, e1, e2⟩ := G1.ro s b hb
        walk_at "rd"
        exact ⟨rows, b, ns, rfl, S1, hb, e1, e2⟩
      · rw [putK_new _ hv]
        walk_at "rd"
        have G2 := G.addrow hp (rows_look.2 hv) h0 h7
        refine ⟨_, p, [], rfl, ⟨G2, List.prefix_refl _, fun b o e n => ?_, fun b hb => ?_⟩, List.mem_append_right _ (List.mem_singleton_self _), ?_, fun i n h => by simp at h⟩
        · rw [upd_ne (fun z => n (by rw [z]; simp [GA.muts])), upd_ne (ne_of_none e hp)]; exact e
        · have em : a.muts (rows ++ [(s, p)]) = a.muts rows ++ [p] := by simp [GA.muts]
          rw [em] at hb
          rcases List.mem_append.mp hb with hb | hb
          · exact .inl hb
          · simp only [List.mem_singleton] at hb; subst hb; exact .inr hp
        · rw [upd_ne (ne_of_none G.pl hp).symm, upd_same]; rfl
    rintro σ H1 ⟨r1, b, ns, rfl, S1, hb, e1, e2⟩
    -- if len(row) == 0: row.append(self.cell(state))
    refine rd_cut (fun σ H2 => ∃ (q2 : List Sq) (ns2 : List Nat), σ = [some (.ref a.g), some (.int (l : Int)), some (.int s), some (.ref b), none] ∧ GStep (CG K) H a rows q H2 r1 q2 ∧
      H2 b = some (.lst (ns2.map fun (n : Nat) => V.int (n : Int))) ∧ (∀ (i : Nat) n, ns2[i]? = some n → q2[n]? = some (Sq.even i s)) ∧ 0 < ns2.length ∧ (q2.length ≤ q.length ∨ q2.length ≤ q.length + ns2.length ∧ ns2.length ≤ l + 1)) (by walk_at "mono") ?_ ?_
    · have ob1 := S1.gat.ob
      walk_at "rd"
      refine rd_len (SqL.of e1) ?_
      walk_at "rd"
      rw [map_int_len]
      refine ite_d (fun hz => ?_) (fun hz => ?_)
      · have hns : ns = [] := List.length_eq_zero_iff.mp (by omega)
        subst hns
        walk_at "rd"
        refine rd_tyL e1 ?_
        walk_at "rd"
        refine rd_methR S1.gat.ob (by rfl) ?_
        walk_at "rd"
        refine ⟨a, r1, q, s, rfl, S1.gat, h0, h7, by omega, fun H2 q2 n G2 pre len en fr => ?_⟩
        walk_at "rd"
        have eb : H2 b = some (.lst []) := fr _ _ e1 (row_not5 S1.gat hb)
        refine rd_append eb (by show 0 < sizeLine; decide) ?_
        walk_at "rd"
        have S2 := S1.m5 G2 pre fr
        have hv : ∀ (i : Nat) m, [n][i]? = some m → q2[m]? = some (Sq.even i s) := fun i m h => by
          cases i with
          | zero => cases h; exact en
          | succ i => simp at h
        exact ⟨q2, [n], rfl, S2.row hb hv, upd_same, hv, by simp, .inr ⟨by simp; omega, by simp⟩⟩
      · walk_at "rd"
        exact ⟨q, ns, rfl, S1, e1, e2, by omega, .inl (Nat.le_refl _)⟩
    rintro σ H2 ⟨q2, ns2, rfl, S2, e3, e4, hpos, hcnt⟩
    -- while len(row) <= level
    refine rd_cut (fun σ H3 => ∃ (q3 : List Sq) (ns3 : List Nat) (x : Option V), σ = [some (.ref a.g), some (.int (l : Int)), some (.int s), some (.ref b), x] ∧ GStep (CG K) H a rows q H3 r1 q3 ∧
      H3 b = some (.lst (ns3.map fun (n : Nat) => V.int (n : Int))) ∧ (∀ (i : Nat) n, ns3[i]? = some n → q3[n]? = some (Sq.even i s)) ∧ l < ns3.length ∧ q3.length ≤ q.length + l + 1) (by walk_at "mono") ?_ ?_
    · refine while_by (fun σ H3 => ∃ (q3 : List Sq) (ns3 : List Nat) (x : Option V), σ = [some (.ref a.g), some (.int (l : Int)), some (.int s), some (.ref b), x] ∧ GStep (CG K) H a rows q H3 r1 q3 ∧
        H3 b = some (.lst (ns3.map fun (n : Nat) => V.int (n : Int))) ∧ (∀ (i : Nat) n, ns3[i]? = some n → q3[n]? = some (Sq.even i s)) ∧ 0 < ns3.length ∧ q3.length + ns2.length ≤ q2.length + ns3.length ∧ (ns3.length ≤ ns2.length ∨ ns3.length ≤ l + 1) ∧ ns2.length ≤ ns3.length)
        (fun σ H3 => match H3 b with | some (.lst xs) => l + 1 - xs.length | _ => 0) ?_ ?_ (by
          have z : MonT (tTest (tOp (rI0 fun i j => V.bl (decide (i ≤ j))) (tCB (rLenS K) (tCons (tVar 3) tNil)) (tVar 1))) := by walk_at "mono"
          exact z)
      · exact ⟨q2, ns2, none, rfl, S2, e3, e4, hpos, Nat.le_refl _, .inl (Nat.le_refl _), Nat.le_refl _⟩
      · rintro σ H3 ⟨q3, ns3, x, rfl, S3, f3, f4, pos3, cnt3, le3, ge3⟩
        have ob3 := S3.gat.ob
        walk_at "rd"
        refine rd_len (SqL.of f3) ?_
        walk_at "rd"
        rw [map_int_len]
        refine ite_d (fun hz => ?_) (fun hz => ?_)
        · walk_at "rd"
          obtain ⟨init, last, rfl⟩ : ∃ init last, ns3 = init ++ [last] := ⟨ns3.dropLast, ns3.getLast (by intro z; simp [z] at pos3), (List.dropLast_concat_getLast _).symm⟩
          have hl1 : q3[last]? = some (Sq.even init.length s) := f4 init.length last (by simp)
          refine rd_ixL (SqL.of f3) (by rw [List.map_append]; exact atI_last _ _) ?_
          walk_at "rd"
          refine rd_tyL f3 ?_
          walk_at "rd"
          refine rd_methR S3.gat.ob (by rfl) ?_
          walk_at "rd"
          have hlen3 : init.length + 1 ≤ l := by simp at hz; omega
          refine ⟨a, r1, q3, Sq.even init.length s, Sq.even init.length s, Sq.even init.length s, Sq.even init.length s, last, last, last, last, rfl, S3.gat, hl1, hl1, hl1, hl1, Sq.wf_even h0 h7 (init.length + 1), by rw [Sq.level_even]; omega, ?_, fun H4 q4 n G4 pre len en fr => ?_⟩
          · simp only [List.length_append, List.length_cons, List.length_nil] at cnt3 le3 ge3
            omega
          walk_at "rd"
          have eb : H4 b = some (.lst ((init ++ [last]).map fun (n : Nat) => V.int (n : Int))) := fr _ _ f3 (row_not5 S3.gat hb)
          refine rd_append eb (by rw [map_int_len]; simp; exact small1000 (by omega)) ?_
          walk_at "rd"
          have S4 := S3.m5 G4 pre fr
          have hv : ∀ (i : Nat) m, ((init ++ [last]) ++ [n])[i]? = some m → q4[m]? = some (Sq.even i s) := fun i m h => by
            by_cases hi : i < (init ++ [last]).length
            · rw [List.getElem?_append_left hi] at h
              exact pre_get pre (f4 i m h)
            · have hi2 := (List.getElem?_eq_some_iff.mp h).1
              have e : i = init.length + 1 := by simp at hi hi2; omega
              subst e
              simp at h
              subst h
              exact en
          have S5 := S4.row hb hv
          simp only [List.length_append, List.length_cons, List.length_nil] at cnt3 le3 ge3
          refine ⟨⟨q4, (init ++ [last]) ++ [n], _, rfl, ?_, ?_, hv, by simp, by simp; omega, by simp; omega, by simp; omega⟩, ?_⟩
          · rw [List.map_append] at S5; exact S5
          · rw [upd_same, List.map_append (l₂ := [n])]; rfl
          · have e1' : ∀ (xs : List V), H3 b = some (.lst xs) → (match H3 b with | some (.lst xs) => l + 1 - xs.length | _ => 0) = l + 1 - xs.length := fun xs e => by rw [e]
            rw [e1' _ f3]
            simp only [upd_same]
            simp
            omega
        · refine ⟨q3, ns3, x, rfl, S3, f3, f4, by omega, ?_⟩
          rcases hcnt with h | ⟨h, h'⟩
          · rcases le3 with h2 | h2 <;> omega
          · rcases le3 with h2 | h2 <;> omega
    rintro σ H3 ⟨q3, ns3, x, rfl, S3, f3, f4, hlt, hq⟩
    obtain ⟨n, hn⟩ : ∃ n, ns3[l]? = some n := ⟨ns3[l], by simp [hlt]⟩
    walk_at "rd"
    refine rd_ixL (SqL.of f3) (atI_nat (map_get (fun (n : Nat) => V.int (n : Int)) hn)) ?_
    exact k H3 r1 q3 n S3 hq (f4 l n hn)
end
end JF

/-! ### the asking methods (no refusal) -/
namespace JF
open PySem PySem.Spec PyProof.Rows L2
section
variable {P : Program} {w : World} {K : PySem.W.Frag} {mg : Str → Option Value} {base : Heap}
theorem at_lt {q : List Sq} {n : Nat} {S : Sq} (h : q[n]? = some S) : n < q.length := (List.getElem?_eq_some_iff.mp h).1
def sp_asked (C : Addr) : Sp := fun vs H Q _ => ∃ (a : GA) (rows : List (Int × Addr)) (q : List Sq) (n : Nat) (S : Sq), vs = [.ref a.g, .int (n : Int)] ∧ GAt C H a rows q ∧ q[n]? = some S ∧ q.length ≤ 16000000 ∧ Q (.int (S.level : Int)) H
theorem mp_asked {C : Addr} : MonP (sp_asked C) := fun vs H Q Q' E h ⟨a, rows, q, n, S, x1, x2, x3, x4, k⟩ => ⟨a, rows, q, n, S, x1, x2, x3, x4, h _ _ k⟩
theorem ok_asked (T : Env fa fn K mg) : Good P w K mg base CX0 2 ("Grove", some "asked") ["self", "square"] (sp_asked (CG K)) := by
  have G_is_whole := ok_is_whole (P := P) (w := w) (base := base) T
  refine good_mk T 10 (d := d_Grove_asked) (N := ["self", "square"]) (ps := ["self", "square"]) rfl rfl sc_Grove_asked (fun _ _ _ _ _ _ us hl => match us, hl with | [_, _], _ => rfl) (fun vs H Q E h => ?_) (fun f cdv A outer s H vs Q E hr h => ?_)
  · obtain ⟨a, rows, q, n, S, rfl, _⟩ := h; rfl
  · obtain ⟨a, rows, q, n, S, rfl, G, hn, hlen, k⟩ := h
    have cl : Cls K (CG K) := T.cls 9
    obtain ⟨na1, na2, na3, na4, na5, na6⟩ := noats T
    have ob := G.ob
    have hlt := at_lt hn
    obtain ⟨tups, mk, spt, D⟩ := G.da
    refine ⟨_, (pss_cons (ps_if (PW.pt (pw_or (pt_not (pt_val (pe_cgK K rfl G_is_whole (hr.mono (by decide)) (T.glo 7) (pa_cons (pv 1) pa_nil)))) (pw_or1 (pt_not (pt_chain op_le op_lt pe_int (pv 1) (pe_gint (T.int 14) rfl)))))) pss_never pss_nil)
      (pss_one (ps_ret (pe_ix (ix_listK K rfl) (pe_fldK K rfl (pv 0) rfl) (pv 1) (fun _ _ => rfl))))), ?_⟩
    walk_at "rd"
    refine ⟨_, rfl, .inl ⟨_, rfl⟩, ?_⟩
    walk_at "rd"
    refine iteF ?_
    walk_at "rd"
    rw [decide_eq_true (show (0 : Int) ≤ (n : Int) by omega)]
    walk_at "rd"
    rw [decide_eq_true (show (n : Int) < 1000000000 by omega)]
    walk_at "rd"
    exact rd_ixL (SqL.of D.hl) (atI_nat (map_get (fun S : Sq => V.int (S.level : Int)) hn)) k
/-- what asks one square, and tells a value: the level and so on -/
def sp_level_of (C : Addr) : Sp := sp_asked C
theorem ok_level_of (T : Env fa fn K mg) : Good P w K mg base CX0 3 ("Grove", some "level_of") ["self", "square"] (sp_level_of (CG K)) := by
  have G_Grove_asked := ok_asked (P := P) (w := w) (base := base) T
  refine good_mk T 14 (d := d_Grove_level_of) (N := ["self", "square"]) (ps := ["self", "square"]) rfl rfl sc_Grove_level_of (fun _ _ _ _ _ _ us hl => match us, hl with | [_, _], _ => rfl) (fun vs H Q E h => ?_) (fun f cdv A outer s H vs Q E hr h => ?_)
  · obtain ⟨a, rows, q, n, S, rfl, _⟩ := h; rfl
  · obtain ⟨a, rows, q, n, S, rfl, G, hn, hlen, k⟩ := h
    have cl : Cls K (CG K) := T.cls 9
    refine ⟨_, (pss_one (ps_ret (pe_mgK K rfl (pv 0) (T.cls 9) (T.meth 20) G_Grove_asked (hr.mono (by decide)) (pa_cons (pv 1) pa_nil)))), ?_⟩
    walk_at "rd"
    refine rd_methR G.ob (by rfl) ?_
    walk_at "rd"
    exact ⟨a, rows, q, n, S, rfl, G, hn, hlen, k⟩
def sp_living (C : Addr) : Sp := fun vs H Q _ => ∃ (a : GA) (rows : List (Int × Addr)) (q : List Sq) (n : Nat) (S : Sq), vs = [.ref a.g, .int (n : Int)] ∧ GAt C H a rows q ∧ q[n]? = some S ∧ q.length ≤ 16000000 ∧ Q (.int S.lives) H
theorem mp_living {C : Addr} : MonP (sp_living C) := fun vs H Q Q' E h ⟨a, rows, q, n, S, x1, x2, x3, x4, k⟩ => ⟨a, rows, q, n, S, x1, x2, x3, x4, h _ _ k⟩
theorem ok_living (T : Env fa fn K mg) : Good P w K mg base CX0 3 ("Grove", some "living") ["self", "square"] (sp_living (CG K)) := by
  have G_Grove_asked := ok_asked (P := P) (w := w) (base := base) T
  refine good_mk T 17 (d := d_Grove_living) (N := ["self", "square"]) (ps := ["self", "square"]) rfl rfl sc_Grove_living (fun _ _ _ _ _ _ us hl => match us, hl with | [_, _], _ => rfl) (fun vs H Q E h => ?_) (fun f cdv A outer s H vs Q E hr h => ?_)
  · obtain ⟨a, rows, q, n, S, rfl, _⟩ := h; rfl
  · obtain ⟨a, rows, q, n, S, rfl, G, hn, hlen, k⟩ := h
    have cl : Cls K (CG K) := T.cls 9
    obtain ⟨na1, na2, na3, na4, na5, na6⟩ := noats T
    have ob := G.ob
    obtain ⟨tups, mk, spt, D⟩ := id G.da
    refine ⟨_, (pss_cons (ps_expr (pe_mgK K rfl (pv 0) (T.cls 9) (T.meth 20) G_Grove_asked (hr.mono (by decide)) (pa_cons (pv 1) pa_nil)))
      (pss_one (ps_ret (pe_ix (ix_listK K rfl) (pe_fldK K rfl (pv 0) rfl) (pv 1) (fun _ _ => rfl))))), ?_⟩
    walk_at "rd"
    refine rd_methR G.ob (by rfl) ?_
    walk_at "rd"
    refine ⟨a, rows, q, n, S, rfl, G, hn, hlen, ?_⟩
    walk_at "rd"
    exact rd_ixL (SqL.of D.hv) (atI_nat (map_get (fun S : Sq => V.int S.lives) hn)) k
def sp_span (C : Addr) : Sp := fun vs H Q _ => ∃ (a : GA) (rows : List (Int × Addr)) (q : List Sq) (n : Nat) (S : Sq), vs = [.ref a.g, .int (n : Int)] ∧ GAt C H a rows q ∧ q[n]? = some S ∧ q.length ≤ 16000000 ∧ ∀ v, SpanV H v S.span → Q v H
theorem mp_span {C : Addr} : MonP (sp_span C) := fun vs H Q Q' E h ⟨a, rows, q, n, S, x1, x2, x3, x4, k⟩ => ⟨a, rows, q, n, S, x1, x2, x3, x4, fun v hv => h _ _ (k v hv)⟩
theorem ok_span (T : Env fa fn K mg) : Good P w K mg base CX0 3 ("Grove", some "span") ["self", "square"] (sp_span (CG K)) := by
  have G_Grove_asked := ok_asked (P := P) (w := w) (base := base) T
  refine good_mk T 18 (d := d_Grove_span) (N := ["self", "square"]) (ps := ["self", "square"]) rfl rfl sc_Grove_span (fun _ _ _ _ _ _ us hl => match us, hl with | [_, _], _ => rfl) (fun vs H Q E h => ?_) (fun f cdv A outer s H vs Q E hr h => ?_)
  · obtain ⟨a, rows, q, n, S, rfl, _⟩ := h; rfl
  · obtain ⟨a, rows, q, n, S, rfl, G, hn, hlen, k⟩ := h
    have cl : Cls K (CG K) := T.cls 9
    obtain ⟨na1, na2, na3, na4, na5, na6⟩ := noats T
    have ob := G.ob
    obtain ⟨tups, mk, spt, D⟩ := id G.da
    refine ⟨_, (pss_cons (ps_expr (pe_mgK K rfl (pv 0) (T.cls 9) (T.meth 20) G_Grove_asked (hr.mono (by decide)) (pa_cons (pv 1) pa_nil)))
      (pss_one (ps_ret (pe_ix (ix_listK K rfl) (pe_fldK K rfl (pv 0) rfl) (pv 1) (fun _ _ => rfl))))), ?_⟩
    walk_at "rd"
    refine rd_methR G.ob (by rfl) ?_
    walk_at "rd"
    refine ⟨a, rows, q, n, S, rfl, G, hn, hlen, ?_⟩
    walk_at "rd"
    have hl : n < spt.length := by rw [D.ls]; exact at_lt hn
    exact rd_ixL (SqL.of D.hs) (atI_nat (by simp [hl] : spt[n]? = some spt[n])) (k _ (D.sp n _ S (by simp [hl]) hn))
/-- the quarters, as the tuple that stands there -/
def sp_quarters (C : Addr) : Sp := fun vs H Q _ => ∃ (a : GA) (rows : List (Int × Addr)) (q : List Sq) (n : Nat) (A B C' D : Sq), vs = [.ref a.g, .int (n : Int)] ∧ GAt C H a rows q ∧ q[n]? = some (.node A B C' D) ∧ q.length ≤ 16000000 ∧
  ∀ (t : Addr) (x y z u : Nat), H t = some (.tup [.int (x : Int), .int (y : Int), .int (z : Int), .int (u : Int)]) → q[x]? = some A → q[y]? = some B → q[z]? = some C' → q[u]? = some D → Q (.ref t) H
theorem mp_quarters {C : Addr} : MonP (sp_quarters C) := fun vs H Q Q' E h ⟨a, rows, q, n, A, B, C', D, x1, x2, x3, x4, k⟩ => ⟨a, rows, q, n, A, B, C', D, x1, x2, x3, x4, fun t x y z u e1 e2 e3 e4 e5 => h _ _ (k t x y z u e1 e2 e3 e4 e5)⟩
theorem ok_quarters (T : Env fa fn K mg) : Good P w K mg base CX0 3 ("Grove", some "quarters") ["self", "square"] (sp_quarters (CG K)) := by
  have G_Grove_asked := ok_asked (P := P) (w := w) (base := base) T
  refine good_mk T 15 (d := d_Grove_quarters) (N := ["self", "square"]) (ps := ["self", "square"]) rfl rfl sc_Grove_quarters (fun _ _ _ _ _ _ us hl => match us, hl with | [_, _], _ => rfl) (fun vs H Q E h => ?_) (fun f cdv A outer s H vs Q E hr h => ?_)
  · obtain ⟨a, rows, q, n, A, B, C', D, rfl, _⟩ := h; rfl
  · obtain ⟨a, rows, q, n, S1, S2, S3, S4, rfl, G, hn, hlen, k⟩ := h
    have cl : Cls K (CG K) := T.cls 9
    obtain ⟨na1, na2, na3, na4, na5, na6⟩ := noats T
    have ob := G.ob
    obtain ⟨tups, mk, spt, D⟩ := id G.da
    refine ⟨_, (pss_cons (ps_if (pt_cmpR op_eq (pe_mgK K rfl (pv 0) (T.cls 9) (T.meth 20) G_Grove_asked (hr.mono (by decide)) (pa_cons (pv 1) pa_nil)) pe_int (nomark _)) pss_never pss_nil)
      (pss_one (ps_ret (pe_ix (ix_listK K rfl) (pe_fldK K rfl (pv 0) rfl) (pv 1) (fun _ _ => rfl))))), ?_⟩
    walk_at "rd"
    refine rd_methR G.ob (by rfl) ?_
    walk_at "rd"
    refine ⟨a, rows, q, n, _, rfl, G, hn, hlen, ?_⟩
    walk_at "rd"
    refine ite_d (fun h => ?_) (fun h => ?_)
    · have : (Sq.node S1 S2 S3 S4).level = S1.level + 1 := rfl
      omega
    walk_at "rd"
    have hl : n < tups.length := by rw [D.lt]; exact at_lt hn
    have hm : n < mk.length := by rw [D.lm]; exact at_lt hn
    obtain ⟨x, y, z, u, e, h1, h2, h3, h4⟩ := D.md n mk[n] _ (by simp [hm]) hn
    have ht := D.tu n tups[n] mk[n] (by simp [hl]) (by simp [hm])
    rw [e] at ht
    refine rd_ixL (SqL.of D.hm) (atI_nat (map_get V.ref (by simp [hl] : tups[n]? = some tups[n]))) ?_
    exact k _ x y z u ht h1 h2 h3 h4
def sp_state_of (C : Addr) : Sp := fun vs H Q _ => ∃ (a : GA) (rows : List (Int × Addr)) (q : List Sq) (n : Nat) (s : Int), vs = [.ref a.g, .int (n : Int)] ∧ GAt C H a rows q ∧ q[n]? = some (.leaf s) ∧ q.length ≤ 16000000 ∧ Q (.int s) H
theorem mp_state_of {C : Addr} : MonP (sp_state_of C) := fun vs H Q Q' E h ⟨a, rows, q, n, S, x1, x2, x3, x4, k⟩ => ⟨a, rows, q, n, S, x1, x2, x3, x4, h _ _ k⟩
theorem ok_state_of (T : Env fa fn K mg) : Good P w K mg base CX0 3 ("Grove", some "state_of") ["self", "square"] (sp_state_of (CG K)) := by
  have G_Grove_asked := ok_asked (P := P) (w := w) (base := base) T
  refine good_mk T 16 (d := d_Grove_state_of) (N := ["self", "square"]) (ps := ["self", "square"]) rfl rfl sc_Grove_state_of (fun _ _ _ _ _ _ us hl => match us, hl with | [_, _], _ => rfl) (fun vs H Q E h => ?_) (fun f cdv A outer s H vs Q E hr h => ?_)
  · obtain ⟨a, rows, q, n, s, rfl, _⟩ := h; rfl
  · obtain ⟨a, rows, q, n, s, rfl, G, hn, hlen, k⟩ := h
    have cl : Cls K (CG K) := T.cls 9
    obtain ⟨na1, na2, na3, na4, na5, na6⟩ := noats T
    have ob := G.ob
    obtain ⟨tups, mk, spt, D⟩ := id G.da
    refine ⟨_, (pss_cons (ps_if (pt_cmpR op_gt (pe_mgK K rfl (pv 0) (T.cls 9) (T.meth 20) G_Grove_asked (hr.mono (by decide)) (pa_cons (pv 1) pa_nil)) pe_int (nomark _)) pss_never pss_nil)
      (pss_one (ps_ret (pe_ix (ix_tupK K rfl) (pe_ix (ix_listK K rfl) (pe_fldK K rfl (pv 0) rfl) (pv 1) (fun _ _ => rfl)) pe_int (fun _ _ => rfl))))), ?_⟩
    walk_at "rd"
    refine rd_methR G.ob (by rfl) ?_
    walk_at "rd"
    refine ⟨a, rows, q, n, _, rfl, G, hn, hlen, ?_⟩
    walk_at "rd"
    refine ite_d (fun h => ?_) (fun h => ?_)
    · have : (Sq.leaf s).level = 0 := rfl
      omega
    walk_at "rd"
    have hl : n < tups.length := by rw [D.lt]; exact at_lt hn
    have hm : n < mk.length := by rw [D.lm]; exact at_lt hn
    have e : mk[n] = [s] := D.md n mk[n] _ (by simp [hm]) hn
    have ht := D.tu n tups[n] mk[n] (by simp [hl]) (by simp [hm])
    rw [e] at ht
    refine rd_ixL (SqL.of D.hm) (atI_nat (map_get V.ref (by simp [hl] : tups[n]? = some tups[n]))) ?_
    walk_at "rd"
    exact k
def sp_leaf (C : Addr) : Sp := sp_cell C
theorem ok_leaf (T : Env fa fn K mg) : Good P w K mg base CX0 3 ("Grove", some "leaf") ["self", "state"] (sp_leaf (CG K)) := by
  have G_Grove_cell := ok_cell (P := P) (w := w) (base := base) T
  have G_is_state := ok_is_state (P := P) (w := w) (base := base) T
  refine good_mk T 11 (d := d_Grove_leaf) (N := ["self", "state"]) (ps := ["self", "state"]) rfl rfl sc_Grove_leaf (fun _ _ _ _ _ _ us hl => match us, hl with | [_, _], _ => rfl) (fun vs H Q E h => ?_) (fun f cdv A outer s H vs Q E hr h => ?_)
  · obtain ⟨a, rows, q, s, rfl, _⟩ := h; rfl
  · obtain ⟨a, rows, q, s, rfl, G, h0, h7, hlen, k⟩ := h
    have cl : Cls K (CG K) := T.cls 9
    refine ⟨_, (pss_cons (ps_if (pt_not (pt_val (pe_cgK K rfl G_is_state (hr.mono (by decide)) (T.glo 16) (pa_cons (pv 1) pa_nil)))) pss_never pss_nil)
      (pss_one (ps_ret (pe_mgK K rfl (pv 0) (T.cls 9) (T.meth 12) G_Grove_cell (hr.mono (by decide)) (pa_cons (pv 1) pa_nil))))), ?_⟩
    walk_at "rd"
    refine ⟨_, rfl, .inl ⟨_, rfl⟩, ?_⟩
    walk_at "rd"
    rw [stateV_ok h0 h7]
    walk_at "rd"
    walk_at "rd"
    refine rd_methR G.ob (by rfl) ?_
    walk_at "rd"
    exact ⟨a, rows, q, s, rfl, G, h0, h7, hlen, k⟩
def sp_solid (C : Addr) : Sp := fun vs H Q _ => ∃ (a : GA) (rows : List (Int × Addr)) (q : List Sq) (l : Nat) (s : Int), vs = [.ref a.g, .int (l : Int), .int s] ∧ GAt C H a rows q ∧ l ≤ 48 ∧ 0 ≤ s ∧ s ≤ 7 ∧ q.length + 100 < 16000000 ∧
  ∀ H' rows' q' (n : Nat), GStep C H a rows q H' rows' q' → q'.length ≤ q.length + l + 1 → q'[n]? = some (Sq.even l s) → Q (.int (n : Int)) H'
theorem mp_even {C : Addr} : MonP (sp_even C) := fun vs H Q Q' E h ⟨a, rows, q, l, s, x1, x2, x3, x4, x5, x6, k⟩ => ⟨a, rows, q, l, s, x1, x2, x3, x4, x5, x6, fun H' r' q' n g p l => h _ _ (k H' r' q' n g p l)⟩
theorem mp_solid {C : Addr} : MonP (sp_solid C) := fun vs H Q Q' E h ⟨a, rows, q, l, s, x1, x2, x3, x4, x5, x6, k⟩ => ⟨a, rows, q, l, s, x1, x2, x3, x4, x5, x6, fun H' r' q' n g p l => h _ _ (k H' r' q' n g p l)⟩
theorem ok_solid (T : Env fa fn K mg) : Good P w K mg base CX0 5 ("Grove", some "solid") ["self", "level", "state"] (sp_solid (CG K)) := by
  have G_Grove_even := ok_even (P := P) (w := w) (base := base) T
  have G_is_state := ok_is_state (P := P) (w := w) (base := base) T
  have G_is_whole := ok_is_whole (P := P) (w := w) (base := base) T
  refine good_mk T 13 (d := d_Grove_solid) (N := ["self", "level", "state"]) (ps := ["self", "level", "state"]) rfl rfl sc_Grove_solid (fun _ _ _ _ _ _ us hl => match us, hl with | [_, _, _], _ => rfl) (fun vs H Q E h => ?_) (fun f cdv A outer σ0 H vs Q E hr h => ?_)
  · obtain ⟨a, rows, q, l, s, rfl, _⟩ := h; rfl
  · obtain ⟨a, rows, q, l, s, rfl, G, hl, h0, h7, hlen, k⟩ := h
    have cl : Cls K (CG K) := T.cls 9
    refine ⟨_, (pss_cons (ps_if (PW.pt (pw_or (pt_not (pt_val (pe_cgK K rfl G_is_whole (hr.mono (by decide)) (T.glo 7) (pa_cons (pv 1) pa_nil)))) (pw_or1 (pt_not (pt_chain op_le op_le pe_int (pv 1) (pe_gint (T.int 18) rfl)))))) pss_never pss_nil)
      (pss_cons (ps_if (pt_not (pt_val (pe_cgK K rfl G_is_state (hr.mono (by decide)) (T.glo 16) (pa_cons (pv 2) pa_nil)))) pss_never pss_nil)
      (pss_one (ps_ret (pe_mgK K rfl (pv 0) (T.cls 9) (T.meth 19) G_Grove_even (hr.mono (by decide)) (pa_cons (pv 1) (pa_cons (pv 2) pa_nil))))))), ?_⟩
    walk_at "rd"
    refine ⟨_, rfl, .inl ⟨_, rfl⟩, ?_⟩
    walk_at "rd"
    refine iteF ?_
    walk_at "rd"
    rw [decide_eq_true (show (0 : Int) ≤ (l : Int) by omega)]
    walk_at "rd"
    rw [decide_eq_true (show (l : Int) ≤ 48 by omega)]
    walk_at "rd"
    refine ⟨_, rfl, .inl ⟨_, rfl⟩, ?_⟩
    walk_at "rd"
    rw [stateV_ok h0 h7]
    walk_at "rd"
    walk_at "rd"
    refine rd_methR G.ob (by rfl) ?_
    walk_at "rd"
    exact ⟨a, rows, q, l, s, rfl, G, by omega, h0, h7, hlen, k⟩
/-- four are joined -/
def sp_joined (C : Addr) : Sp := fun vs H Q _ => ∃ (a : GA) (rows : List (Int × Addr)) (q : List Sq) (A B C' D : Sq) (na nb nc nd : Nat), vs = [.ref a.g, .int (na : Int), .int (nb : Int), .int (nc : Int), .int (nd : Int)] ∧ GAt C H a rows q ∧
  q[na]? = some A ∧ q[nb]? = some B ∧ q[nc]? = some C' ∧ q[nd]? = some D ∧ B.level = A.level ∧ C'.level = A.level ∧ D.level = A.level ∧ A.level ≤ 47 ∧ q.length < 16000000 ∧
  ∀ H' q' (n : Nat), GStep C H a rows q H' rows q' → q'.length ≤ q.length + 1 → q'[n]? = some (.node A B C' D) → Fr a.m5 H H' → Q (.int (n : Int)) H'
theorem mp_joined {C : Addr} : MonP (sp_joined C) := fun vs H Q Q' E h ⟨a, rows, q, A, B, C', D, na, nb, nc, nd, x1, x2, x3, x4, x5, x6, x7, x8, x9, y1, y2, k⟩ => ⟨a, rows, q, A, B, C', D, na, nb, nc, nd, x1, x2, x3, x4, x5, x6, x7, x8, x9, y1, y2, fun H' q' n g p l f => h _ _ (k H' q' n g p l f)⟩
end
end JF

/-! ### helpers of the laws: the script's numbers, lists of tuples of numbers -/
namespace JF
open PySem PySem.Spec PyProof.Rows L2
/-- tuples of whole numbers, one by one -/
def TR (H : Hp) : List Addr → List (List Int) → Prop
  | [], [] => True
  | r :: rs, x :: xs => H r = some (.tup (x.map V.int)) ∧ TR H rs xs
  | _, _ => False
theorem TR.len {H : Hp} : ∀ {rs : List Addr} {xs : List (List Int)}, TR H rs xs → rs.length = xs.length
  | [], [], _ => rfl
  | r :: rs, x :: xs, h => congrArg (· + 1) (TR.len h.2)
  | [], _ :: _, h => h.elim
  | _ :: _, [], h => h.elim
theorem TR.keep {H H' : Hp} (k : ∀ b ys, H b = some (.tup ys) → H' b = some (.tup ys)) : ∀ {rs : List Addr} {xs : List (List Int)}, TR H rs xs → TR H' rs xs
  | [], [], _ => trivial
  | r :: rs, x :: xs, h => ⟨k _ _ h.1, TR.keep k h.2⟩
  | [], _ :: _, h => h.elim
  | _ :: _, [], h => h.elim
theorem TR.app {H : Hp} {r : Addr} {x : List Int} (hr : H r = some (.tup (x.map V.int))) : ∀ {rs : List Addr} {xs : List (List Int)}, TR H rs xs → TR H (rs ++ [r]) (xs ++ [x])
  | [], [], _ => ⟨hr, trivial⟩
  | _ :: _, _ :: _, h => ⟨h.1, TR.app hr h.2⟩
  | [], _ :: _, h => h.elim
  | _ :: _, [], h => h.elim
theorem TR.get {H : Hp} : ∀ {rs : List Addr} {xs : List (List Int)} {i : Nat} {r : Addr}, TR H rs xs → rs[i]? = some r → ∃ x, xs[i]? = some x ∧ H r = some (.tup (x.map V.int))
  | [], [], _, _, _, e => by simp at e
  | r :: rs, x :: xs, 0, _, h, e => by
    simp only [List.getElem?_cons_zero, Option.some.injEq] at e
    subst e
    exact ⟨x, rfl, h.1⟩
  | r :: rs, x :: xs, i + 1, _, h, e => by
    simp only [List.getElem?_cons_succ] at e ⊢
    exact TR.get h.2 e
  | [], _ :: _, _, _, h, _ => h.elim
  | _ :: _, [], _, _, h, _ => h.elim
/-- a list of tuples of whole numbers -/
def TL (H : Hp) (p : Addr) (xs : List (List Int)) : Prop := ∃ rs : List Addr, H p = some (.lst (rs.map V.ref)) ∧ TR H rs xs
theorem at_get {α : Type} {l : List α} {i : Nat} (h : i < l.length) : l[i]? = some l[i] := by simp [h]
section
variable {K : PySem.W.Frag} {σ : L2.St} {H : Hp} {Q : VK}
/-- [x[c] for x in list] of tuples of numbers -/
theorem rd_colT {L i n : Nat} {c : Int} {p : Addr} {xs : List (List Int)} (hi : i < σ.length) (hv : σ[L]? = some (some (.ref p))) (h : TL H p xs) (hx : ∀ x ∈ xs, x.length = n) (hc0 : 0 ≤ c) (hcn : c.toNat < n) (hz : xs.length ≤ sizeLine)
    (hd : ∀ D, H D = none → Q (.ref D) (upd H D (.lst ((xs.map fun x => x.getD c.toNat 0).map V.int)))) : tLc (iList K (tVar L)) (gName i) tYes (tOp (rIxT K) (tVar i) (tC (.int c))) [i] σ H Q := by
  obtain ⟨rs, hp, ht⟩ := h
  refine ⟨_, hv, p, rfl, ⟨_, SqL.of hp⟩, fun D hD => ?_⟩
  have sm : ∀ o, Same H (upd H D o) := fun o => same_upd hD
  refine lc_list (K := K) (xs := rs.map V.ref) (fun i H' => H' = upd H D (.lst (((xs.take i).map fun x => x.getD c.toNat 0).map V.int))) (by simp) (fun i H' _ e => SqL.of (by rw [e]; exact sm _ _ _ hp)) ?_ ?_
  · rintro j x H' hj rfl
    obtain ⟨r, hr, rfl⟩ : ∃ r, rs[j]? = some r ∧ x = .ref r := by
      rw [List.getElem?_map] at hj
      cases e : rs[j]? with
      | none => rw [e] at hj; cases hj
      | some r => rw [e] at hj; exact ⟨r, rfl, (Option.some.inj hj).symm⟩
    obtain ⟨x, hx1, hx2⟩ := ht.get hr
    have hl := hx x (List.mem_of_getElem? hx1)
    have hlt : c.toNat < x.length := by omega
    have hset : (((wipe σ [i]).set i (some (.ref r)))[i]? : Option (Option V)) = some (some (.ref r)) := by
      rw [List.getElem?_set_self (by rw [wipe_length]; exact hi)]
    refine ⟨by simp only [wipe, List.set_set], ?_⟩
    refine rd_yes (iteT' (rd_op (rd_var hset (rd_c ?_))))
    have e1 : atI (x.map V.int) c = some (V.int (x.getD c.toNat 0)) := by
      obtain ⟨m, rfl⟩ : ∃ m : Nat, c = m := ⟨c.toNat, by omega⟩
      refine atI_nat ?_
      rw [Int.toNat_natCast] at hlt ⊢
      rw [List.getElem?_map, at_get hlt]
      simp [List.getD, hlt]
    refine rd_ixT (SqT.of (sm _ _ _ hx2)) e1 ?_
    refine ⟨_, upd_same, ?_, ?_⟩
    · have hj2 : j < xs.length := (List.getElem?_eq_some_iff.mp hx1).1
      simp only [List.length_map, List.length_take]
      omega
    · rw [upd_upd]
      have : xs.take (j + 1) = xs.take j ++ [x] := by rw [List.take_succ, hx1]; rfl
      rw [this, List.map_append, List.map_append]; rfl
  · rintro H' rfl
    have e : xs.take (rs.map V.ref).length = xs := by rw [List.length_map, ht.len, List.take_length]
    rw [e]
    exact hd D hD
/-- min, max, of a list of numbers -/
theorem rd_min {p : Addr} {ns : List Int} (m0 : Int) (h : H p = some (.lst (ns.map V.int))) (hm : m0 ∈ ns) (hle : ∀ y ∈ ns, m0 ≤ y) (q : Q (.int m0) H) : rMin K [.ref p] H Q :=
  ⟨p, ns, rfl, SqL.of h, List.length_pos_of_mem hm, fun m h1 h2 => by
    have e : m = m0 := Int.le_antisymm (h2 m0 hm) (hle m h1)
    rw [e]; exact q⟩
theorem rd_max {p : Addr} {ns : List Int} (m0 : Int) (h : H p = some (.lst (ns.map V.int))) (hm : m0 ∈ ns) (hle : ∀ y ∈ ns, y ≤ m0) (q : Q (.int m0) H) : rMax K [.ref p] H Q :=
  ⟨p, ns, rfl, SqL.of h, List.length_pos_of_mem hm, fun m h1 h2 => by
    have e : m = m0 := Int.le_antisymm (hle m h1) (h2 m0 hm)
    rw [e]; exact q⟩
/-! lists of tuples, compared -/
theorem dp_tr : ∀ {rs : List Addr} {xs : List (List Int)}, TR H rs xs → DpAll K H (rs.map V.ref) (xs.map fun x => PyData.tuple (x.map PyData.int))
  | [], [], _ => .nil
  | r :: rs, x :: xs, h => .cons (.tup (SqT.of h.1) dp_ints) (dp_tr h.2)
  | [], _ :: _, h => h.elim
  | _ :: _, [], h => h.elim
theorem lay_ints : ∀ x : List Int, PyData.canLayAll0 (x.map PyData.int) = true
  | [] => by simp [PyData.canLayAll0]
  | i :: x => by simp [PyData.canLayAll0, PyData.canLay0, lay_ints x]
theorem depth_ints : ∀ x : List Int, PyData.depthAll (x.map PyData.int) ≤ 1
  | [] => by simp [PyData.depthAll]
  | i :: x => by simp [PyData.depthAll, PyData.depth, depth_ints x]
theorem lay_tr : ∀ xs : List (List Int), PyData.canLayAll0 (xs.map fun x => PyData.tuple (x.map PyData.int)) = true
  | [] => by simp [PyData.canLayAll0]
  | x :: xs => by simp [PyData.canLayAll0, PyData.canLay0, lay_tr xs, lay_ints x]
theorem depth_tr : ∀ xs : List (List Int), PyData.depthAll (xs.map fun x => PyData.tuple (x.map PyData.int)) ≤ 2
  | [] => by simp [PyData.depthAll]
  | x :: xs => by
    have h1 := depth_tr xs
    have h2 := depth_ints x
    simp only [List.map_cons, PyData.depthAll, PyData.depth]
    omega
theorem shaped_tr (xs : List (List Int)) : SeqAt.shaped (.list (xs.map fun x => PyData.tuple (x.map PyData.int))) = true := by
  have h1 := depth_tr xs
  have h2 := lay_tr xs
  have h3 : PyData.depth (.list (xs.map fun x => PyData.tuple (x.map PyData.int))) ≤ 64 := by
    simp only [PyData.depth]
    omega
  unfold SeqAt.shaped
  rw [decide_eq_true h3, Bool.and_true]
  simp only [PyData.canLay0, h2]
theorem TL.same {H H' : Hp} {p : Addr} {xs : List (List Int)} (h : TL H p xs) (s : Same H H') : TL H' p xs := by
  obtain ⟨rs, h1, h2⟩ := h
  exact ⟨rs, s _ _ h1, h2.keep fun _ _ e => s _ _ e⟩
/-- rows == [] -/
theorem rd_eqTL0 {p pe : Addr} {xs : List (List Int)} (h : TL H p xs) (he : H pe = some (.lst [])) (q : Q (.bl (decide (xs = []))) H) : rEqD K (.ref p) (.ref pe) H Q := by
  obtain ⟨rs, h1, h2⟩ := h
  refine ⟨_, _, .lst (SqL.of h1) (dp_tr h2), .lst (SqL.of he) .nil, shaped_tr xs, rfl, ?_⟩
  cases xs with
  | nil => exact q
  | cons x xs => exact q
/-- isinstance(tuple of the law's, tuple) -/
theorem rd_isiT {p : Addr} {xs : List V} (h : H p = some (.tup xs)) (q : Q (.bl true) H) : rIsi K [.ref p, .ty "tuple"] H Q :=
  isi_ty (.base (.tup h)) (by decide +kernel : kitB "tuple" "tuple" = some true) q
theorem rd_isiI {i : Int} (q : Q (.bl true) H) : rIsi K [.int i, .ty "int"] H Q := isi_ty (.base (.int i)) (by decide +kernel : kitB "int" "int" = some true) q
theorem rd_isiB {i : Int} (q : Q (.bl false) H) : rIsi K [.int i, .ty "bool"] H Q := isi_ty (.base (.int i)) (by decide +kernel : kitB "int" "bool" = some false) q
end
theorem sqL_on {K : PySem.W.Frag} {H H' : Hp} {a : Addr} {xs : List V} (h : SqL K H a xs) (e : ∀ o, H a = some o → H' a = some o) : SqL K H' a xs :=
  h.elim (fun h => .inl (h.elim (fun h => .inl (e _ h)) fun ⟨o, h⟩ => .inr ⟨o, e _ h⟩)) fun h => .inr h
theorem walk_r0 {n : Nat} : Walk (Itr 0 n) n (fun _ => True) (YFn fun i => .int (i : Int)) :=
  walk_range.mono (fun _ h => h) fun i H x H' _ _ y => ⟨y.1, y.2.trans (by show V.int (0 + (i : Int)) = V.int (i : Int); rw [Int.zero_add])⟩
def cutI (ns : List Int) (lo hi : Option Int) : List Int := (ns.drop (HT.sIx ns.length 0 lo)).take (HT.sIx ns.length ns.length hi - HT.sIx ns.length 0 lo)
theorem cutV_ints (ns : List Int) (lo hi : Option Int) : cutV (ns.map V.int) lo hi = (cutI ns lo hi).map V.int := by
  unfold cutV cutI
  rw [List.length_map, List.map_take, List.map_drop]
/-- Grove() -/
theorem rd_grove {K : PySem.W.Frag} {σ : L2.St} {H : Hp} {Q : VK} (h : ∀ (a : GA) H', GAt (CG K) H' a [] [] → (∀ b ∈ a.muts [], H b = none) → Same H H' → Q (.ref a.g) H') : tMake (CG K) (sp_ginit (CG K)) [] E0 tNil σ H Q := by
  intro x dx hx hdx hne
  refine ⟨x, dx, rfl, upd_same, fun a H' e G hn hk => ⟨rfl, ?_⟩⟩
  subst e
  have out : ∀ (b u : Addr) (Hx : Hp) (o : HO), upd Hx u o b = none → Hx b = none := fun b u Hx o e => by
    by_cases z : b = u
    · subst z; rw [upd_same] at e; cases e
    · rw [upd_ne z] at e; exact e
  refine h a H' G (fun b hb => out _ _ _ _ (out _ _ _ _ (hn b hb))) fun b o e => ?_
  have b1 : b ≠ a.g := ne_of_none e hx
  have b2 : b ≠ dx := ne_of_none e hdx
  exact hk b o (by rw [upd_ne b1, upd_ne b2]; exact e) b1
/-! #### the asker's own lists beside a grove -/
/-- tuples stay -/
def Tup (H H' : Hp) : Prop := ∀ b ys, H b = some (.tup ys) → H' b = some (.tup ys)
theorem Tup.refl (H : Hp) : Tup H H := fun _ _ h => h
theorem Tup.trans {H H1 H2 : Hp} (x : Tup H H1) (y : Tup H1 H2) : Tup H H2 := fun b ys h => y b ys (x b ys h)
theorem Tup.of {H H' : Hp} (x : Same H H') : Tup H H' := fun b ys h => x b _ h
theorem Tup.put {H : Hp} {p : Addr} {xs : List V} (h : H p = some (.lst xs)) (o : HO) : Tup H (upd H p o) := fun b ys e => by
  rw [upd_ne (by rintro rfl; rw [h] at e; cases e)]; exact e
theorem GStep.tup {C : Addr} {H H1 : Hp} {a : GA} {rows r1 : List (Int × Addr)} {q q1 : List Sq} (x : GStep C H a rows q H1 r1 q1) (G : GAt C H a rows q) : Tup H H1 := fun b ys e => x.fr b _ e (G.tup_out e)
/-- own lists, by their addresses -/
structure OwnL (a : GA) (rows : List (Int × Addr)) (H : Hp) (l : List (Addr × List V)) : Prop where
  nd : (l.map (·.1)).Nodup
  at_ : ∀ p xs, (p, xs) ∈ l → H p = some (.lst xs)
  out : ∀ p xs, (p, xs) ∈ l → p ∉ a.muts rows
theorem OwnL.same {a : GA} {rows : List (Int × Addr)} {H H' : Hp} {l : List (Addr × List V)} (h : OwnL a rows H l) (s : Same H H') : OwnL a rows H' l := ⟨h.nd, fun p xs m => s _ _ (h.at_ p xs m), h.out⟩
theorem OwnL.step {C : Addr} {H H1 : Hp} {a : GA} {rows r1 : List (Int × Addr)} {q q1 : List Sq} {l : List (Addr × List V)} (h : OwnL a rows H l) (x : GStep C H a rows q H1 r1 q1) : OwnL a r1 H1 l :=
  ⟨h.nd, fun p xs m => (x.own (h.at_ p xs m) (h.out p xs m)).1, fun p xs m => (x.own (h.at_ p xs m) (h.out p xs m)).2⟩
theorem OwnL.nil {a : GA} {rows : List (Int × Addr)} {H : Hp} : OwnL a rows H [] := ⟨by simp, fun _ _ m => by simp at m, fun _ _ m => by simp at m⟩
theorem OwnL.new {C : Addr} {a : GA} {rows : List (Int × Addr)} {q : List Sq} {H : Hp} {l : List (Addr × List V)} {p : Addr} {xs : List V} (h : OwnL a rows H l) (G : GAt C H a rows q) (hp : H p = none) : OwnL a rows (upd H p (.lst xs)) ((p, xs) :: l) := by
  refine ⟨?_, fun p' ys m => ?_, fun p' ys m => ?_⟩
  · rw [List.map_cons, List.nodup_cons]
    refine ⟨fun z => ?_, h.nd⟩
    obtain ⟨⟨p', ys⟩, m, e⟩ := List.mem_map.mp z
    have e' : p' = p := e
    subst e'
    rw [h.at_ _ _ m] at hp
    cases hp
  · rcases List.mem_cons.mp m with m | m
    · cases m; exact upd_same
    · exact same_upd hp _ _ (h.at_ _ _ m)
  · rcases List.mem_cons.mp m with m | m
    · cases m; exact G.new_out hp
    · exact h.out _ _ m
theorem OwnL.put {a : GA} {rows : List (Int × Addr)} {H : Hp} {p : Addr} {xs : List V} (l1 l2 : List (Addr × List V)) (ys : List V) (h : OwnL a rows H (l1 ++ (p, xs) :: l2)) : OwnL a rows (upd H p (.lst ys)) (l1 ++ (p, ys) :: l2) := by
  have nd := h.nd
  rw [List.map_append, List.map_cons] at nd
  have ne : ∀ p' zs, (p', zs) ∈ l1 ∨ (p', zs) ∈ l2 → p' ≠ p := fun p' zs m e => by
    subst e
    rw [List.nodup_append, List.nodup_cons] at nd
    rcases m with m | m
    · exact nd.2.2 p' (List.mem_map_of_mem (f := fun x : Addr × List V => x.1) (a := (p', zs)) m) p' List.mem_cons_self rfl
    · exact nd.2.1.1 (List.mem_map_of_mem (f := fun x : Addr × List V => x.1) (a := (p', zs)) m)
  refine ⟨by rw [List.map_append, List.map_cons]; exact nd, fun p' zs m => ?_, fun p' zs m => ?_⟩
  · rcases List.mem_append.mp m with m | m
    · rw [upd_ne (ne p' zs (.inl m))]; exact h.at_ _ _ (List.mem_append_left _ m)
    · rcases List.mem_cons.mp m with m | m
      · cases m; exact upd_same
      · rw [upd_ne (ne p' zs (.inr m))]; exact h.at_ _ _ (List.mem_append_right _ (List.mem_cons_of_mem _ m))
  · rcases List.mem_append.mp m with m | m
    · exact h.out _ _ (List.mem_append_left _ m)
    · rcases List.mem_cons.mp m with m | m
      · cases m; exact h.out _ xs (List.mem_append_right _ List.mem_cons_self)
      · exact h.out _ _ (List.mem_append_right _ (List.mem_cons_of_mem _ m))
theorem GAt.own {C : Addr} {H : Hp} {a : GA} {rows : List (Int × Addr)} {q : List Sq} {l : List (Addr × List V)} {p : Addr} {xs : List V} {o : HO} (G : GAt C H a rows q) (h : OwnL a rows H l) (m : (p, xs) ∈ l) : GAt C (L2.upd H p o) a rows q :=
  G.upd (fun u e => by rw [h.at_ _ _ m] at e; cases e; exact fun z => z) (h.out _ _ m)
theorem OwnL.ix {a : GA} {rows : List (Int × Addr)} {H : Hp} {l : List (Addr × List V)} {p : Addr} {xs : List V} (h : OwnL a rows H l) (i : Nat) (e : l[i]? = some (p, xs)) : H p = some (.lst xs) := h.at_ p xs (List.mem_of_getElem? e)
theorem GAt.ownI {C : Addr} {H : Hp} {a : GA} {rows : List (Int × Addr)} {q : List Sq} {l : List (Addr × List V)} {p : Addr} {xs : List V} (G : GAt C H a rows q) (h : OwnL a rows H l) (i : Nat) (e : l[i]? = some (p, xs)) (o : HO) : GAt C (L2.upd H p o) a rows q := G.own h (List.mem_of_getElem? e)
theorem OwnL.putI {a : GA} {rows : List (Int × Addr)} {H : Hp} {l : List (Addr × List V)} {p : Addr} {xs : List V} (h : OwnL a rows H l) (i : Nat) (e : l[i]? = some (p, xs)) (ys : List V) : OwnL a rows (upd H p (.lst ys)) (l.set i (p, ys)) := by
  obtain ⟨hi, e'⟩ := List.getElem?_eq_some_iff.mp e
  have e1 : l = l.take i ++ (p, xs) :: l.drop (i + 1) := by rw [← e']; simp
  rw [List.set_eq_take_append_cons_drop, if_pos hi]
  rw [e1] at h
  exact h.put (l.take i) (l.drop (i + 1)) ys
theorem OwnL.tup {a : GA} {rows : List (Int × Addr)} {H : Hp} {l : List (Addr × List V)} {p : Addr} {xs : List V} (h : OwnL a rows H l) (i : Nat) (e : l[i]? = some (p, xs)) (o : HO) : Tup H (L2.upd H p o) := Tup.put (h.ix i e) o
section
variable {P : Program} {w : World} {K : PySem.W.Frag} {mg : Str → Option Value} {base : Heap}
def atN (ns : List Int) (k : Nat) : Int := (ns[k]?).getD 0
def sp_at (K : PySem.W.Frag) : Sp := fun vs H Q _ => ∃ (a : Addr) (ns : List Int) (k : Int), vs = [.ref a, .int k] ∧ SqL K H a (ns.map V.int) ∧ 0 ≤ k ∧ Q (.int (atN ns k.toNat)) H
theorem mp_at : MonP (sp_at K) := fun vs H Q Q' E h ⟨a, ns, k, x1, x2, x3, q⟩ => ⟨a, ns, k, x1, x2, x3, h _ _ q⟩
theorem ok_at (T : Env fa fn K mg) : Good P w K mg base CX0 1 ("_law_at", none) ["_law_script", "_law_k"] (sp_at K) := by
  refine good_mk T 56 (d := d_w_at) (N := ["_law_script", "_law_k"]) (ps := ["_law_script", "_law_k"]) rfl rfl sc_w_at (fun _ _ _ _ _ _ us hl => match us, hl with | [_, _], _ => rfl) (fun vs H Q E h => ?_) (fun f cdv A outer s H vs Q E hr h => ?_)
  · obtain ⟨a, ns, k, rfl, _⟩ := h; rfl
  · obtain ⟨a, ns, k, rfl, hs, h0, q⟩ := h
    refine ⟨_, (pss_cons (ps_if (pt_cmpR op_lt (pv 1) (pe_callB (call_lenK K rfl) (by rfl) (T.free 8) (by decide +kernel) (pa_cons (pv 0) pa_nil)) (nomark _)) (pss_one (ps_ret (pe_ix (ix_listK K rfl) (pv 0) (pv 1) (fun _ _ => rfl)))) pss_nil)
      (pss_one (ps_ret pe_int))), ?_⟩
    obtain ⟨m, rfl⟩ : ∃ m : Nat, k = m := ⟨k.toNat, by omega⟩
    rw [Int.toNat_natCast] at q
    walk_at "rd"
    refine rd_len hs ?_
    walk_at "rd"
    rw [List.length_map]
    refine ite_d (fun hk => ?_) (fun hk => ?_)
    · walk_at "rd"
      have hlt : m < ns.length := by omega
      refine rd_ixL hs (v := .int (atN ns m)) (atI_nat ?_) q
      rw [List.getElem?_map, at_get hlt]
      simp [atN, hlt]
    · walk_at "rd"
      have e : atN ns m = 0 := by unfold atN; rw [List.getElem?_eq_none (by omega)]; rfl
      rw [e] at q
      exact q
end
end JF

/-! ### helpers of the laws: dicts by tuples, zips of tuples -/
namespace JF
open PySem PySem.Spec PyProof.Rows L2
section
variable {X : Cx}
/-- d.setdefault(tuple, x), the dict by tuples -/
def rSetdT : V → List V → Hp → VK → Prop := fun u us H Q => ∃ (d t : Addr) (k : List Key) (z : V) (tab : List (List Key × V)), u = .ref d ∧ us = [.ref t, z] ∧ H d = some (.dT tab) ∧ H t = some (.tup (k.map kV)) ∧ tab.length < sizeLine ∧
  (∀ v, valV tab k = some v → Q v H) ∧ (valV tab k = none → Q z (upd H d (.dT (putK tab k z))))
theorem mt_setdT (room : X.A.units + 64 < cLine) : MtR X "dict.setdefault" rSetdT := by
  intro pins s σ H u us uv uvs Q I ru rus h
  obtain ⟨d, t, k, z, tab, rfl, rfl, hd, ht, hlt, there, away⟩ := h
  cases ru
  obtain ⟨kv, zv, rfl, rk, rz⟩ := vals2 rus
  cases rk
  obtain ⟨hle, hsys, ys, tie, dict⟩ := dt_of I.hok hd
  have hys : ys.length ≤ sizeLine := Paired.length tie ▸ hle
  have look := tie.val k
  refine call_setdefault_heap (knd := tupleKind (mixKind X.prog X.w)) (k := k) (tupleKind_room_in1 (by omega)) (key_of I.hok ht) hsys dict ?got ?new hys
  case got =>
    intro p hp
    rw [hp] at look
    cases ev : valV tab k with
    | none => rw [ev] at look; exact False.elim look
    | some v =>
      rw [ev] at look
      exact ⟨v, H, I.tok _, look, there v ev⟩
  case new =>
    intro hn h2 dict2 but
    have ev : valV tab k = none := by
      cases ev : valV tab k with
      | none => rfl
      | some v => rw [hn, ev] at look; exact False.elim look
    obtain ⟨o, es, ep, ho, m1, m2, m3, _, m4⟩ := dict2
    have tie2 : KT (upd H d (.dT (putK tab k z))) (putK tab k z) (storedH ys k t zv) := (tie.put k ht rz).keeps fun b items e => by
      rw [upd_ne (ne_of e hd (fun x => nomatch x))]
      exact e
    have hle2 : (putK tab k z).length ≤ sizeLine := by
      rw [putK_new _ ev, List.length_append]
      exact hlt
    have I2 := d_write (t' := s.toks + (tupleKind (mixKind X.prog X.w)).draws k) I (by rw [hd]; exact True.intro) but ⟨o, ho⟩ (ob := .dT (putK tab k z)) ⟨hle2, hsys, _, tie2, o, es, ep, ho, m1, m2, m3, m4⟩
    exact ⟨z, _, I2, rz, away ev⟩
end
section
variable {X : Cx} {p pos tpos : Pos} {e e2 : Expr} {ta : TA} {elts : List Expr} {kk : Nat}
theorem pi_zipAK (K : PySem.W.Frag) (hK : X.K = K) (hg : Gl X "zip") (hm : X.mg "zip" = none) (ha : PA X [e, e2] ta) (hs : starEach [e, e2] X.env = (false, eval e X.env) :: starEach [e2] X.env := by rfl) (hpl : (backTo pos (starEach [e2] X.env)).any (·.1) = false := by rfl) :
    PI X (.Tuple elts kk tpos) (.Call (.Name "zip" p) [e, e2] [] pos) (RZ.iZipA K ta) := by subst hK; exact RZ.pi_zipA hg hm ha hs hpl
end
section
variable {K : PySem.W.Frag} {σ : L2.St} {H : Hp} {Q : VK}
theorem rd_iZA {tr : TA} {R : It → Hp → Prop} (h : tr σ H fun vs H1 => ∃ a b xs ys, vs = [.ref a, .ref b] ∧ ((SqL K H1 a xs ∧ SqL K H1 b ys ∧ R (Itz K a b) H1) ∨ (SqT K H1 a xs ∧ SqT K H1 b ys ∧ R (RZ.ItzT K a b) H1))) : RZ.iZipA K tr σ H R := h
theorem rd_tyD {l : Addr} {xs : List (Key × V)} {R : Prop} (h1 : H l = some (.dK xs)) (q : R) : tyV K "dict" (.ref l) H ∧ R := ⟨Or.inr (Or.inr (Or.inl ⟨rfl, Or.inl ⟨_, h1⟩⟩)), q⟩
theorem rd_tyDT {l : Addr} {xs : List (List Key × V)} {R : Prop} (h1 : H l = some (.dT xs)) (q : R) : tyV K "dict" (.ref l) H ∧ R := ⟨Or.inr (Or.inr (Or.inl ⟨rfl, Or.inr ⟨_, h1⟩⟩)), q⟩
theorem rd_iK {td : TE} {R : It → Hp → Prop} (h : td σ H fun x H1 => ∃ d o, x = .ref d ∧ ((∃ kvs, H1 d = some (.frz o (.dK kvs)) ∧ R (Itk d o kvs) H1) ∨ ∃ kvs, H1 d = some (.frz o (.dT kvs)) ∧ R (Itkt d o kvs) H1)) : iKeys td σ H R := h
theorem shaped_tup {ns : List Int} : SeqAt.shaped (.tuple (ns.map PyData.int)) = true := by
  have h1 := depth_ints ns
  have h2 := lay_ints ns
  have h3 : PyData.depth (.tuple (ns.map PyData.int)) ≤ 64 := by
    simp only [PyData.depth]
    omega
  unfold SeqAt.shaped
  rw [decide_eq_true h3, Bool.and_true]
  simp only [PyData.canLay0, h2]
theorem rd_neDT {p p' : Addr} {ns ms : List Int} (h1 : H p = some (.tup (ns.map V.int))) (h2 : H p' = some (.tup (ms.map V.int)))
    (q : Q (.bl (!PyData.eqv (.tuple (ns.map PyData.int)) (.tuple (ms.map PyData.int)))) H) : rNeD K (.ref p) (.ref p') H Q := ⟨_, _, .tup (SqT.of h1) dp_ints, .tup (SqT.of h2) dp_ints, shaped_tup, shaped_tup, q⟩
theorem eqvT_refl (ns : List Int) : PyData.eqv (.tuple (ns.map PyData.int)) (.tuple (ns.map PyData.int)) = true := SeqAt.eqv_refl _ (by simp only [PyData.canLay0]; exact lay_ints ns)
end
theorem eqvAll_ints : ∀ ns ms : List Int, PyData.eqvAll (ns.map PyData.int) (ms.map PyData.int) = decide (ns = ms)
  | [], [] => by simp [PyData.eqvAll]
  | [], _ :: _ => by simp [PyData.eqvAll]
  | _ :: _, [] => by simp [PyData.eqvAll]
  | n :: ns, m :: ms => by
    simp only [List.map_cons, PyData.eqvAll, PyData.eqv, eqvAll_ints ns ms, List.cons.injEq]
    by_cases a : n = m <;> by_cases b : ns = ms <;> simp [a, b]
theorem shaped_list {ns : List Int} : SeqAt.shaped (.list (ns.map PyData.int)) = true := by
  have h1 := depth_ints ns
  have h2 := lay_ints ns
  have h3 : PyData.depth (.list (ns.map PyData.int)) ≤ 64 := by
    simp only [PyData.depth]
    omega
  unfold SeqAt.shaped
  rw [decide_eq_true h3, Bool.and_true]
  simp only [PyData.canLay0, h2]
/-- lists, tuples of whole numbers, compared -/
theorem rd_eqLI {K : PySem.W.Frag} {H : Hp} {Q : VK} {p p' : Addr} {ns ms : List Int} (h1 : SqL K H p (ns.map V.int)) (h2 : SqL K H p' (ms.map V.int)) (q : Q (.bl (decide (ns = ms))) H) : rEqD K (.ref p) (.ref p') H Q :=
  rd_eqDI h1 h2 shaped_list shaped_list (by
    have e : PyData.eqv (.list (ns.map PyData.int)) (.list (ms.map PyData.int)) = decide (ns = ms) := by rw [← eqvAll_ints]; simp only [PyData.eqv]
    rw [e]; exact q)
theorem rd_neLI {K : PySem.W.Frag} {H : Hp} {Q : VK} {p p' : Addr} {ns ms : List Int} (h1 : SqL K H p (ns.map V.int)) (h2 : SqL K H p' (ms.map V.int)) (q : Q (.bl (!decide (ns = ms))) H) : rNeD K (.ref p) (.ref p') H Q :=
  rd_neDI h1 h2 shaped_list shaped_list (by
    have e : PyData.eqv (.list (ns.map PyData.int)) (.list (ms.map PyData.int)) = decide (ns = ms) := by rw [← eqvAll_ints]; simp only [PyData.eqv]
    rw [e]; exact q)
theorem rd_neTI {K : PySem.W.Frag} {H : Hp} {Q : VK} {p p' : Addr} {ns ms : List Int} (h1 : H p = some (.tup (ns.map V.int))) (h2 : H p' = some (.tup (ms.map V.int))) (q : Q (.bl (!decide (ns = ms))) H) : rNeD K (.ref p) (.ref p') H Q :=
  rd_neDT h1 h2 (by
    have e : PyData.eqv (.tuple (ns.map PyData.int)) (.tuple (ms.map PyData.int)) = decide (ns = ms) := by rw [← eqvAll_ints]; simp only [PyData.eqv]
    rw [e]; exact q)
theorem mm_setdT : MonM rSetdT := fun x y H Q Q' h ⟨d, t, k, z, tab, e1, e2, e3, e4, e5, q1, q2⟩ => ⟨d, t, k, z, tab, e1, e2, e3, e4, e5, fun v hv => h _ _ (q1 v hv), fun hv => h _ _ (q2 hv)⟩
theorem mr_neD {K : PySem.W.Frag} : MonR (rNeD K) := fun x y H Q Q' h ⟨a, b, e1, e2, e3, e4, q⟩ => ⟨a, b, e1, e2, e3, e4, h _ _ q⟩
theorem mr_eqD {K : PySem.W.Frag} : MonR (rEqD K) := fun x y H Q Q' h ⟨a, b, e1, e2, e3, e4, q⟩ => ⟨a, b, e1, e2, e3, e4, h _ _ q⟩
/-! own objects beside a grove: lists, dicts -/
structure OwnO (a : GA) (rows : List (Int × Addr)) (H : Hp) (l : List (Addr × HO)) : Prop where
  nd : (l.map (·.1)).Nodup
  at_ : ∀ p o, (p, o) ∈ l → H p = some o
  mv : ∀ p o, (p, o) ∈ l → ¬ HO.still o
  out : ∀ p o, (p, o) ∈ l → p ∉ a.muts rows
theorem OwnO.same {a : GA} {rows : List (Int × Addr)} {H H' : Hp} {l : List (Addr × HO)} (h : OwnO a rows H l) (s : Same H H') : OwnO a rows H' l := ⟨h.nd, fun p xs m => s _ _ (h.at_ p xs m), h.mv, h.out⟩
theorem OwnO.step {C : Addr} {H H1 : Hp} {a : GA} {rows r1 : List (Int × Addr)} {q q1 : List Sq} {l : List (Addr × HO)} (h : OwnO a rows H l) (x : GStep C H a rows q H1 r1 q1) : OwnO a r1 H1 l :=
  ⟨h.nd, fun p xs m => (x.own (h.at_ p xs m) (h.out p xs m)).1, h.mv, fun p xs m => (x.own (h.at_ p xs m) (h.out p xs m)).2⟩
theorem OwnO.nil {a : GA} {rows : List (Int × Addr)} {H : Hp} : OwnO a rows H [] := ⟨by simp, fun _ _ m => by simp at m, fun _ _ m => by simp at m, fun _ _ m => by simp at m⟩
theorem OwnO.new {C : Addr} {a : GA} {rows : List (Int × Addr)} {q : List Sq} {H : Hp} {l : List (Addr × HO)} {p : Addr} {o : HO} (h : OwnO a rows H l) (G : GAt C H a rows q) (hp : H p = none) (ho : ¬ HO.still o) : OwnO a rows (upd H p o) ((p, o) :: l) := by
  refine ⟨?_, fun p' ys m => ?_, fun p' ys m => ?_, fun p' ys m => ?_⟩
  · rw [List.map_cons, List.nodup_cons]
    refine ⟨fun z => ?_, h.nd⟩
    obtain ⟨⟨p', ys⟩, m, e⟩ := List.mem_map.mp z
    have e' : p' = p := e
    subst e'
    rw [h.at_ _ _ m] at hp
    cases hp
  · rcases List.mem_cons.mp m with m | m
    · cases m; exact upd_same
    · exact same_upd hp _ _ (h.at_ _ _ m)
  · rcases List.mem_cons.mp m with m | m
    · cases m; exact ho
    · exact h.mv _ _ m
  · rcases List.mem_cons.mp m with m | m
    · cases m; exact G.new_out hp
    · exact h.out _ _ m
theorem OwnO.ix {a : GA} {rows : List (Int × Addr)} {H : Hp} {l : List (Addr × HO)} {p : Addr} {o : HO} (h : OwnO a rows H l) (i : Nat) (e : l[i]? = some (p, o)) : H p = some o := h.at_ p o (List.mem_of_getElem? e)
theorem mem_set {α : Type} {l : List α} {i : Nat} {y x : α} (h : x ∈ l.set i y) : x = y ∨ ∃ j, j ≠ i ∧ l[j]? = some x := by
  obtain ⟨j, hj, e⟩ := List.mem_iff_getElem.mp h
  by_cases z : i = j
  · subst z; left; rw [← e, List.getElem_set_self]
  · right
    refine ⟨j, Ne.symm z, ?_⟩
    rw [List.getElem_set_ne z] at e
    rw [List.length_set] at hj
    rw [at_get hj, e]
theorem OwnO.ne {a : GA} {rows : List (Int × Addr)} {H : Hp} {l : List (Addr × HO)} (h : OwnO a rows H l) {i j : Nat} {p p' : Addr} {o o' : HO} (e : l[i]? = some (p, o)) (e' : l[j]? = some (p', o')) (n : j ≠ i) : p' ≠ p := fun z => by
  obtain ⟨hi, ei⟩ := List.getElem?_eq_some_iff.mp e
  obtain ⟨hj, ej⟩ := List.getElem?_eq_some_iff.mp e'
  exact n ((List.getElem_inj (xs := l.map (·.1)) (h₀ := by simpa using hj) (h₁ := by simpa using hi) h.nd).mp (by simp [ei, ej, z]))
theorem OwnO.put {a : GA} {rows : List (Int × Addr)} {H : Hp} {l : List (Addr × HO)} {p : Addr} {o : HO} (h : OwnO a rows H l) (i : Nat) (e : l[i]? = some (p, o)) (o' : HO) (ho : ¬ HO.still o') : OwnO a rows (upd H p o') (l.set i (p, o')) := by
  have nd' : ((l.set i (p, o')).map (·.1)) = l.map (·.1) := by
    rw [List.map_set]
    obtain ⟨hi, ei⟩ := List.getElem?_eq_some_iff.mp e
    refine List.ext_getElem (by simp) fun j h1 h2 => ?_
    by_cases z : i = j
    · subst z; simp [ei]
    · rw [List.getElem_set_ne z]
  have cases_ : ∀ p' u, (p', u) ∈ l.set i (p, o') → (p' = p ∧ u = o') ∨ (p' ≠ p ∧ (p', u) ∈ l) := fun p' u m => by
    rcases mem_set m with m | ⟨j, hj, m⟩
    · cases m; exact .inl ⟨rfl, rfl⟩
    · exact .inr ⟨h.ne e m hj, List.mem_of_getElem? m⟩
  refine ⟨by rw [nd']; exact h.nd, fun p' u m => ?_, fun p' u m => ?_, fun p' u m => ?_⟩
  · rcases cases_ p' u m with ⟨rfl, rfl⟩ | ⟨n, m⟩
    · exact upd_same
    · rw [upd_ne n]; exact h.at_ _ _ m
  · rcases cases_ p' u m with ⟨rfl, rfl⟩ | ⟨n, m⟩
    · exact ho
    · exact h.mv _ _ m
  · rcases cases_ p' u m with ⟨rfl, rfl⟩ | ⟨n, m⟩
    · exact h.out _ o (List.mem_of_getElem? e)
    · exact h.out _ _ m
theorem GAt.ownO {C : Addr} {H : Hp} {a : GA} {rows : List (Int × Addr)} {q : List Sq} {l : List (Addr × HO)} {p : Addr} {o : HO} (G : GAt C H a rows q) (h : OwnO a rows H l) (i : Nat) (e : l[i]? = some (p, o)) (o' : HO) : GAt C (L2.upd H p o') a rows q :=
  G.upd (fun u e' => by rw [h.ix i e] at e'; cases e'; exact h.mv _ _ (List.mem_of_getElem? e)) (h.out _ _ (List.mem_of_getElem? e))
theorem OwnO.tup {a : GA} {rows : List (Int × Addr)} {H : Hp} {l : List (Addr × HO)} {p : Addr} {o : HO} (h : OwnO a rows H l) (i : Nat) (e : l[i]? = some (p, o)) (o' : HO) : Tup H (L2.upd H p o') := fun b ys e' => by
  rw [upd_ne (by rintro rfl; rw [h.ix i e] at e'; cases e'; exact h.mv _ _ (List.mem_of_getElem? e) trivial)]; exact e'
/-! the law's promise -/
def sp_law (K : PySem.W.Frag) : Sp := fun vs H Q _ => ∃ (a : Addr) (ns : List Int), vs = [.ref a] ∧ SqL K H a (ns.map V.int) ∧ ns.length ≤ 63 ∧ Only H ∧ ∀ H', Q (.bl true) H'
theorem sp_law_in {K : PySem.W.Frag} (H : Hp) (a : Addr) (ns : List Int) (hl : ns.length ≤ 63) (hO : Only H) (hS : SqL K H a (ns.map V.int)) : sp_law K [.ref a] H (fun v _ => v = .bl true) (fun _ _ _ => False) := ⟨a, ns, rfl, hS, hl, hO, fun _ => rfl⟩
theorem shl_ok {i : Nat} : (1 : Int) * 2 ^ ((i : Int)).toNat = 2 ^ i := by rw [Int.one_mul, Int.toNat_natCast]
/-! solid squares: what lives, the span -/
theorem even_none : ∀ l : Nat, (Sq.even l 0).lives = 0 ∧ (Sq.even l 0).span = none
  | 0 => ⟨rfl, rfl⟩
  | l + 1 => by
    obtain ⟨h1, h2⟩ := even_none l
    refine ⟨?_, ?_⟩
    · show (Sq.even l 0).lives + (Sq.even l 0).lives + (Sq.even l 0).lives + (Sq.even l 0).lives = 0
      rw [h1]; rfl
    · show r4 _ (Sq.even l 0).span (Sq.even l 0).span (Sq.even l 0).span (Sq.even l 0).span = none
      rw [h2]; rfl
theorem even_some {s : Int} (hs : s ≠ 0) : ∀ l : Nat, (Sq.even l s).lives = 2 ^ l * 2 ^ l ∧ (Sq.even l s).span = some (0, 0, 2 ^ l, 2 ^ l)
  | 0 => by simp [Sq.even, Sq.lives, Sq.span, hs]
  | l + 1 => by
    obtain ⟨h1, h2⟩ := even_some hs l
    have e : (2 : Int) ^ (l + 1) = 2 * 2 ^ l := by rw [Int.pow_succ]; omega
    have h0 : (0 : Int) < 2 ^ l := Int.pow_pos (by decide)
    refine ⟨?_, ?_⟩
    · show (Sq.even l s).lives + (Sq.even l s).lives + (Sq.even l s).lives + (Sq.even l s).lives = _
      rw [h1, e]
      generalize (2 : Int) ^ l = h
      have e2 : 2 * h * (2 * h) = 4 * (h * h) := by rw [Int.mul_assoc, Int.mul_left_comm h 2 h, ← Int.mul_assoc]; rfl
      rw [e2]; omega
    · show r4 (2 ^ (Sq.even l s).level) (Sq.even l s).span (Sq.even l s).span (Sq.even l s).span (Sq.even l s).span = _
      rw [h2, Sq.level_even, e]
      generalize (2 : Int) ^ l = h at h0
      simp only [r4, r4step, rb, Option.some.injEq, Prod.mk.injEq]
      refine ⟨?_, ?_, ?_, ?_⟩ <;> omega
theorem even_inj {s s' : Int} : ∀ {l l' : Nat}, Sq.even l s = Sq.even l' s' → l = l' ∧ s = s'
  | 0, 0, h => by cases h; exact ⟨rfl, rfl⟩
  | 0, _ + 1, h => by cases h
  | _ + 1, 0, h => by cases h
  | l + 1, l' + 1, h => by
    injection h with h1
    obtain ⟨a, b⟩ := even_inj h1
    exact ⟨by rw [a], b⟩
theorem pow64 {i : Nat} (h : i ≤ 60) : (0 : Int) < 2 ^ i ∧ (2 : Int) ^ i < 2 ^ 64 := by
  refine ⟨Int.pow_pos (by decide), ?_⟩
  have e2 : 2 ^ i < 2 ^ 64 := Nat.pow_lt_pow_right (by decide) (by omega)
  exact_mod_cast e2
theorem sq_ok {i : Nat} (h : i ≤ 60) : CMulW ((2 : Int) ^ i) (2 ^ i) := by
  obtain ⟨h1, h2⟩ := pow64 h
  have e1 : (2 : Int) ^ 64 ≤ 2 ^ 2000 := by decide +kernel
  exact mulW_of (by omega) (by omega) (by omega) (by omega)
section
variable {P : Program} {w : World} {K : PySem.W.Frag} {mg : Str → Option Value} {base : Heap}
def sp_same : Sp := fun vs H Q _ => ∃ i d : Int, vs = [.int i, .int d] ∧ Q (.bl (decide (i = d))) H
theorem mp_same : MonP sp_same := fun vs H Q Q' E h ⟨i, d, x1, q⟩ => ⟨i, d, x1, h _ _ q⟩
theorem sp_sameT {i : Int} {H : Hp} {Q : VK} {E : XK} (q : Q (.bl true) H) : sp_same [.int i, .int i] H Q E := ⟨i, i, rfl, by rw [decide_eq_true rfl]; exact q⟩
end
end JF

/-! ### helpers of the laws: the script beside a grove -/
namespace JF
open PySem PySem.Spec PyProof.Rows L2
/-- the script stays as it was, and is none of the grove's own -/
def Scr (H0 : Hp) (a0 : Addr) (a : GA) (rows : List (Int × Addr)) (H : Hp) : Prop := ∀ o, H0 a0 = some o → H a0 = some o ∧ a0 ∉ a.muts rows
theorem Scr.new {H0 H1 : Hp} {a0 : Addr} {a : GA} (hnew : ∀ b ∈ a.muts [], H0 b = none) (sm : Same H0 H1) : Scr H0 a0 a [] H1 := fun o e => ⟨sm _ _ e, fun z => by
  have y := hnew _ z
  rw [e] at y
  cases y⟩
theorem Scr.same {H0 H H' : Hp} {a0 : Addr} {a : GA} {rows : List (Int × Addr)} (h : Scr H0 a0 a rows H) (s : Same H H') : Scr H0 a0 a rows H' := fun o e => ⟨s _ _ (h o e).1, (h o e).2⟩
theorem Scr.step {C : Addr} {H0 H H1 : Hp} {a0 : Addr} {a : GA} {rows r1 : List (Int × Addr)} {q q1 : List Sq} (h : Scr H0 a0 a rows H) (x : GStep C H a rows q H1 r1 q1) : Scr H0 a0 a r1 H1 := fun o e => x.own (h o e).1 (h o e).2
theorem Scr.put {H0 H : Hp} {a0 p : Addr} {a : GA} {rows : List (Int × Addr)} {xs : List V} {o' : HO} (h : Scr H0 a0 a rows H) (hO : Only H0) (hp : H p = some (.lst xs)) : Scr H0 a0 a rows (upd H p o') := fun o e => by
  refine ⟨?_, (h o e).2⟩
  rw [upd_ne]
  · exact (h o e).1
  · rintro rfl
    rw [(h o e).1] at hp
    cases hp
    rcases hO a0 with z | ⟨u, ys, z⟩
    · rw [z] at e; cases e
    · rw [z] at e; cases e
theorem Scr.sq {K : PySem.W.Frag} {H0 H : Hp} {a0 : Addr} {a : GA} {rows : List (Int × Addr)} {xs : List V} (h : Scr H0 a0 a rows H) (hS : SqL K H0 a0 xs) : SqL K H a0 xs := sqL_on hS fun o e => (h o e).1
/-- the number read at a place -/
theorem rd_at {K : PySem.W.Frag} {H : Hp} {Q : VK} {E : XK} {a0 : Addr} {ns : List Int} {k : Int} (hs : SqL K H a0 (ns.map V.int)) (h0 : 0 ≤ k) (q : Q (.int (atN ns k.toNat)) H) : sp_at K [.ref a0, .int k] H Q E := ⟨a0, ns, k, rfl, hs, h0, q⟩
theorem nat_of {z : Int} (h : 0 ≤ z) : ∃ n : Nat, z = (n : Int) := ⟨z.toNat, by omega⟩
/-- range(i, j, c), small and upwards -/
theorem rgc_up {i j c : Int} (h1 : 0 ≤ i) (h2 : i ≤ 1000) (h3 : 0 ≤ j) (h4 : j ≤ 1000) (h5 : 1 ≤ c) (h6 : c ≤ 1000) : ∃ n : Nat, RgC i j c n ∧ ∀ k : Nat, k < n → i + (k : Int) * c < j := by
  have hq : 0 ≤ (j - i + c - 1) / c ∨ j ≤ i := by
    rcases Int.lt_or_le i j with h | h
    · left; exact Int.ediv_nonneg (by omega) (by omega)
    · exact .inr h
  have hle : (j - i + c - 1) / c ≤ 3000 := by
    rcases Int.lt_or_le (j - i + c - 1) 0 with h | h
    · have := Int.ediv_neg_of_neg_of_pos h (by omega : 0 < c); omega
    · exact Int.le_trans (Int.ediv_le_self _ h) (by omega)
  have es : Builtin.Range.rangeSize i j c = if i < j then (j - i - 1) / c + 1 else 0 := by
    unfold Builtin.Range.rangeSize
    rw [if_pos (by omega : c > 0)]
  have hdn : i < j → 0 ≤ (j - i - 1) / c := fun h => Int.ediv_nonneg (by omega) (by omega)
  have hdl : i < j → (j - i - 1) / c ≤ 1000 := fun h => Int.le_trans (Int.ediv_le_self _ (by omega)) (by omega)
  refine ⟨(Builtin.Range.rangeSize i j c).toNat, ⟨by omega, by omega, ?_, ?_⟩, fun k hk => ?_⟩
  · unfold Builtin.Range.small
    rw [es]
    simp only [Builtin.Range.rangeFitsLong, Bool.and_eq_true, Bool.or_eq_true, decide_eq_true_eq, beq_iff_eq, show c > 0 by omega, if_true]
    split
    · have a := hdn (by assumption); have b := hdl (by assumption); omega
    · omega
  · rw [es]
    split
    · have a := hdn (by assumption); omega
    · rfl
  · rw [es] at hk
    split at hk
    · have a := hdn (by assumption)
      have e := Int.mul_ediv_add_emod (j - i - 1) c
      have r := Int.emod_nonneg (j - i - 1) (by omega : c ≠ 0)
      have hk' : (k : Int) ≤ (j - i - 1) / c := by omega
      have hm : (k : Int) * c ≤ (j - i - 1) / c * c := Int.mul_le_mul_of_nonneg_right hk' (by omega)
      rw [Int.mul_comm ((j - i - 1) / c) c] at hm
      omega
    · omega
theorem rd_rng3 {i j c : Int} {R : It → Prop} (h1 : 0 ≤ i) (h2 : i ≤ 1000) (h3 : 0 ≤ j) (h4 : j ≤ 1000) (h5 : 1 ≤ c) (h6 : c ≤ 1000) (h : ∀ n : Nat, (∀ k : Nat, k < n → i + (k : Int) * c < j) → R (Itc i c n)) : ∃ (i' j' c' : Int) (n : Nat), [V.int i, V.int j, V.int c] = [.int i', .int j', .int c'] ∧ RgC i' j' c' n ∧ R (Itc i' c' n) := by
  obtain ⟨n, a, b⟩ := rgc_up h1 h2 h3 h4 h5 h6
  exact ⟨i, j, c, n, rfl, a, h n b⟩
end JF

/-! ### walks that the hand layer lacks: zip over lists and tuples alike, enumerate of a text -/
namespace JF
open PySem PySem.Spec PyProof.Rows L2
/-- a tuple, or a list -/
def sqB (t : Bool) (K : PySem.W.Frag) (H : Hp) (a : Addr) (xs : List V) : Prop := match t with
  | true => SqT K H a xs
  | false => SqL K H a xs
def isB (t : Bool) (h : Heap) (a : Addr) (its : Array Value) : Prop := match t with
  | true => h.IsTuple a its
  | false => h.IsList a its
def itB (t : Bool) (h : Heap) (it a : Addr) (i : Nat) : Prop := match t with
  | true => h.IsTupleIter it a i
  | false => h.IsListIter it a i
def obB (t : Bool) (a : Addr) : Obj := match t with
  | true => { cls := .type "tuple_iterator", data := .fields #[.ref a, .int 0 0] }
  | false => { cls := .type "list_iterator", data := .fields #[.ref a, .int 0 0] }
theorem itB.obj {t : Bool} {h : Heap} {it a : Addr} {i : Nat} (s : itB t h it a i) : ∃ o vs, h.get? it = some o ∧ o.data = .fields vs := by
  cases t with
  | true => obtain ⟨o, e, _, d⟩ := s; exact ⟨o, _, e, d⟩
  | false => obtain ⟨o, e, _, d⟩ := s; exact ⟨o, _, e, d⟩
theorem itB.at {t : Bool} {h h' : Heap} {it a : Addr} {i : Nat} (s : itB t h it a i) (k : ∀ o, h.get? it = some o → h'.get? it = some o) : itB t h' it a i := by
  cases t with
  | true => exact Heap.IsTupleIter.at s k
  | false => exact Heap.IsListIter.at s k
theorem isB.at {t : Bool} {h h' : Heap} {a : Addr} {its : Array Value} (s : isB t h a its) (k : ∀ o, h.get? a = some o → h'.get? a = some o) : isB t h' a its := by
  cases t with
  | true => exact Heap.IsTuple.at s k
  | false => exact Heap.IsList.at s k
theorem isB.lt {t : Bool} {h : Heap} {a : Addr} {its : Array Value} (s : isB t h a its) : a < h.objs.size := by
  cases t with
  | true => obtain ⟨o, e, _⟩ := s; exact Heap.lt_size e
  | false => obtain ⟨o, e, _⟩ := s; exact Heap.lt_size e
theorem isB.ne {t u : Bool} {h : Heap} {a b it : Addr} {i : Nat} {its : Array Value} (p : isB t h a its) (s : itB u h it b i) : a ≠ it := fun q => by
  obtain ⟨o', vs, e', d'⟩ := s.obj
  rw [← q] at e'
  cases t with
  | true => obtain ⟨o, e, _, n, d⟩ := p; rw [e] at e'; cases e'; rw [d] at d'; cases d'
  | false => obtain ⟨o, e, _, n, d⟩ := p; rw [e] at e'; cases e'; rw [d] at d'; cases d'
theorem drawsB {P : Program} {w : World} {A : Around} (hh : A.handled = none) (t : Bool) (it a : Addr) (hne : a ≠ it) (its : Array Value) :
    Draws P w A it [it, a] its.size (fun i v => its[i]? = some v) (fun i h => itB t h it a i ∧ isB t h a its) := by
  cases t with
  | true => exact Draws.tuple hh it a hne its
  | false => exact Draws.list hh it a hne its
theorem beginsB (t : Bool) (a : Addr) (its : Array Value) : Begins (.ref a) (obB t a) fun h => isB t h a its := by
  cases t with
  | true => exact begins_tuple a its
  | false => exact begins_list a its
theorem itB0 {t : Bool} {h : Heap} {it a : Addr} (e : h.get? it = some (obB t a)) : itB t h it a 0 := by
  cases t with
  | true => exact ⟨_, e, rfl, rfl⟩
  | false => exact ⟨_, e, rfl, rfl⟩
theorem sqB_inv {X : Cx} {pins : List (Addr × Obj)} {σ : L2.St} {H : Hp} {s : Shared} {t : Bool} {a : Addr} {xs : List V} (I : Inv X pins σ H s) (h : sqB t X.K H a xs) : ∃ its : List Value, Vals xs its ∧ isB t s.heap a its.toArray := by
  cases t with
  | true => obtain ⟨its, r, p, _⟩ := I.tuple h; exact ⟨its, r, p⟩
  | false => obtain ⟨its, r, p, _⟩ := I.list h; exact ⟨its, r, p.isList⟩
theorem sqB_inj {X : Cx} {pins : List (Addr × Obj)} {σ : L2.St} {H : Hp} {s : Shared} {t : Bool} {a : Addr} {xs ys : List V} (I : Inv X pins σ H s) (h : sqB t X.K H a xs) (h' : sqB t X.K H a ys) : xs = ys := by
  cases t with
  | true => exact I.tuple_inj h h'
  | false => exact I.list_inj h h'
/-- the things at a and b, in step, each turn a new pair -/
def ItzQ (K : PySem.W.Frag) (t u : Bool) (a b : Addr) : It :=
  ⟨fun i H => ∃ (xs ys : List V) (x y : V), sqB t K H a xs ∧ sqB u K H b ys ∧ xs[i]? = some x ∧ ys[i]? = some y,
    fun i H v H' => ∃ T x y, v = .ref T ∧ H T = none ∧ H' = upd H T (.tup [x, y]) ∧ (∀ xs, sqB t K H a xs → xs[i]? = some x) ∧ ∀ ys, sqB u K H b ys → ys[i]? = some y,
    fun i H => ∃ xs ys : List V, sqB t K H a xs ∧ sqB u K H b ys ∧ i ≤ xs.length ∧ i ≤ ys.length ∧ (xs.length = i ∨ ys.length = i)⟩
theorem turn_zipQ {P : Program} {w : World} {K : PySem.W.Frag} {elts : List Expr} {kk : Nat} {tpos : Pos} {t u : Bool} {a b z TI TO i1 i2 : Addr} (D : ZipSep2 z TI TO i1 i2 [i1, a] [i2, b]) :
    Turn P w K (.Tuple elts kk tpos) (ItzQ K t u a b) [z, TI, TO, i1, i2] z (fun i h => IsZip h z TI TO .none ∧ IsPair h TI (.ref i1) (.ref i2) ∧ (∃ x y, IsPair h TO x y) ∧ itB t h i1 a i ∧ itB u h i2 b i) where
  mem := by simp
  obj := fun i h st c hc => by
    obtain ⟨hz, hI, ⟨x, y, hO⟩, h1, h2⟩ := st
    obtain ⟨o1, v1, e1, d1⟩ := h1.obj
    obtain ⟨o2, v2, e2, d2⟩ := h2.obj
    have five : c = z ∨ c = TI ∨ c = TO ∨ c = i1 ∨ c = i2 := by simpa using hc
    rcases five with rfl | rfl | rfl | rfl | rfl
    · exact ⟨_, hz, fun v q => nomatch q⟩
    · exact ⟨_, hI, fun v q => nomatch q⟩
    · exact ⟨_, hO, fun v q => nomatch q⟩
    · exact ⟨o1, e1, fun v q => by rw [d1] at q; cases q⟩
    · exact ⟨o2, e2, fun v q => by rw [d2] at q; cases q⟩
  keep := fun i h h' st k => by
    obtain ⟨hz, hI, ⟨x, y, hO⟩, h1, h2⟩ := st
    exact ⟨k _ (by simp) _ hz, k _ (by simp) _ hI, ⟨x, y, k _ (by simp) _ hO⟩, h1.at fun o => k _ (by simp) o, h2.at fun o => k _ (by simp) o⟩
  item := by
    intro X eP ew eK hc i pins s σ H E I hf st hg
    subst eP ew eK
    obtain ⟨hz, hI, ⟨x0, y0, hO⟩, h1, h2⟩ := st
    obtain ⟨xs, ys, x, y, qa, qb, hx, hy⟩ := hg
    obtain ⟨its, rv, p⟩ := sqB_inv I qa
    obtain ⟨its2, rv2, p2⟩ := sqB_inv I qb
    obtain ⟨v, hv, ru⟩ := rv.get hx
    obtain ⟨v2, hv2, ru2⟩ := rv2.get hy
    have l1 : i < its.toArray.size := by rw [List.size_toArray]; exact (List.getElem?_eq_some_iff.mp hv).1
    have l2 : i < its2.toArray.size := by rw [List.size_toArray]; exact (List.getElem?_eq_some_iff.mp hv2).1
    have zl := Heap.lt_size hz
    obtain ⟨o1, _, e1, _⟩ := h1.obj
    obtain ⟨o2, _, e2, _⟩ := h2.obj
    have na : a ≠ i1 := p.ne h1
    have nb : b ≠ i2 := p2.ne h2
    refine wpAny_pyNext_zipD2_item D (drawsB (P := X.prog) (w := X.w) (A := X.A.in1) (show X.A.in1.handled = none from I.ok.hd hc) t i1 a na its.toArray) (drawsB (P := X.prog) (w := X.w) (A := X.A.in1) (show X.A.in1.handled = none from I.ok.hd hc) u i2 b nb its2.toArray) hz hI hO ⟨h1, p⟩ ⟨h2, p2⟩ l1 l2 fun w1 w2 g tk m1 m2 z' tO d1 d2 hT hsz hk => ?_
    have ew1 : w1 = v := by
      have q : its.toArray[i]? = some v := by simpa using hv
      exact Option.some.inj (m1.symm.trans q)
    have ew2 : w2 = v2 := by
      have q : its2.toArray[i]? = some v2 := by simpa using hv2
      exact Option.some.inj (m2.symm.trans q)
    subst ew1 ew2
    refine ⟨_, rfl, wpAny_letOwnedTupleGo_zip (s := { s with heap := g, toks := tk }) z' fun g2 z2 sb => ?_⟩
    have hT2 : g2.get? s.heap.objs.size = some { cls := .type "tuple", data := .seq #[w1, w2] } := (sb.2 _ (Nat.ne_of_gt zl)).trans hT
    have hob : ObjOk X.prog X.w (upd H s.heap.objs.size (.tup [x, y])) g2 s.heap.objs.size (.tup [x, y]) :=
      ⟨by show 2 ≤ sizeLine; decide, [w1, w2], .cons ru (.cons ru2 .nil), _, hT2, rfl, _, rfl⟩
    have kk : ∀ c o, c ∉ [z, TI, TO, i1, i2] → s.heap.get? c = some o → g2.get? c = some o := fun c o hb e => by
      simp only [List.mem_cons, List.not_mem_nil, or_false, not_or] at hb
      exact (sb.2 c hb.1).trans (hk c o hb.1 hb.2.2.1 hb.2.2.2.1 hb.2.2.2.2 e)
    refine ⟨.ref s.heap.objs.size, _, I.turnedNew (t' := tk) kk hf (Nat.le_refl _) hob, rfl, ⟨_, x, y, rfl, I.hok.fresh (Nat.le_refl _), rfl, fun l hl => by rw [sqB_inj I hl qa]; exact hx, fun l hl => by rw [sqB_inj I hl qb]; exact hy⟩, ⟨z2, ?_, ⟨w1, w2, ?_⟩, ?_, ?_⟩, fun c hcm => ?_⟩
    · exact Eq.trans (sb.2 _ D.TIz) (hk _ _ D.TIz D.TITO D.TIi1 D.TIi2 hI)
    · exact (sb.2 _ D.TOz).trans tO
    · exact d1.1.at fun o q => (sb.2 _ (Ne.symm D.zi1)).trans q
    · exact d2.1.at fun o q => (sb.2 _ (Ne.symm D.zi2)).trans q
    · have lt : c < s.heap.objs.size := by
        have five : c = z ∨ c = TI ∨ c = TO ∨ c = i1 ∨ c = i2 := by simpa using hcm
        rcases five with rfl | rfl | rfl | rfl | rfl
        · exact zl
        · exact Heap.lt_size hI
        · exact Heap.lt_size hO
        · exact Heap.lt_size e1
        · exact Heap.lt_size e2
      rw [upd_ne (Nat.ne_of_lt lt)]
      exact (hf c hcm).1
  done := by
    intro X eP ew eK hc i pins s σ H E I hf st hg
    subst eP ew eK
    obtain ⟨hz, hI, ⟨x0, y0, hO⟩, h1, h2⟩ := st
    obtain ⟨xs, ys, qa, qb, lx, ly, hend⟩ := hg
    obtain ⟨its, rv, p⟩ := sqB_inv I qa
    obtain ⟨its2, rv2, p2⟩ := sqB_inv I qb
    have l1 := rv.length
    have l2 := rv2.length
    have na : a ≠ i1 := p.ne h1
    have nb : b ≠ i2 := p2.ne h2
    exact wpAny_pyNext_zipD2_end D (drawsB (P := X.prog) (w := X.w) (A := X.A.in1) (show X.A.in1.handled = none from I.ok.hd hc) t i1 a na its.toArray) (drawsB (P := X.prog) (w := X.w) (A := X.A.in1) (show X.A.in1.handled = none from I.ok.hd hc) u i2 b nb its2.toArray) hz hI hO ⟨h1, p⟩ ⟨h2, p2⟩ (by simp; omega) (by simp; omega) (by simp; omega) fun g tk hk =>
      ⟨rfl, I.turnedL (t' := tk) (ch := [z, TI, TO, i1, i2]) (fun c o hb q => by
        simp only [List.mem_cons, List.not_mem_nil, or_false, not_or] at hb
        exact hk c o hb.1 hb.2.2.1 hb.2.2.2.1 hb.2.2.2.2 q) hf⟩
  self := fun A i s Q E sg => wpAny_pyIter_zip sg.1
theorem sep2 (I l1 l2 : Nat) (h1 : l1 < I) (h2 : l2 < I) : ZipSep2 (I + 4) (I + 2) (I + 3) I (I + 1) [I, l1] [I + 1, l2] := by
  have n0 : ∀ {x y : Nat}, x ≠ y → ¬ ((x : Addr) = y) := fun h => h
  constructor
  all_goals first
    | exact List.mem_cons_self
    | (intro q; rcases List.mem_cons.mp q with q | q
       · revert q; refine n0 ?_; omega
       · rw [List.mem_singleton] at q; revert q; refine n0 ?_; omega)
    | (refine n0 ?_; omega)
def iZipQ (K : PySem.W.Frag) (t u : Bool) (ta : TA) : TI := fun σ H R => ta σ H fun vs H1 => ∃ a b xs ys, vs = [.ref a, .ref b] ∧ sqB t K H1 a xs ∧ sqB u K H1 b ys ∧ R (ItzQ K t u a b) H1
theorem pi_zipQ {X : Cx} (K : PySem.W.Frag) (hK : X.K = K) (t u : Bool) {e e2 : Expr} {ta : TA} {p pos tpos : Pos} {elts : List Expr} {kk : Nat} (hg : Gl X "zip") (hm : X.mg "zip" = none) (ha : PA X [e, e2] ta)
    (hs : starEach [e, e2] X.env = (false, eval e X.env) :: starEach [e2] X.env := by rfl) (hpl : (backTo pos (starEach [e2] X.env)).any (·.1) = false := by rfl) : PI X (.Tuple elts kk tpos) (.Call (.Name "zip" p) [e, e2] [] pos) (iZipQ K t u ta) := by
  subst hK
  refine ⟨fun pins s σ H R I hh => ?_⟩
  refine Call_ (ld_blt I hg hm PyProof.Rows.boot_zip (PyProof.Rows.callWith_type1 (thn (ha.run pos pins s σ H _ I hh) fun _ s1 ⟨_, H1, I1, r1, q1⟩ => ?_) hs hpl))
  obtain ⟨a, b, xs, ys, rfl, qa, qb, q⟩ := q1
  obtain ⟨v1, v2, rfl, r, r'⟩ := vals2 r1
  cases r
  cases r'
  obtain ⟨its, rv, p1⟩ := sqB_inv I1 qa
  obtain ⟨its2, rv2, p2⟩ := sqB_inv I1 qb
  refine zip_begins2 (beginsB t a its.toArray) (beginsB u b its2.toArray) p1 p2 fun g hz hI hO h1 h2 hsz hk => wpAny_pyIter_zip hz ?_
  have I2 : Inv X pins σ H1 { s1 with heap := g } := I1.kept (t' := s1.toks) hk
  refine ⟨s1.heap.objs.size + 4, [s1.heap.objs.size + 4, s1.heap.objs.size + 2, s1.heap.objs.size + 3, s1.heap.objs.size, s1.heap.objs.size + 1], _, _, H1, rfl, I2, turn_zipQ (sep2 s1.heap.objs.size a b p1.lt p2.lt), ⟨hz, hI, ⟨_, _, hO⟩, itB0 h1, itB0 h2⟩, fun c hcm => ?_, q⟩
  have le : s1.heap.objs.size ≤ c := by
    simp only [List.mem_cons, List.not_mem_nil, or_false] at hcm
    rcases hcm with rfl | rfl | rfl | rfl | rfl
    · exact Nat.le_add_right _ _
    · exact Nat.le_add_right _ _
    · exact Nat.le_add_right _ _
    · exact Nat.le_refl _
    · exact Nat.le_add_right _ _
  exact I1.fpOk le (I1.hok.fresh le)
theorem walk_zipQ {K : PySem.W.Frag} {t u : Bool} {a b : Addr} {xs ys : List V} (hl : xs.length = ys.length) : Walk (ItzQ K t u a b) xs.length (fun H => sqB t K H a xs ∧ sqB u K H b ys) (YPair (fun i => xs[i]?) (fun i => ys[i]?)) :=
  ⟨fun i H hi ⟨p, q⟩ => ⟨xs, ys, xs[i], ys[i]'(hl ▸ hi), p, q, List.getElem?_eq_getElem hi, List.getElem?_eq_getElem (hl ▸ hi)⟩, fun H ⟨p, q⟩ => ⟨xs, ys, p, q, Nat.le_refl _, by omega, .inl rfl⟩,
    fun i H x H' hi ⟨p, q⟩ ⟨T, x', y', e, hT, eH, f1, f2⟩ => ⟨T, x', y', e, hT, eH, f1 xs p, f2 ys q⟩⟩
/-! enumerate(text) -/
def ItES (x : Str) : It :=
  ⟨fun i _ => i < x.cps.size, fun i H v H' => ∃ T c, v = .ref T ∧ H T = none ∧ x.cps[i]? = some c ∧ H' = upd H T (.tup [.int (i : Nat), .str ⟨#[c]⟩]), fun i _ => i = x.cps.size⟩
theorem turn_enumS {P : Program} {w : World} {K : PySem.W.Frag} {elts : List Expr} {kk : Nat} {tpos : Pos} (x : Str) (tk0 : Tok) (e it : Addr) (hne : e ≠ it) :
    Turn P w K (.Tuple elts kk tpos) (ItES x) [e, it] e (fun i h => (∃ old, IsEnum h e it ((i : Nat) : Int) old) ∧ h.IsStrIter it (strIterType x) x tk0 i) where
  mem := by simp
  obj := fun i h st b hb => by
    obtain ⟨⟨old, he⟩, o, ho, hc, hd⟩ := st
    have two : b = e ∨ b = it := by simpa using hb
    rcases two with rfl | rfl
    · exact ⟨_, he, fun v q => nomatch q⟩
    · exact ⟨o, ho, fun v q => by rw [hd] at q; cases q⟩
  keep := fun i h h' st k => by
    obtain ⟨⟨old, he⟩, o, ho, hc, hd⟩ := st
    exact ⟨⟨old, k e (by simp) _ he⟩, o, k it (by simp) _ ho, hc, hd⟩
  item := by
    intro X eP ew eK hc i pins s σ H E I hf st hg
    subst eP ew eK
    obtain ⟨⟨old, he⟩, hit⟩ := st
    have el := Heap.lt_size he
    have il : it < s.heap.objs.size := by obtain ⟨_, q, _⟩ := hit; exact Heap.lt_size q
    refine wpAny_pyNext_enum_itemD (Draws.text (prog := X.prog) (w := X.w) (A := X.A.in1) (show X.A.in1.handled = none from I.ok.hd hc) it x tk0) he hit hg hne (by simp [hne]) fun v g tk m ho hit2 hT hsz hk => ?_
    obtain ⟨c, tk2, hx, rfl⟩ := m
    refine ⟨_, rfl, wpAny_letOwnedTupleGo_enum (s := { s with heap := g, toks := tk + 1 }) ho fun g2 he2 sb => ?_⟩
    have hT2 : g2.get? s.heap.objs.size = some { cls := .type "tuple", data := .seq #[.int i tk, .str ⟨#[c]⟩ tk2] } := (sb.2 _ (Nat.ne_of_gt el)).trans hT
    have hob : ObjOk X.prog X.w (upd H s.heap.objs.size (.tup [.int (i : Nat), .str ⟨#[c]⟩])) g2 s.heap.objs.size (.tup [.int (i : Nat), .str ⟨#[c]⟩]) :=
      ⟨by show 2 ≤ sizeLine; decide, [.int i tk, .str ⟨#[c]⟩ tk2], .cons ⟨_, rfl⟩ (.cons ⟨_, rfl⟩ .nil), _, hT2, rfl, _, rfl⟩
    have kk : ∀ b o, b ∉ [e, it] → s.heap.get? b = some o → g2.get? b = some o := fun b o hb q => by
      simp only [List.mem_cons, List.not_mem_nil, or_false, not_or] at hb
      exact (sb.2 b hb.1).trans (hk b o hb.1 hb.2 q)
    refine ⟨.ref s.heap.objs.size, _, I.turnedNew (t' := tk + 1) kk hf (Nat.le_refl _) hob, rfl, ⟨_, c, rfl, I.hok.fresh (Nat.le_refl _), hx, rfl⟩, ⟨⟨.str ⟨#[c]⟩ tk2, ?_⟩, ?_⟩, fun b hb => ?_⟩
    · have q : ((i + 1 : Nat) : Int) = (i : Int) + 1 := by omega
      rw [q]; exact he2
    · obtain ⟨o, q, r⟩ := hit2
      exact ⟨o, (sb.2 it (Ne.symm hne)).trans q, r⟩
    · have lt : b < s.heap.objs.size := by
        have two : b = e ∨ b = it := by simpa using hb
        rcases two with rfl | rfl
        · exact el
        · exact il
      rw [upd_ne (Nat.ne_of_lt lt)]
      exact (hf b hb).1
  done := by
    intro X eP ew eK hc i pins s σ H E I hf st hg
    subst eP ew eK
    obtain ⟨⟨old, he⟩, hit⟩ := st
    obtain rfl : i = x.cps.size := hg
    obtain ⟨c0, c1, c2, c3, c4, c5⟩ := hf it (by simp)
    exact wpAny_pyNext_enum_endD (Draws.text (prog := X.prog) (w := X.w) (A := X.A.in1) (show X.A.in1.handled = none from I.ok.hd hc) it x tk0) he hit fun g eb => ⟨rfl, I.turned (t' := s.toks) (fun b o hb q => eb b o hb q) c0 c1 c3 c4 c5⟩
  self := fun A i s Q E sg => let ⟨⟨_, he⟩, _⟩ := sg; wpAny_pyIter_enum he
def iEnumS (ta : TA) : TI := fun σ H R => ta σ H fun vs H1 => ∃ x, vs = [.str x] ∧ R (ItES x) H1
theorem pi_enumS {X : Cx} {e : Expr} {ta : TA} {p pos tpos : Pos} {elts : List Expr} {kk : Nat} (hg : Gl X "enumerate") (hm : X.mg "enumerate" = none) (ha : PA X [e] ta) (hs : starEach [e] X.env = [(false, eval e X.env)] := by rfl) :
    PI X (.Tuple elts kk tpos) (.Call (.Name "enumerate" p) [e] [] pos) (iEnumS ta) := by
  refine ⟨fun pins s σ H R I hh => ?_⟩
  refine Call_ (ld_blt I hg hm boot_enumerate (PyProof.Rows.callWith_type1 (thn (ha.run pos pins s σ H _ I hh) fun _ s1 ⟨_, H1, I1, r1, q1⟩ => ?_) hs rfl))
  obtain ⟨x, rfl, q⟩ := q1
  obtain ⟨v, rfl, tk0, rfl⟩ := vals1 r1
  refine call_enumerate_str fun g he hit hsz hk => wpAny_pyIter_enum he ?_
  have I2 : Inv X pins σ H1 { s1 with heap := g } := I1.kept (t' := s1.toks) hk
  refine ⟨s1.heap.objs.size + 1, [s1.heap.objs.size + 1, s1.heap.objs.size], _, _, H1, rfl, I2, turn_enumS x tk0 (s1.heap.objs.size + 1) s1.heap.objs.size (Nat.succ_ne_self _), ⟨⟨.none, he⟩, hit⟩, fun b hb => ?_, q⟩
  have le : s1.heap.objs.size ≤ b := by
    simp only [List.mem_cons, List.not_mem_nil, or_false] at hb
    rcases hb with rfl | rfl
    · exact Nat.le_add_right _ _
    · exact Nat.le_refl _
  exact I1.fpOk le (I1.hok.fresh le)
theorem walk_enumS {x : Str} : Walk (ItES x) x.cps.size (fun _ => True) (fun i H v H' => ∃ T c, v = .ref T ∧ H T = none ∧ x.cps[i]? = some c ∧ H' = upd H T (.tup [.int (i : Nat), .str ⟨#[c]⟩])) :=
  ⟨fun _ _ h _ => h, fun _ _ => rfl, fun _ _ _ _ _ _ y => y⟩
theorem pg_tupK {X : Cx} (K : PySem.W.Frag) (hK : X.K = K) {n : Nat} {es : List Expr} {k : Nat} {t : TGs} {pos : Pos} (hc : X.calm = true) (h : PGs X es t) (hn : (assignEach es X.env).length = n := by rfl)
    (hst : (assignEach es X.env).findIdx? (·.1) = none := by rfl) : PG X (.Tuple es k pos) (gTup K n t) := by subst hK; exact pg_tup hc h hn hst
theorem pe_lenSetIK {X : Cx} (K : PySem.W.Frag) (hK : X.K = K) {a : Expr} {ta : TE} {p p2 q pos : Pos} (hg : Gl X "len") (hm : X.mg "len" = none) (hg2 : Gl X "set") (hm2 : X.mg "set" = none) (ha : PE X a ta) (hc : X.calm = true := by rfl)
    (na : starEach [a] X.env = (false, eval a X.env) :: starEach [] X.env := by rfl) : PE X (.Call (.Name "len" p) [.Call (.Name "set" p2) [a] [] q] [] pos) (RZ.tLenSetI K ta) := by subst hK; exact RZ.pe_lenSetI hg hm hg2 hm2 ha hc na
section
variable {K : PySem.W.Frag} {σ : L2.St} {H : Hp} {Q : VK}
theorem rd_lenSet {ta : TE} (h : ta σ H fun x H1 => ∃ (l : Addr) (ns : List Int), x = .ref l ∧ SqL K H1 l (ns.map V.int) ∧ ns.Nodup ∧ ns.length ≤ 4000 ∧ Q (.int (ns.length : Nat)) H1) : RZ.tLenSetI K ta σ H Q := h
theorem rd_iZQ {t u : Bool} {tr : TA} {R : It → Hp → Prop} (h : tr σ H fun vs H1 => ∃ a b xs ys, vs = [.ref a, .ref b] ∧ sqB t K H1 a xs ∧ sqB u K H1 b ys ∧ R (ItzQ K t u a b) H1) : iZipQ K t u tr σ H R := h
theorem rd_iES {tr : TA} {R : It → Hp → Prop} (h : tr σ H fun vs H1 => ∃ x, vs = [.str x] ∧ R (ItES x) H1) : iEnumS tr σ H R := h
end
end JF

/-! ### refusals: own exceptions raised, caught, asked for their class; defs called in an except clause -/
namespace JF
open PySem PySem.Spec PyProof.Rows L2
/-- what the written part says of an exception class -/
structure ExF (K : PySem.W.Frag) (x : Str) : Prop where
  q : PySem.W.excIn K (He.ga K x) veT "ValueError.__new__" = true
  kp : PySem.W.keepIn K (.ref (He.ga K x)) = true
  sb : PySem.W.subIn K (.ref (He.ga K x)) (.type "BaseException") = some true
  ty : PySem.W.typeIn K (.ref (He.ga K x)) = some (.type "type")
  ec : ExcC K (He.ga K x)
section
variable {fa : List He.Fa} {fn : List He.DefD} {K : PySem.W.Frag} {mg : Str → Option Value}
theorem exF_of {x : Str} (h : exB1 K x = true) : ExF K x := by
  unfold exB1 at h
  simp only [Bool.and_eq_true, beq_iff_eq] at h
  obtain ⟨⟨⟨⟨⟨⟨⟨⟨⟨⟨h1, h2⟩, h3⟩, h4⟩, h5⟩, h6⟩, h7⟩, h8⟩, h9⟩, h10⟩, h11⟩ := h
  exact ⟨h1, h2, h3, h4, ⟨h5, h6, h3, h7, h8, h9, h10, h11⟩⟩
theorem Env.exf (T : Env fa fn K mg) {x : Str} (h : x ∈ JF.exN) : ExF K x := exF_of (T.ex1 h)
theorem Env.exm (T : Env fa fn K mg) {x : Str} {c : Sum Str String} {b : Bool} (h : (x, c, b) ∈ JF.exP) : PySem.W.exmOne K (.ref (He.ga K x)) (exV K c) = some b := by
  have z := T.ex2 h
  unfold exB2 at z
  simp only [Bool.and_eq_true, beq_iff_eq] at z
  exact z.1
theorem Env.exk (T : Env fa fn K mg) {x : Str} {c : Sum Str String} {b : Bool} (h : (x, c, b) ∈ JF.exP) : PySem.W.kitOne K (.ref (He.ga K x)) (exV K c) = some b := by
  have z := T.ex2 h
  unfold exB2 at z
  simp only [Bool.and_eq_true, beq_iff_eq] at z
  exact z.2
end
/-! #### raise -/
def sRaise (W : WX) (c : Value) : TS := fun _ σ H => W c none σ H
theorem ps_raiseT {X : Cx} (K : PySem.W.Frag) (hK : X.K = K) {x m : Str} {j : Nat} {p p2 pos pos2 : Pos} {W : WX} (F : ExF K x) (gC : X.mg x = some (.ref (He.ga K x))) (hc : X.calm = true) (tk : L2N.Takes X W) (hg : Gl X x) (hdb : (x == ("__debug__" : Str)) = false := by decide) :
    PS X (.Raise (some (.Call (.Name x p) [.Constant (.str m) j p2] [] pos)) none pos2) (sRaise W (.ref (He.ga K x))) := by
  subst hK
  exact L2N.ps_raise hc tk (L2N.pmk_own PySem.F.excBase_ValueError F.q gC F.kp (raises_own F.sb F.ty) hg hdb)
theorem rd_raise {W : WX} {c : Value} {D : Ends} {σ : L2.St} {H : Hp} (h : W c none σ H) : sRaise W c D σ H := h
/-! #### defs that may raise -/
section
variable {P : Program} {w : World} {K : PySem.W.Frag} {mg : Str → Option Value} {base : Heap} {fa : List He.Fa} {fn : List He.DefD}
theorem good_mkX (T : Env fa fn K mg) (i : Nat) {d : He.DefD} {k : Nat} {N ps : List Str} {sp : Sp} {x qual : Str} {st : Stmt} {at_ : Str × Option Str} (hi : fn[i]? = some d) (hd : d = ⟨at_, x, qual, defArgs st, defBody st, defScope st, [], []⟩) (S : FnScope N ps (defScope st))
    (hb : ∀ (kV doc pm : Value) (an : Option Addr) (cdv ct : Value) (us : List Value), us.length = ps.length → bindArgs (PySem.W.fnOf x qual (defArgs st) (defBody st) (defScope st) .none kV doc pm an cdv ct) ⟨us, []⟩ = pure (ps.zip us))
    (len : ∀ vs H Q E, sp vs H Q E → vs.length = ps.length)
    (hbody : ∀ (f : Addr) (cdv : Value) (A : Around) (outer : List PySem.Env) (s : Shared) (H : Hp) (vs : List V) (Q : VK) (E : XK), Room k (A.deeper (envOfC qual (defScope st) s.heap.objs.size f cdv)) → sp vs H Q E →
      ∃ t, PSs (cxOf (L2N.CX P w) P w K mg base N qual (defScope st) f cdv A outer s H E) (defBody st) t ∧ t { nx := fun _ H' => Q .non H', rt := Q } (start N vs) H) : Good P w K mg base (L2N.CX P w) (k + 1) at_ ps sp := by
  subst hd
  obtain ⟨fd, F⟩ := T.c.def_ i hi
  exact ⟨fd, FunD.ok F S len fun cdv A outer s H vs Q E hr h => hbody _ cdv A outer s H vs Q E hr h, FunD.bindsN F hb, F.kp, fdAt_of F⟩
end
section
variable {X : Cx} {k : Nat} {x m : Str} {ps : List Str} {sp : Sp} {p pos apos : Pos} {e o : Expr} {es : List Expr} {ta : TE} {t : TA} {W : WX} {K : PySem.W.Frag}
/-- the call of a def that may raise -/
theorem pe_cgX (K : PySem.W.Frag) (hK : X.K = K) (tk : L2N.Takes X W) (G : Good X.prog X.w K X.mg X.base (L2N.CX X.prog X.w) k (x, none) ps sp) (hr : Room k X.A) (hm : X.mg x = some (.ref (He.ga K x))) (ha : PA X (e :: es) t) (hg : Gl X x := by rfl)
    (hdb : (x == ("__debug__" : Str)) = false := by decide) (he : starEach (e :: es) X.env = (false, eval e X.env) :: starEach es X.env := by rfl) (hpl : (backTo pos (starEach es X.env)).any (·.1) = false := by rfl) :
    PE X (.Call (.Name x p) (e :: es) [] pos) (tCallS sp (fun σ cls d H' => W cls d σ H') t) := by
  subst hK
  obtain ⟨fd, F, b, kp, lk⟩ := G
  exact pe_callS F hr hg hm kp b (fun σ => L2N.passAt tk σ) ha hdb he hpl
theorem rd_callS {E : L2.St → XK} {σ : L2.St} {H : Hp} {Q : VK} (h : t σ H fun vs H1 => sp vs H1 Q (E σ)) : tCallS sp E t σ H Q := h
end
theorem takes0N {X : Cx} : L2N.Takes X (fun _ _ _ _ => False) := fun _ _ x => by
  obtain ⟨_, _, _, _, _, _, _, _, _, _, _, _, _, _, _, _, z⟩ := x
  exact z.elim
/-! #### try: .. except X as n -/
def sTryAs (K : PySem.W.Frag) (c : Value) (i : Nat) (tb : WX → TS) (ts : Addr → Value → Option Addr → TS) (Wo : WX) : TS := fun D σ H => tb (wAs K c i ts Wo D) D σ H
theorem ps_tryA {X : Cx} (K : PySem.W.Frag) (hK : X.K = K) {x n : Str} {c : Value} {i : Nat} {body suite : List Stmt} {b₀ : Stmt} {np pos pos' : Pos} {tb : WX → TS} {ts : Addr → Value → Option Addr → TS} {Wo : WX} (hs : X.stack = X.env :: X.outer) (hf : X.env.frame = some X.env.locals) (hN : X.N.Nodup)
    (hi : X.N[i]? = some n) (hln : X.env.kindOf n = some .local) (hc : Names X x c) (tk : L2N.Takes X Wo)
    (hb : ∀ (W : WX) (pn : List (Addr × Obj)) (xe : Value → Shared → Prop), L2N.Takes (X.tr pn xe) W → PassesOwn (model X.prog X.w) X.A X.env xe → PSs (X.tr pn xe) body (tb W))
    (hsu : ∀ (a : Addr) (oe : Obj) (cls : Value) (d : Option Addr) (pn : List (Addr × Obj)), L2N.Zn cls d oe → (∃ vs, oe.data = .fields vs) → PSs (X.suite a ((a, oe) :: pn)) (b₀ :: suite) (ts a cls d)) :
    PS X (.Try body [.ExceptHandler (some (.Name x np)) (some n) (b₀ :: suite) pos'] [] [] pos) (sTryAs K c i tb ts Wo) := by
  subst hK
  exact L2N.ps_try_as hs hf hN hi hln hc tk hb hsu
theorem rd_tryA {K : PySem.W.Frag} {c : Value} {i : Nat} {tb : WX → TS} {ts : Addr → Value → Option Addr → TS} {Wo : WX} {D : Ends} {σ : L2.St} {H : Hp} (h : tb (wAs K c i ts Wo D) D σ H) : sTryAs K c i tb ts Wo D σ H := h
/-- the exception is of the class -/
theorem wAs_yes {K : PySem.W.Frag} {c cls : Value} {i : Nat} {ts : Addr → Value → Option Addr → TS} {Wo : WX} {D : Ends} {d : Option Addr} {σ : L2.St} {H : Hp} (e : PySem.W.exmOne K cls c = some true)
    (h : ∀ a, H a = none → ts a cls d { nx := fun σ' H' => D.nx (σ'.set i none) H', rt := D.rt, bk := fun σ' H' => D.bk (σ'.set i none) H', ct := fun σ' H' => D.ct (σ'.set i none) H' } (σ.set i (some (.ref a))) H) : wAs K c i ts Wo D cls d σ H :=
  ⟨true, e, fun _ => h, fun z => nomatch z⟩
/-! #### try: .. except X -/
def sTry1 (K : PySem.W.Frag) (c : Value) (tb : WX → TS) (ts : Addr → Value → Option Addr → TS) (Wo : WX) : TS := fun D σ H => tb (wMany K Wo D [(c, ts)]) D σ H
theorem ps_try1 {X : Cx} (K : PySem.W.Frag) (hK : X.K = K) {x : Str} {c : Value} {body suite : List Stmt} {b₀ : Stmt} {np pos pos' : Pos} {tb : WX → TS} {ts : Addr → Value → Option Addr → TS} {Wo : WX} (hs : X.stack = X.env :: X.outer) (hf : X.env.frame = some X.env.locals) (hc : Names X x c) (tk : L2N.Takes X Wo)
    (hb : ∀ (W : WX) (pn : List (Addr × Obj)) (xe : Value → Shared → Prop), L2N.Takes (X.tr pn xe) W → PassesOwn (model X.prog X.w) X.A X.env xe → PSs (X.tr pn xe) body (tb W))
    (hsu : ∀ (a : Addr) (oe : Obj) (cls : Value) (d : Option Addr) (pn : List (Addr × Obj)), L2N.Zn cls d oe → (∃ vs, oe.data = .fields vs) → PSs (X.suite a ((a, oe) :: pn)) (b₀ :: suite) (ts a cls d)) :
    PS X (.Try body [.ExceptHandler (some (.Name x np)) none (b₀ :: suite) pos'] [] [] pos) (sTry1 K c tb ts Wo) := by
  subst hK
  exact L2N.ps_try_many hs hf tk hb (.cons hc hsu .nil)
theorem rd_try1 {K : PySem.W.Frag} {c : Value} {tb : WX → TS} {ts : Addr → Value → Option Addr → TS} {Wo : WX} {D : Ends} {σ : L2.St} {H : Hp} (h : tb (wMany K Wo D [(c, ts)]) D σ H) : sTry1 K c tb ts Wo D σ H := h
/-! #### isinstance of the exception -/
def rIsX (K : PySem.W.Frag) (cls : Value) (d : Option Addr) (a : Addr) : List V → Hp → VK → Prop := fun xs H Q => ∃ D, cls = .ref D ∧ d = none ∧ ExcC K D ∧ rIsE K D a xs H Q
theorem call_isP {X : Cx} (K : PySem.W.Frag) (hK : X.K = K) {a : Addr} {oe : Obj} {cls : Value} {d : Option Addr} (hp : (a, oe) ∈ X.pn) (hz : Zc cls d oe) (hf : ∃ vs, oe.data = .fields vs) : CallR X (.builtin "isinstance") (rIsX K cls d a) := by
  subst hK
  intro pins s σ H xs us Q I r h
  obtain ⟨D, rfl, rfl, C, c, cv, b, rfl, hcv, e, q⟩ := h
  obtain ⟨u1, u2, rfl, rx, rt⟩ := vals2 r
  cases rx
  obtain rfl := hcv _ rt
  obtain ⟨hget, _⟩ := I.pin (a, oe) (List.mem_append_left _ hp)
  obtain ⟨vs, hv⟩ := hf
  have J : PySem.W.InstAt s.heap a oe D none := by
    obtain ⟨oc, od, oda, osl⟩ := oe
    obtain ⟨h1, h2⟩ := hz
    simp only at h1 h2 hv
    subst h1 h2 hv
    exact ⟨hget, rfl, rfl, trivial⟩
  exact PySem.W.kia_one (PySem.W.handS_kitx_exc C.hg C.hk C.hs C.hd C.ha C.hn C.ht C.hm) I.kIn J e (fun z => nomatch z) fun tk => ⟨.bl b, H, I.kept (t' := tk) fun _ _ z => z, rfl, q⟩
section
variable {K : PySem.W.Frag} {H : Hp} {Q : VK} {D a : Addr}
theorem rd_isX {c : Addr} {b : Bool} (C : ExcC K D) (e : PySem.W.kitOne K (.ref D) (.ref c) = some b) (q : Q (.bl b) H) : rIsX K (.ref D) none a [.ref a, .ref c] H Q := ⟨D, rfl, rfl, C, .ref c, .ref c, b, rfl, fun _ r => r, e, q⟩
theorem rd_isXT {t : String} {b : Bool} (C : ExcC K D) (e : PySem.W.kitOne K (.ref D) (.type t) = some b) (q : Q (.bl b) H) : rIsX K (.ref D) none a [.ref a, .ty t] H Q := ⟨D, rfl, rfl, C, .ty t, .type t, b, rfl, fun _ r => r, e, q⟩
end
/-! #### a def called with the exception in an except clause -/
structure FnE (P : Program) (w : World) (K : PySem.W.Frag) (mg : Str → Option Value) (base : Heap) (k : Nat) (f : Addr) (fd : FuncData) (ps : List Str) (sp : Value → Option Addr → Addr → Sp) : Prop where
  len : ∀ cls d a vs H Q E, sp cls d a vs H Q E → vs.length = ps.length
  run : ∀ (A : Around) (outer : List PySem.Env) (s : Shared) (H : Hp) (args : Args) (us : List Value) (vs : List V) (Q : VK) (E : XK) (p : Addr × Obj) (cls : Value) (d : Option Addr), L2H.RoomH k A → L2H.Hot1 A p → L2H.PinOk outer H s p → Zc cls d p.2 → Env0 P w K mg base A outer s H →
    BindsTo s fd args (ps.zip us) → Vals vs us → sp cls d p.1 vs H Q E → codeAny (model P w) A (.call (.ref f) args) (CR CX0 outer P w H s Q E) s
theorem fn_mkE {P : Program} {w : World} {K : PySem.W.Frag} {mg : Str → Option Value} {base : Heap} {k : Nat} {f : Addr} {name qual : Str} {params : Arguments} {body : List Stmt} {scope : Scope} {dV kV doc pm cdv ct oc : Value} {an od : Option Addr} {osl : Array (Option Value)} {N ps : List Str} {sp : Value → Option Addr → Addr → Sp}
    (lk : K.lookup f = some ⟨oc, od, .func (PySem.W.fnOf name qual params body scope dV kV doc pm an cdv ct), osl⟩) (hcd : PySem.W.codeIn K cdv qual = true) (S : FnScope N ps scope) (len : ∀ cls d a vs H Q E, sp cls d a vs H Q E → vs.length = ps.length)
    (hbody : ∀ (A : Around) (outer : List PySem.Env) (s : Shared) (H : Hp) (vs : List V) (Q : VK) (E : XK) (p : Addr × Obj) (cls : Value) (d : Option Addr), L2H.Hot1 A p → Zc cls d p.2 → L2H.RoomH k (A.deeper (envOfC qual scope s.heap.objs.size f cdv)) → sp cls d p.1 vs H Q E →
      ∃ t, PSs (L2H.cxH CX0 P w K mg base N qual scope f cdv A outer s H E p) body t ∧ t { nx := fun _ H' => Q .non H', rt := Q } (L2.start N vs) H) :
    FnE P w K mg base (k + 1) f (PySem.W.fnOf name qual params body scope dV kV doc pm an cdv ct) ps sp := by
  refine ⟨len, fun A outer s H args us vs Q E p cls d hr hot pok hz e0 hb r h => ?_⟩
  have KX : K.In s.heap := e0.mod.kin.keeps fun b o e => (e0.bs b o e).1
  have nl : s.heap.NoLimit := e0.mod.nolimit.keeps fun b o e => (e0.bs b o e).1
  have kinds : ∀ y ∈ ps.zip us, scope.names.lookup y.1 = some .local ∨ (scope.names.lookup y.1 = some .cell ∧ ((cellsFrom (s.heap.objs.size + 1) scope.names []).lookup y.1).isSome = true) := by
    rintro ⟨n, v⟩ hy
    rcases S.par n (List.of_mem_zip hy).1 with z | z
    · exact .inl z
    · exact .inr ⟨z, PySem.W.cellsFrom_some _ _ _ (.inl z)⟩
  refine codeAny_call_function hr.depth (KX _ _ lk) rfl S.co S.gen rfl (PySem.W.codeRec_of KX hcd) (hb _ _ _ _ (wpAny_newFunctionEnv_cells S.kind kinds fun env he s1 x => ?_))
  subst he
  refine ⟨nl.keeps x.toInCall.keep, codeAny_func ?_⟩
  obtain ⟨t, ht, hq⟩ := hbody A outer s H vs Q E p cls d hot hz (hr.deeper _) h
  have I := L2H.inv_startH (CX := CX0) (E := E) S pok e0 (len _ _ _ _ _ _ _ h) r x
  refine wpAny_mono (ht.run [] s1 (L2.start N vs) H _ I hq) (fun fl s2 hs => ?_) fun _ _ hs => hs
  cases fl with
  | next => obtain ⟨σ2, H2, J, q⟩ := hs; exact ⟨V.non, H2, J.os, J.bare, J.base, J.hok, rfl, q⟩
  | ret u => obtain ⟨v, σ2, H2, J, rv, q⟩ := hs; exact ⟨v, H2, J.os, J.bare, J.base, J.hok, rv, q⟩
  | brk => obtain ⟨_, _, _, q⟩ := hs; exact q.elim
  | cont => obtain ⟨_, _, _, q⟩ := hs; exact q.elim
def GoodE (P : Program) (w : World) (K : PySem.W.Frag) (mg : Str → Option Value) (base : Heap) (k : Nat) (p : Str × Option Str) (ps : List Str) (sp : Value → Option Addr → Addr → Sp) : Prop :=
  ∃ fd, FnE P w K mg base k (He.fAd K p) fd ps sp ∧ Binds K fd ps [] ∧ PySem.W.keepIn K (.ref (He.fAd K p)) = true
theorem good_mkE {P : Program} {w : World} {K : PySem.W.Frag} {mg : Str → Option Value} {base : Heap} {fa : List He.Fa} {fn : List He.DefD} (T : Env fa fn K mg) (i : Nat) {d : He.DefD} {k : Nat} {N ps : List Str} {sp : Value → Option Addr → Addr → Sp} {x qual : Str} {st : Stmt} {at_ : Str × Option Str} (hi : fn[i]? = some d)
    (hd : d = ⟨at_, x, qual, defArgs st, defBody st, defScope st, [], []⟩) (S : FnScope N ps (defScope st))
    (hb : ∀ (kV doc pm : Value) (an : Option Addr) (cdv ct : Value) (us : List Value), us.length = ps.length → bindArgs (PySem.W.fnOf x qual (defArgs st) (defBody st) (defScope st) .none kV doc pm an cdv ct) ⟨us, []⟩ = pure (ps.zip us))
    (len : ∀ cls d a vs H Q E, sp cls d a vs H Q E → vs.length = ps.length)
    (hbody : ∀ (f : Addr) (cdv : Value) (A : Around) (outer : List PySem.Env) (s : Shared) (H : Hp) (vs : List V) (Q : VK) (E : XK) (p : Addr × Obj) (cls : Value) (d : Option Addr), Zc cls d p.2 → (∃ vs, p.2.data = .fields vs) → L2H.RoomH k (A.deeper (envOfC qual (defScope st) s.heap.objs.size f cdv)) → sp cls d p.1 vs H Q E →
      ∃ t, PSs (L2H.cxH CX0 P w K mg base N qual (defScope st) f cdv A outer s H E p) (defBody st) t ∧ t { nx := fun _ H' => Q .non H', rt := Q } (start N vs) H) : GoodE P w K mg base (k + 1) at_ ps sp := by
  subst hd
  obtain ⟨fd, F⟩ := T.c.def_ i hi
  refine ⟨fd, ?_, FunD.bindsN F hb, F.kp⟩
  obtain ⟨oc, od, dV, kV, doc, pm, an, cdv, ct, osl, rfl, lk, hcd, _, _⟩ := F.ex
  exact fn_mkE lk hcd S len fun A outer s H vs Q E p cls d hot hz hr h => hbody _ cdv A outer s H vs Q E p cls d hz (let ⟨v, e, _⟩ := hot.2; ⟨v, e⟩) hr h
section
variable {X : Cx} {k : Nat} {x : Str} {ps : List Str} {sp : Value → Option Addr → Addr → Sp} {q pos : Pos} {e : Expr} {es : List Expr} {t : TA} {cls : Value} {d : Option Addr} {a : Addr} {oe : Obj}
def tCallE (sp : Sp) (t : TA) : TE := fun σ H Q => t σ H fun vs H1 => sp vs H1 Q E0
theorem pe_callE (K : PySem.W.Frag) (hK : X.K = K) (G : GoodE X.prog X.w K X.mg X.base k (x, none) ps sp) (hr : L2H.RoomH k X.A) (hot : L2H.Hot1 X.A (a, oe)) (hp : (a, oe) ∈ X.pn) (hz : Zc cls d oe) (hm : X.mg x = some (.ref (He.ga K x))) (ha : PA X (e :: es) t) (hg : Gl X x := by rfl)
    (hdb : (x == ("__debug__" : Str)) = false := by decide) (he : starEach (e :: es) X.env = (false, eval e X.env) :: starEach es X.env := by rfl) (hpl : (backTo pos (starEach es X.env)).any (·.1) = false := by rfl) :
    PE X (.Call (.Name x q) (e :: es) [] pos) (tCallE (sp cls d a) t) := by
  subst hK
  obtain ⟨fd, F, hb, hk⟩ := G
  refine ⟨fun pins s σ H Q I h => wpAny_Call_Name_kw (ld_glob I hg hm ?_ hdb)⟩
  refine PySem.W.callWith_K (h₀ := X.base) I.ok.mod.kin hk (thn (ha.run pos pins s σ H _ I h) fun us s1 ⟨vs, H1, I1, r, h1⟩ => ⟨I1.kIn, ?_⟩) he hpl
  have hl : us.length = ps.length := by rw [← r.length]; exact F.len _ _ _ _ _ _ _ h1
  have b := hb s1 us I1.kIn (by rw [List.append_nil]; exact hl)
  rw [List.append_nil] at b
  have p1 := I1.pin (a, oe) (List.mem_append_left _ hp)
  have pok : L2H.PinOk X.stack H1 s1 (a, oe) := ⟨p1.1, p1.2.1, fun hm => (List.mem_cons.mp (I1.stkSub a hm)).elim p1.2.2.1 p1.2.2.2.1, p1.2.2.2.2⟩
  refine wpAny_call (codeAny_mono (F.run X.A X.stack s1 H1 ⟨us, []⟩ us vs Q E0 (a, oe) cls d hr hot pok hz I1.env0 b r h1) fun z s2 hq => ?_)
  cases z with
  | error e => exact hq.elim
  | ok fl =>
    cases fl with
    | ret u => exact I1.after hq
    | next => exact hq.elim
    | brk => exact hq.elim
    | cont => exact hq.elim
theorem rd_callE {sp : Sp} {σ : L2.St} {H : Hp} {Q : VK} (h : t σ H fun vs H1 => sp vs H1 Q E0) : tCallE sp t σ H Q := h
end
theorem roomH_suite {X : Cx} {k j : Nat} {a : Addr} {pn : List (Addr × Obj)} (hr : Room k X.A) (h : j ≤ k) : L2H.RoomH j (X.suite a pn).A := ⟨(hr.mono h).dp, (hr.mono h).un⟩
theorem hot_of {A : Around} {a : Addr} {oe : Obj} {cls : Value} {d : Option Addr} (h : A.handled = some (.ref a)) (hz : L2N.Zn cls d oe) (hf : ∃ vs, oe.data = .fields vs) : L2H.Hot1 A (a, oe) := ⟨h, let ⟨vs, e⟩ := hf; ⟨vs, e, hz.2.2 vs e⟩⟩
end JF

/-! ### methods that may raise -/
namespace JF
open PySem PySem.Spec PyProof.Rows L2
section
variable {X : Cx} {k : Nat} {x m : Str} {ps : List Str} {sp : Sp} {p pos apos : Pos} {e o : Expr} {es : List Expr} {ta : TE} {t : TA} {W : WX} {K : PySem.W.Frag}
def tMethX (C : Addr) (m : Str) (sp : Sp) (E : L2.St → XK) (ta : TE) (t : TA) : TE := fun σ H Q => ta σ H fun x H1 => ∃ a dx fs, x = .ref a ∧ H1 a = some (.ins C dx fs) ∧ fs.lookup m = none ∧ t σ H1 fun vs H2 => sp (x :: vs) H2 Q (E σ)
theorem pe_mgX (K : PySem.W.Frag) (hK : X.K = K) {cn : Str} {pl : Sem Bool} (tk : L2N.Takes X W) (he : PE X o ta) (c : Cls K (He.ga K cn)) (hm : Meth K (He.ga K cn) m (He.ma K (He.ga K cn) m)) (G : Good X.prog X.w K X.mg X.base (L2N.CX X.prog X.w) k (cn, some m) ps sp) (hr : Room k X.A) (ha : PA X (e :: es) t)
    (hst : starEach (e :: es) X.env = (false, eval e X.env) :: starEach es X.env := by rfl) (hpl : (backTo pos (starEach es X.env)).any (·.1) = false := by rfl)
    (ht : eval (.Call (.Attribute o m apos) (e :: es) [] pos) X.env = (do
      let ov ← eval o X.env
      standAt apos.atName
      let (f, first) ← holding [ov] (getMethod ov m pl)
      callWith pos f first (backTo pos (starEach (e :: es) X.env)) (backToKw pos (keywordEach [] X.env))) := by rfl) :
    PE X (.Call (.Attribute o m apos) (e :: es) [] pos) (tMethX (He.ga K cn) m sp (fun σ cls d H' => W cls d σ H') ta t) := by
  subst hK
  obtain ⟨fd, F, b, kp, lk⟩ := G
  refine ⟨fun pins s σ H Q I h => ?_⟩
  refine PySem.W.methodCall_KW (pl := pl) (thn (he.run pins s σ H _ I h) fun u s1 ⟨x, H1, I1, rx, a, dx, fs, ex, ea, l, q⟩ => ?_) ht
  subst ex
  have eu : u = Value.ref a := rx
  subst eu
  refine (getmeth_ok I1 ea c hm l ?_)
  refine (PySem.W.callWith_K (first := [.ref a]) (h₀ := X.base) I.ok.mod.kin hm.kp (thn (ha.run pos pins s1 σ H1 _ I1 q) fun us s2 ⟨vs, H2, I2, r, q2⟩ => ⟨I2.kIn, ?_⟩) hst hpl)
  exact run_fnS (us := .ref a :: us) (vs := .ref a :: vs) F hr b (L2N.passAt tk σ) I2 (.cons rfl r) q2
theorem rd_methX {C : Addr} {E : L2.St → XK} {σ : L2.St} {H : Hp} {Q : VK} (h : ta σ H fun x H1 => ∃ a dx fs, x = .ref a ∧ H1 a = some (.ins C dx fs) ∧ fs.lookup m = none ∧ t σ H1 fun vs H2 => sp (x :: vs) H2 Q (E σ)) : tMethX C m sp E ta t σ H Q := h
end
end JF

/-! ### fields: the mathematics of cells in squares, no program in sight -/
namespace JF
open PySem PySem.Spec PyProof.Rows L2
namespace Sq
def get : Sq → Int → Int → Int
  | leaf s, _, _ => s
  | node a b c d, x, y => if y < 2 ^ a.level then (if x < 2 ^ a.level then a.get x y else b.get (x - 2 ^ a.level) y) else (if x < 2 ^ a.level then c.get x (y - 2 ^ a.level) else d.get (x - 2 ^ a.level) (y - 2 ^ a.level))
def put : Sq → Int → Int → Int → Sq
  | leaf _, _, _, s => leaf s
  | node a b c d, x, y, s => if y < 2 ^ a.level then (if x < 2 ^ a.level then node (a.put x y s) b c d else node a (b.put (x - 2 ^ a.level) y s) c d)
      else (if x < 2 ^ a.level then node a b (c.put x (y - 2 ^ a.level) s) d else node a b c (d.put (x - 2 ^ a.level) (y - 2 ^ a.level) s))
theorem level_put (s : Int) : ∀ (S : Sq) (x y : Int), (S.put x y s).level = S.level
  | leaf _, _, _ => rfl
  | node a b c d, x, y => by
    unfold put
    split <;> split
    · exact congrArg (· + 1) (level_put s a x y)
    · rfl
    · rfl
    · rfl
theorem wf_put {s : Int} (h0 : 0 ≤ s) (h7 : s ≤ 7) : ∀ {S : Sq} (x y : Int), S.wf → (S.put x y s).wf
  | leaf _, _, _, _ => ⟨h0, h7⟩
  | node a b c d, x, y, ⟨wa, wb, wc, wd, e1, e2, e3⟩ => by
    unfold put
    split <;> split
    · exact ⟨wf_put h0 h7 _ _ wa, wb, wc, wd, by rw [level_put]; exact e1, by rw [level_put]; exact e2, by rw [level_put]; exact e3⟩
    · exact ⟨wa, wf_put h0 h7 _ _ wb, wc, wd, by rw [level_put]; exact e1, e2, e3⟩
    · exact ⟨wa, wb, wf_put h0 h7 _ _ wc, wd, e1, by rw [level_put]; exact e2, e3⟩
    · exact ⟨wa, wb, wc, wf_put h0 h7 _ _ wd, e1, e2, by rw [level_put]; exact e3⟩
theorem two_succ (n : Nat) : (2 : Int) ^ (n + 1) = 2 * 2 ^ n := by rw [Int.pow_succ]; omega
theorem two_pos (n : Nat) : (0 : Int) < 2 ^ n := Int.pow_pos (by decide)
theorem get_put {s : Int} : ∀ {S : Sq} {x y u v : Int}, S.wf → 0 ≤ x → x < 2 ^ S.level → 0 ≤ y → y < 2 ^ S.level → 0 ≤ u → u < 2 ^ S.level → 0 ≤ v → v < 2 ^ S.level → (S.put x y s).get u v = if u = x ∧ v = y then s else S.get u v
  | leaf r, x, y, u, v, _, h1, h2, h3, h4, h5, h6, h7, h8 => by
    have e : (2 : Int) ^ (leaf r).level = 1 := rfl
    rw [e] at h2 h4 h6 h8
    rw [if_pos (by omega)]; rfl
  | node a b c d, x, y, u, v, ⟨wa, wb, wc, wd, e1, e2, e3⟩, h1, h2, h3, h4, h5, h6, h7, h8 => by
    have e : (2 : Int) ^ (node a b c d).level = 2 * 2 ^ a.level := two_succ _
    rw [e] at h2 h4 h6 h8
    have ia := fun x y u v => @get_put s a x y u v wa
    have ib := fun x y u v => @get_put s b x y u v wb
    have ic := fun x y u v => @get_put s c x y u v wc
    have id_ := fun x y u v => @get_put s d x y u v wd
    rw [e1] at ib; rw [e2] at ic; rw [e3] at id_
    have la := level_put s a x y
    unfold put
    generalize hh : (2 : Int) ^ a.level = h at *
    by_cases cy : y < h <;> by_cases cx : x < h
    · rw [if_pos cy, if_pos cx]
      unfold get
      rw [la, hh]
      by_cases cv : v < h <;> by_cases cu : u < h
      · simp only [cv, cu, if_true, if_false]; rw [ia x y u v h1 cx h3 cy h5 cu h7 cv]
      · simp only [cv, cu, if_true, if_false]; rw [if_neg (by omega)]
      · simp only [cv, cu, if_true, if_false]; rw [if_neg (by omega)]
      · simp only [cv, cu, if_true, if_false]; rw [if_neg (by omega)]
    · rw [if_pos cy, if_neg cx]
      unfold get
      rw [hh]
      by_cases cv : v < h <;> by_cases cu : u < h
      · simp only [cv, cu, if_true, if_false]; rw [if_neg (by omega)]
      · simp only [cv, cu, if_true, if_false]; rw [ib (x - h) y (u - h) v (by omega) (by omega) h3 cy (by omega) (by omega) h7 cv]
        by_cases z : u = x ∧ v = y
        · rw [if_pos z, if_pos (by omega)]
        · rw [if_neg z, if_neg (by omega)]
      · simp only [cv, cu, if_true, if_false]; rw [if_neg (by omega)]
      · simp only [cv, cu, if_true, if_false]; rw [if_neg (by omega)]
    · rw [if_neg cy, if_pos cx]
      unfold get
      rw [hh]
      by_cases cv : v < h <;> by_cases cu : u < h
      · simp only [cv, cu, if_true, if_false]; rw [if_neg (by omega)]
      · simp only [cv, cu, if_true, if_false]; rw [if_neg (by omega)]
      · simp only [cv, cu, if_true, if_false]; rw [ic x (y - h) u (v - h) h1 cx (by omega) (by omega) h5 cu (by omega) (by omega)]
        by_cases z : u = x ∧ v = y
        · rw [if_pos z, if_pos (by omega)]
        · rw [if_neg z, if_neg (by omega)]
      · simp only [cv, cu, if_true, if_false]; rw [if_neg (by omega)]
    · rw [if_neg cy, if_neg cx]
      unfold get
      rw [hh]
      by_cases cv : v < h <;> by_cases cu : u < h
      · simp only [cv, cu, if_true, if_false]; rw [if_neg (by omega)]
      · simp only [cv, cu, if_true, if_false]; rw [if_neg (by omega)]
      · simp only [cv, cu, if_true, if_false]; rw [if_neg (by omega)]
      · simp only [cv, cu, if_true, if_false]; rw [id_ (x - h) (y - h) (u - h) (v - h) (by omega) (by omega) (by omega) (by omega) (by omega) (by omega) (by omega) (by omega)]
        by_cases z : u = x ∧ v = y
        · rw [if_pos z, if_pos (by omega)]
        · rw [if_neg z, if_neg (by omega)]
/-- the cell at a place, the square set about the middle -/
def half (S : Sq) : Int := 2 ^ (S.level - 1)
def val (S : Sq) (x y : Int) : Int := if -S.half ≤ x ∧ x < S.half ∧ -S.half ≤ y ∧ y < S.half then S.get (x + S.half) (y + S.half) else 0
theorem get_even (s : Int) : ∀ (l : Nat) (x y : Int), (even l s).get x y = s
  | 0, _, _ => rfl
  | l + 1, x, y => by
    unfold even get
    split <;> split <;> exact get_even s l _ _
theorem val_even0 (l : Nat) (x y : Int) : (even l 0).val x y = 0 := by
  unfold val
  split
  · exact get_even 0 l _ _
  · rfl
def wide : Sq → Sq
  | leaf s => leaf s
  | node a b c d => node (node (even a.level 0) (even a.level 0) (even a.level 0) a) (node (even a.level 0) (even a.level 0) b (even a.level 0)) (node (even a.level 0) c (even a.level 0) (even a.level 0)) (node d (even a.level 0) (even a.level 0) (even a.level 0))
theorem node_of {S : Sq} (h : 1 ≤ S.level) : ∃ a b c d, S = node a b c d := by
  cases S with
  | leaf s => simp [level] at h
  | node a b c d => exact ⟨a, b, c, d, rfl⟩
theorem level_wide {S : Sq} (h : 1 ≤ S.level) : S.wide.level = S.level + 1 := by
  obtain ⟨a, b, c, d, rfl⟩ := node_of h
  show (even a.level 0).level + 1 + 1 = a.level + 1 + 1
  rw [level_even]
theorem wf_wide {S : Sq} (w : S.wf) : S.wide.wf := by
  cases S with
  | leaf s => exact w
  | node a b c d =>
    obtain ⟨wa, wb, wc, wd, e1, e2, e3⟩ := w
    have we : (even a.level 0).wf := wf_even (by decide) (by decide) _
    have le : (even a.level 0).level = a.level := level_even _ _
    exact ⟨⟨we, we, we, wa, rfl, rfl, le.symm⟩, ⟨we, we, wb, we, rfl, by rw [e1, le], rfl⟩, ⟨we, wc, we, we, by rw [e2, le], rfl, rfl⟩, ⟨wd, we, we, we, by rw [e3, le], by rw [e3, le], by rw [e3, le]⟩, rfl, rfl, by show d.level + 1 = (even a.level 0).level + 1; rw [e3, le]⟩
theorem half_node (a b c d : Sq) : (node a b c d).half = 2 ^ a.level := rfl
set_option maxHeartbeats 4000000 in
theorem val_wide {S : Sq} (w : S.wf) (h : 1 ≤ S.level) (x y : Int) : S.wide.val x y = S.val x y := by
  obtain ⟨a, b, c, d, rfl⟩ := node_of h
  obtain ⟨wa, wb, wc, wd, e1, e2, e3⟩ := w
  have le : (even a.level 0).level = a.level := level_even _ _
  have hw : (wide (node a b c d)).half = 2 * 2 ^ a.level := by
    show (2 : Int) ^ ((even a.level 0).level + 1) = _
    rw [le]; exact two_succ _
  unfold val
  rw [hw, half_node]
  have n1 : (node (even a.level 0) (even a.level 0) (even a.level 0) a).level = a.level + 1 := by show (even a.level 0).level + 1 = _; rw [le]
  have h0 := two_pos a.level
  have e2' := two_succ a.level
  unfold wide
  simp only [get, n1, le, e3, get_even, e2']
  generalize (2 : Int) ^ a.level = h at *
  repeat' split
  all_goals first | rfl | omega | (congr 1 <;> omega)
/-! the middle, what is trimmed -/
def mid : Sq → Sq
  | node (node _ _ _ a) (node _ _ b _) (node _ c _ _) (node d _ _ _) => node a b c d
  | S => S
theorem mid_form {S : Sq} (w : S.wf) (h : 2 ≤ S.level) : ∃ a1 a2 a3 a4 b1 b2 b3 b4 c1 c2 c3 c4 d1 d2 d3 d4, S = node (node a1 a2 a3 a4) (node b1 b2 b3 b4) (node c1 c2 c3 c4) (node d1 d2 d3 d4) := by
  obtain ⟨a, b, c, d, rfl⟩ := node_of (by omega : 1 ≤ S.level)
  obtain ⟨wa, wb, wc, wd, e1, e2, e3⟩ := w
  have h' : 1 ≤ a.level := by have z : (node a b c d).level = a.level + 1 := rfl; omega
  obtain ⟨a1, a2, a3, a4, rfl⟩ := node_of h'
  obtain ⟨b1, b2, b3, b4, rfl⟩ := node_of (by omega : 1 ≤ b.level)
  obtain ⟨c1, c2, c3, c4, rfl⟩ := node_of (by omega : 1 ≤ c.level)
  obtain ⟨d1, d2, d3, d4, rfl⟩ := node_of (by omega : 1 ≤ d.level)
  exact ⟨_, _, _, _, _, _, _, _, _, _, _, _, _, _, _, _, rfl⟩
theorem wf_mid {S : Sq} (w : S.wf) (h : 2 ≤ S.level) : S.mid.wf ∧ S.mid.level + 1 = S.level := by
  obtain ⟨a1, a2, a3, a4, b1, b2, b3, b4, c1, c2, c3, c4, d1, d2, d3, d4, rfl⟩ := mid_form w h
  obtain ⟨wa, wb, wc, wd, e1, e2, e3⟩ := w
  simp only [wf] at wa wb wc wd
  simp only [level] at e1 e2 e3
  refine ⟨⟨wa.2.2.2.1, wb.2.2.1, wc.2.1, wd.1, ?_, ?_, ?_⟩, ?_⟩
  · omega
  · omega
  · omega
  · show a4.level + 1 + 1 = a1.level + 1 + 1
    omega
theorem lives_zero : ∀ {S : Sq}, S.wf → S.lives = 0 → ∀ x y, S.get x y = 0
  | leaf s, _, h, _, _ => by
    unfold lives at h
    split at h
    · assumption
    · cases h
  | node a b c d, ⟨wa, wb, wc, wd, _, _, _⟩, h, x, y => by
    have n1 := a.lives_nonneg; have n2 := b.lives_nonneg; have n3 := c.lives_nonneg; have n4 := d.lives_nonneg
    unfold lives at h
    unfold get
    split <;> split
    · exact lives_zero wa (by omega) _ _
    · exact lives_zero wb (by omega) _ _
    · exact lives_zero wc (by omega) _ _
    · exact lives_zero wd (by omega) _ _
set_option maxHeartbeats 8000000 in
theorem val_mid {S : Sq} (w : S.wf) (h : 2 ≤ S.level) (hl : ¬ S.mid.lives < S.lives) (x y : Int) : S.mid.val x y = S.val x y := by
  obtain ⟨a1, a2, a3, a4, b1, b2, b3, b4, c1, c2, c3, c4, d1, d2, d3, d4, rfl⟩ := mid_form w h
  obtain ⟨wa, wb, wc, wd, e1, e2, e3⟩ := w
  simp only [wf] at wa wb wc wd
  simp only [level] at e1 e2 e3
  simp only [mid, lives] at hl
  have na1 := a1.lives_nonneg; have na2 := a2.lives_nonneg; have na3 := a3.lives_nonneg
  have nb1 := b1.lives_nonneg; have nb2 := b2.lives_nonneg; have nb4 := b4.lives_nonneg
  have nc1 := c1.lives_nonneg; have nc3 := c3.lives_nonneg; have nc4 := c4.lives_nonneg
  have nd2 := d2.lives_nonneg; have nd3 := d3.lives_nonneg; have nd4 := d4.lives_nonneg
  have za1 := lives_zero wa.1 (by omega); have za2 := lives_zero wa.2.1 (by omega); have za3 := lives_zero wa.2.2.1 (by omega)
  have zb1 := lives_zero wb.1 (by omega); have zb2 := lives_zero wb.2.1 (by omega); have zb4 := lives_zero wb.2.2.2.1 (by omega)
  have zc1 := lives_zero wc.1 (by omega); have zc3 := lives_zero wc.2.2.1 (by omega); have zc4 := lives_zero wc.2.2.2.1 (by omega)
  have zd2 := lives_zero wd.2.1 (by omega); have zd3 := lives_zero wd.2.2.1 (by omega); have zd4 := lives_zero wd.2.2.2.1 (by omega)
  have l4 : a4.level = a1.level := by omega
  have lb : b1.level = a1.level := by omega
  have lc : c1.level = a1.level := by omega
  have ld : d1.level = a1.level := by omega
  have h0 := two_pos a1.level
  have e2' := two_succ a1.level
  unfold val
  simp only [mid, half_node, level, get, za1, za2, za3, zb1, zb2, zb4, zc1, zc3, zc4, zd2, zd3, zd4, l4, lb, lc, ld, e2']
  generalize (2 : Int) ^ a1.level = h at *
  repeat' split
  all_goals first | rfl | omega | (congr 1 <;> omega)
def trimN : Nat → Sq → Sq
  | 0, S => S
  | n + 1, S => if S.level ≤ 1 then S else if S.mid.lives < S.lives then S else trimN n S.mid
def trim (S : Sq) : Sq := trimN S.level S
/-- nothing more is to be trimmed -/
def Least (S : Sq) : Prop := S.level = 1 ∨ 2 ≤ S.level ∧ S.mid.lives < S.lives
theorem trimN_ok : ∀ (n : Nat) {S : Sq}, S.wf → 1 ≤ S.level → S.level ≤ n → (trimN n S).wf ∧ 1 ≤ (trimN n S).level ∧ (trimN n S).level ≤ S.level ∧ (trimN n S).Least ∧ ∀ x y, (trimN n S).val x y = S.val x y
  | 0, S, _, h1, h2 => by omega
  | n + 1, S, w, h1, h2 => by
    unfold trimN
    by_cases z : S.level ≤ 1
    · rw [if_pos z]
      exact ⟨w, h1, Nat.le_refl _, .inl (by omega), fun _ _ => rfl⟩
    · rw [if_neg z]
      by_cases y : S.mid.lives < S.lives
      · rw [if_pos y]
        exact ⟨w, h1, Nat.le_refl _, .inr ⟨by omega, y⟩, fun _ _ => rfl⟩
      · rw [if_neg y]
        obtain ⟨wm, lm⟩ := wf_mid w (by omega)
        obtain ⟨g1, g2, g3, g4, g5⟩ := trimN_ok n wm (by omega) (by omega)
        exact ⟨g1, g2, by omega, g4, fun u v => (g5 u v).trans (val_mid w (by omega) y u v)⟩
/-- enough turns are enough -/
theorem trimN_more : ∀ (n m : Nat) {S : Sq}, S.wf → 1 ≤ S.level → S.level ≤ n → S.level ≤ m → trimN n S = trimN m S
  | 0, m, S, _, h1, h2, _ => by omega
  | n + 1, 0, S, _, h1, _, h2 => by omega
  | n + 1, m + 1, S, w, h1, h2, h3 => by
    unfold trimN
    split
    · rfl
    · split
      · rfl
      · rename_i z _
        obtain ⟨wm, lm⟩ := wf_mid w (by omega)
        exact trimN_more n m wm (by omega) (by omega) (by omega)
theorem trim_mid {S : Sq} (w : S.wf) (h : 2 ≤ S.level) (y : ¬ S.mid.lives < S.lives) : S.trim = S.mid.trim := by
  obtain ⟨wm, lm⟩ := wf_mid w h
  unfold trim
  have e : S.level = S.mid.level + 1 := lm.symm
  rw [e]
  show (if S.level ≤ 1 then S else if S.mid.lives < S.lives then S else trimN S.mid.level S.mid) = _
  rw [if_neg (by omega), if_neg y]
theorem trim_self {S : Sq} (h : S.Least) : S.trim = S := by
  unfold trim
  cases e : S.level with
  | zero => rfl
  | succ n =>
    show (if S.level ≤ 1 then S else if S.mid.lives < S.lives then S else trimN n S.mid) = _
    rcases h with h | ⟨h, y⟩
    · rw [if_pos (by omega)]
    · rw [if_neg (by omega), if_pos y]
end Sq
end JF

/-! ### fields: the program's defs -/
namespace JF
open PySem PySem.Spec PyProof.Rows L2
theorem while_m {c : TT} {t : TS} {D : Ends} {σ : L2.St} {H : Hp} (W : Nat → L2.St → Hp → Prop) (m0 : Nat) (h0 : W m0 σ H)
    (hs : ∀ m σ H, W m σ H → c σ H fun k H1 => if k = true then ∃ N : L2.St → Hp → Prop, (∀ σ' H', N σ' H' → ∃ m', m' < m ∧ W m' σ' H') ∧ t { D with nx := N, ct := N, bk := D.nx } σ H1 else D.nx σ H1) : tWhile c t D σ H := ⟨W, ⟨m0, h0⟩, hs⟩
theorem div_lo {y h : Int} (h0 : 0 ≤ y) (h1 : y < h) : y / h = 0 ∧ y % h = y := (Int.ediv_emod_unique (by omega)).mpr ⟨by omega, h0, h1⟩
theorem div_hi {y h : Int} (h0 : h ≤ y) (h1 : y < 2 * h) : y / h = 1 ∧ y % h = y - h := (Int.ediv_emod_unique (by omega)).mpr ⟨by omega, by omega, by omega⟩
theorem small_mul {a b : Int} (h1 : -1000000 < a) (h2 : a < 1000000) (h3 : -(2 ^ 100) < b) (h4 : b < 2 ^ 100) : CMulW a b := by
  have e1 : (2 : Int) ^ 100 ≤ 2 ^ 2000 := by decide +kernel
  have e2 : (1000000 : Int) ≤ 2 ^ 2000 := by decide +kernel
  exact mulW_of (by omega) (by omega) (by omega) (by omega)
theorem pow64' {i : Nat} (h : i ≤ 60) : (0 : Int) < 2 ^ i ∧ (2 : Int) ^ i < 2 ^ 64 := by
  refine ⟨Int.pow_pos (by decide), ?_⟩
  have e2 : 2 ^ i < 2 ^ 64 := Nat.pow_lt_pow_right (by decide) (by omega)
  exact_mod_cast e2
theorem shl_ok' {i : Nat} : (1 : Int) * 2 ^ ((i : Int)).toNat = 2 ^ i := by rw [Int.one_mul, Int.toNat_natCast]
section
variable {P : Program} {w : World} {K : PySem.W.Frag} {mg : Str → Option Value} {base : Heap}
def InGround (x y : Int) : Prop := -1099511627776 ≤ x ∧ x < 1099511627776 ∧ -1099511627776 ≤ y ∧ y < 1099511627776
def sp_in_ground : Sp := fun vs H Q _ => ∃ x y : Int, vs = [.int x, .int y] ∧ InGround x y ∧ Q (.bl true) H
/-- one corner of each of four -/
def sp_meeting (C : Addr) : Sp := fun vs H Q _ => ∃ (a : GA) (rows : List (Int × Addr)) (q : List Sq) (na nb nc nd : Nat) (a1 a2 a3 a4 b1 b2 b3 b4 c1 c2 c3 c4 d1 d2 d3 d4 : Sq), vs = [.ref a.g, .int (na : Int), .int (nb : Int), .int (nc : Int), .int (nd : Int)] ∧ GAt C H a rows q ∧
  q[na]? = some (.node a1 a2 a3 a4) ∧ q[nb]? = some (.node b1 b2 b3 b4) ∧ q[nc]? = some (.node c1 c2 c3 c4) ∧ q[nd]? = some (.node d1 d2 d3 d4) ∧ (Sq.node a4 b3 c2 d1).wf ∧ a4.level ≤ 60 ∧ q.length < 16000000 ∧
  ∀ H' q' (n : Nat), GAt C H' a rows q' → q <+: q' → q'.length ≤ q.length + 1 → q'[n]? = some (.node a4 b3 c2 d1) → Fr a.m5 H H' → Q (.int (n : Int)) H'
theorem mp_meeting {C : Addr} : MonP (sp_meeting C) := fun vs H Q Q' E h ⟨a, rows, q, na, nb, nc, nd, a1, a2, a3, a4, b1, b2, b3, b4, c1, c2, c3, c4, d1, d2, d3, d4, x1, x2, x3, x4, x5, x6, x7, x8, x9, k⟩ =>
  ⟨a, rows, q, na, nb, nc, nd, a1, a2, a3, a4, b1, b2, b3, b4, c1, c2, c3, c4, d1, d2, d3, d4, x1, x2, x3, x4, x5, x6, x7, x8, x9, fun H' q' n g p l e f => h _ _ (k H' q' n g p l e f)⟩
theorem ok_meeting (T : Env fa fn K mg) : Good P w K mg base CX0 4 ("meeting", none) ["grove", "a", "b", "c", "d"] (sp_meeting (CG K)) := by
  have G_Grove_quarters := ok_quarters (P := P) (w := w) (base := base) T
  have G_Grove_knit := ok_knit (P := P) (w := w) (base := base) T
  refine good_mk T 19 (d := d_meeting) (N := ["grove", "a", "b", "c", "d", "one", "two", "three", "four"]) (ps := ["grove", "a", "b", "c", "d"]) rfl rfl sc_meeting (fun _ _ _ _ _ _ us hl => match us, hl with | [_, _, _, _, _], _ => rfl) (fun vs H Q E h => ?_) (fun f cdv A outer σ0 H vs Q E hr h => ?_)
  · obtain ⟨a, rows, q, na, nb, nc, nd, a1, a2, a3, a4, b1, b2, b3, b4, c1, c2, c3, c4, d1, d2, d3, d4, rfl, _⟩ := h; rfl
  · obtain ⟨a, rows, q, na, nb, nc, nd, a1, a2, a3, a4, b1, b2, b3, b4, c1, c2, c3, c4, d1, d2, d3, d4, rfl, G, ha, hb, hc, hd, hw, hlv, hlen, k⟩ := h
    refine ⟨_, (pss_cons (ps_set (i := 5) sc_meeting.nd rfl (Or.inl rfl) (pe_ix (ix_tupK K rfl) (pe_mgK K rfl (pv 0) (T.cls 9) (T.meth 21) G_Grove_quarters (hr.mono (by decide)) (pa_cons (pv 1) pa_nil)) pe_int (fun _ _ => rfl)))
      (pss_cons (ps_set (i := 6) sc_meeting.nd rfl (Or.inl rfl) (pe_ix (ix_tupK K rfl) (pe_mgK K rfl (pv 0) (T.cls 9) (T.meth 21) G_Grove_quarters (hr.mono (by decide)) (pa_cons (pv 2) pa_nil)) pe_int (fun _ _ => rfl)))
      (pss_cons (ps_set (i := 7) sc_meeting.nd rfl (Or.inl rfl) (pe_ix (ix_tupK K rfl) (pe_mgK K rfl (pv 0) (T.cls 9) (T.meth 21) G_Grove_quarters (hr.mono (by decide)) (pa_cons (pv 3) pa_nil)) pe_int (fun _ _ => rfl)))
      (pss_cons (ps_set (i := 8) sc_meeting.nd rfl (Or.inl rfl) (pe_ix (ix_tupK K rfl) (pe_mgK K rfl (pv 0) (T.cls 9) (T.meth 21) G_Grove_quarters (hr.mono (by decide)) (pa_cons (pv 4) pa_nil)) pe_int (fun _ _ => rfl)))
      (pss_one (ps_ret (pe_mgK K rfl (pv 0) (T.cls 9) (T.meth 13) G_Grove_knit (hr.mono (by decide)) (pa_cons (pv 5) (pa_cons (pv 6) (pa_cons (pv 7) (pa_cons (pv 8) pa_nil))))))))))), ?_⟩
    walk_at "rd"
    refine rd_methR G.ob (by rfl) ?_
    walk_at "rd"
    refine ⟨a, rows, q, na, _, _, _, _, rfl, G, ha, by omega, fun t x1 x2 x3 x4 ht _ _ _ hx => ?_⟩
    walk_at "rd"
    refine rd_methR G.ob (by rfl) ?_
    walk_at "rd"
    refine ⟨a, rows, q, nb, _, _, _, _, rfl, G, hb, by omega, fun t2 y1 y2 y3 y4 ht2 _ _ hy _ => ?_⟩
    walk_at "rd"
    refine rd_methR G.ob (by rfl) ?_
    walk_at "rd"
    refine ⟨a, rows, q, nc, _, _, _, _, rfl, G, hc, by omega, fun t3 z1 z2 z3 z4 ht3 _ hz _ _ => ?_⟩
    walk_at "rd"
    refine rd_methR G.ob (by rfl) ?_
    walk_at "rd"
    refine ⟨a, rows, q, nd, _, _, _, _, rfl, G, hd, by omega, fun t4 u1 u2 u3 u4 ht4 hu _ _ _ => ?_⟩
    walk_at "rd"
    refine rd_methR G.ob (by rfl) ?_
    walk_at "rd"
    exact ⟨a, rows, q, _, _, _, _, x4, y3, z2, u1, rfl, G, hx, hy, hz, hu, hw, hlv, hlen, k⟩
def sp_middle_of (C : Addr) : Sp := fun vs H Q _ => ∃ (a : GA) (rows : List (Int × Addr)) (q : List Sq) (n : Nat) (S : Sq), vs = [.ref a.g, .int (n : Int)] ∧ GAt C H a rows q ∧ q[n]? = some S ∧ 2 ≤ S.level ∧ S.level ≤ 60 ∧ q.length < 16000000 ∧
  ∀ H' q' (m : Nat), GAt C H' a rows q' → q <+: q' → q'.length ≤ q.length + 1 → q'[m]? = some S.mid → Fr a.m5 H H' → Q (.int (m : Int)) H'
theorem mp_middle_of {C : Addr} : MonP (sp_middle_of C) := fun vs H Q Q' E h ⟨a, rows, q, n, S, x1, x2, x3, x4, x5, x6, k⟩ => ⟨a, rows, q, n, S, x1, x2, x3, x4, x5, x6, fun H' q' m g p l e f => h _ _ (k H' q' m g p l e f)⟩
def sp_widened (C : Addr) : Sp := fun vs H Q _ => ∃ (a : GA) (rows : List (Int × Addr)) (q : List Sq) (n : Nat) (S : Sq), vs = [.ref a.g, .int (n : Int)] ∧ GAt C H a rows q ∧ q[n]? = some S ∧ 1 ≤ S.level ∧ S.level ≤ 47 ∧ q.length + 200 < 16000000 ∧
  ∀ H' rows' q' (m : Nat), GStep C H a rows q H' rows' q' → q'.length ≤ q.length + 60 → q'[m]? = some S.wide → Q (.int (m : Int)) H'
theorem mp_widened {C : Addr} : MonP (sp_widened C) := fun vs H Q Q' E h ⟨a, rows, q, n, S, x1, x2, x3, x4, x5, x6, k⟩ => ⟨a, rows, q, n, S, x1, x2, x3, x4, x5, x6, fun H' r' q' m g l e => h _ _ (k H' r' q' m g l e)⟩
def sp_trimmed (C : Addr) : Sp := fun vs H Q _ => ∃ (a : GA) (rows : List (Int × Addr)) (q : List Sq) (n : Nat) (S : Sq), vs = [.ref a.g, .int (n : Int)] ∧ GAt C H a rows q ∧ q[n]? = some S ∧ 1 ≤ S.level ∧ S.level ≤ 60 ∧ q.length + 200 < 16000000 ∧
  ∀ H' q' (m : Nat), GStep C H a rows q H' rows q' → q'.length ≤ q.length + 60 → q'[m]? = some S.trim → Q (.int (m : Int)) H'
theorem mp_trimmed {C : Addr} : MonP (sp_trimmed C) := fun vs H Q Q' E h ⟨a, rows, q, n, S, x1, x2, x3, x4, x5, x6, k⟩ => ⟨a, rows, q, n, S, x1, x2, x3, x4, x5, x6, fun H' q' m g l e => h _ _ (k H' q' m g l e)⟩
end
end JF

/-! ### rules: clauses and conditions -/
namespace JF
open PySem PySem.Spec PyProof.Rows L2
/-! #### the plain meaning -/
inductive Cond where
  | amt (s : Int) (ns : List Int)
  | plc (ws : List (Option Int))
structure Cla where
  taken : Option Int
  conds : List Cond
  made : Int
def wishOk : Option Int → Int → Bool
  | none, _ => true
  | some w, x => decide (w = x)
def plcOk : List (Option Int) → List Int → Bool
  | w :: ws, x :: xs => wishOk w x && plcOk ws xs
  | _, _ => true
def Cond.holds : Cond → List Int → Bool
  | amt s ns, xs => decide ((xs.count s : Int) ∈ ns)
  | plc ws, xs => plcOk ws xs
def Cla.fits (c : Cla) (cell : Int) (xs : List Int) : Bool := wishOk c.taken cell && c.conds.all fun k => k.holds xs
def firstFit (cell : Int) (xs : List Int) : List Cla → Option Nat
  | [] => none
  | c :: cs => if c.fits cell xs = true then some 0 else (firstFit cell xs cs).map (· + 1)
def ruleMakes (cs : List Cla) (cell : Int) (xs : List Int) : Int :=
  match firstFit cell xs cs with
  | none => cell
  | some i => (cs[i]?.map Cla.made).getD cell
def optV : Option Int → V
  | none => .non
  | some i => .int i
def optN : Option Nat → V
  | none => .non
  | some i => .int (i : Int)
/-! #### in the heap -/
def CondAt (K : PySem.W.Frag) (H : Hp) (v : V) : Cond → Prop
  | .amt s ns => ∃ p dx l, v = .ref p ∧ H p = some (.ins (He.ga K "Amount") dx [("state", .int s), ("numbers", .ref l)]) ∧ H l = some (.lst (ns.map V.int))
  | .plc ws => ∃ p dx l, v = .ref p ∧ H p = some (.ins (He.ga K "Places") dx [("wanted", .ref l)]) ∧ H l = some (.lst (ws.map optV))
def AllV {α : Type} (R : V → α → Prop) : List V → List α → Prop
  | [], [] => True
  | v :: vs, x :: xs => R v x ∧ AllV R vs xs
  | _, _ => False
theorem AllV.len {α : Type} {R : V → α → Prop} : ∀ {vs : List V} {xs : List α}, AllV R vs xs → vs.length = xs.length
  | [], [], _ => rfl
  | _ :: _, _ :: _, h => congrArg (· + 1) (AllV.len h.2)
  | [], _ :: _, h => h.elim
  | _ :: _, [], h => h.elim
theorem AllV.get {α : Type} {R : V → α → Prop} : ∀ {vs : List V} {xs : List α} {i : Nat} {v : V}, AllV R vs xs → vs[i]? = some v → ∃ x, xs[i]? = some x ∧ R v x
  | [], [], _, _, _, e => by simp at e
  | v :: vs, x :: xs, 0, _, h, e => by
    simp only [List.getElem?_cons_zero, Option.some.injEq] at e
    subst e
    exact ⟨x, rfl, h.1⟩
  | v :: vs, x :: xs, i + 1, _, h, e => by
    simp only [List.getElem?_cons_succ] at e ⊢
    exact AllV.get h.2 e
  | [], _ :: _, _, _, h, _ => h.elim
  | _ :: _, [], _, _, h, _ => h.elim
theorem AllV.imp {α : Type} {R R' : V → α → Prop} (k : ∀ v x, R v x → R' v x) : ∀ {vs : List V} {xs : List α}, AllV R vs xs → AllV R' vs xs
  | [], [], _ => trivial
  | _ :: _, _ :: _, h => ⟨k _ _ h.1, AllV.imp k h.2⟩
  | [], _ :: _, h => h.elim
  | _ :: _, [], h => h.elim
theorem AllV.app {α : Type} {R : V → α → Prop} {v : V} {x : α} (r : R v x) : ∀ {vs : List V} {xs : List α}, AllV R vs xs → AllV R (vs ++ [v]) (xs ++ [x])
  | [], [], _ => ⟨r, trivial⟩
  | _ :: _, _ :: _, h => ⟨h.1, AllV.app r h.2⟩
  | [], _ :: _, h => h.elim
  | _ :: _, [], h => h.elim
theorem CondAt.same {K : PySem.W.Frag} {H H' : Hp} {v : V} {c : Cond} (h : CondAt K H v c) (s : Same H H') : CondAt K H' v c := by
  cases c with
  | amt st ns =>
    obtain ⟨p, dx, l, e, h1, h2⟩ := h
    exact ⟨p, dx, l, e, s _ _ h1, s _ _ h2⟩
  | plc ws =>
    obtain ⟨p, dx, l, e, h1, h2⟩ := h
    exact ⟨p, dx, l, e, s _ _ h1, s _ _ h2⟩
def ClaAt (K : PySem.W.Frag) (H : Hp) (v : V) (c : Cla) : Prop := ∃ p dx l ps, v = .ref p ∧ H p = some (.ins (He.ga K "Clause") dx [("taken", optV c.taken), ("conditions", .ref l), ("made", .int c.made)]) ∧ H l = some (.lst ps) ∧ AllV (CondAt K H) ps c.conds
theorem ClaAt.same {K : PySem.W.Frag} {H H' : Hp} {v : V} {c : Cla} (h : ClaAt K H v c) (s : Same H H') : ClaAt K H' v c := by
  obtain ⟨p, dx, l, ps, e, h1, h2, h3⟩ := h
  exact ⟨p, dx, l, ps, e, s _ _ h1, s _ _ h2, h3.imp fun _ _ h => h.same s⟩
def RuleAt (K : PySem.W.Frag) (H : Hp) (v : V) (cs : List Cla) : Prop := ∃ p dx l ps, v = .ref p ∧ H p = some (.ins (He.ga K "Rule") dx [("clauses", .ref l)]) ∧ H l = some (.lst ps) ∧ AllV (ClaAt K H) ps cs
theorem RuleAt.same {K : PySem.W.Frag} {H H' : Hp} {v : V} {cs : List Cla} (h : RuleAt K H v cs) (s : Same H H') : RuleAt K H' v cs := by
  obtain ⟨p, dx, l, ps, e, h1, h2, h3⟩ := h
  exact ⟨p, dx, l, ps, e, s _ _ h1, s _ _ h2, h3.imp fun _ _ h => h.same s⟩
theorem inV_ints (i : Int) (ns : List Int) : inV (.int i) (ns.map V.int) = decide (i ∈ ns) := by
  induction ns with
  | nil => rfl
  | cons n ns ih =>
    have e : inV (.int i) ((n :: ns).map V.int) = (eqV (.int n) (.int i) || inV (.int i) (ns.map V.int)) := rfl
    rw [e, ih]
    by_cases h : i = n
    · subst h
      have : eqV (.int i) (.int i) = true := by simp [eqV]
      simp [this]
    · have : eqV (.int n) (.int i) = false := by simp [eqV, Ne.symm h]
      simp [this, h]
theorem flat_ints (ns : List Int) : (ns.map V.int).all flatV = true := by
  induction ns with
  | nil => rfl
  | cons n ns ih => exact ih
section
variable {K : PySem.W.Frag} {σ : L2.St} {H : Hp} {Q : VK}
theorem rd_inI {p : Addr} {i : Int} {ns : List Int} (h : SqL K H p (ns.map V.int)) (q : Q (.bl (decide (i ∈ ns))) H) : rIn K false (.int i) (.ref p) H Q := ⟨p, _, rfl, .inl h, rfl, flat_ints ns, by rw [inV_ints]; exact q⟩
theorem rd_make {C : Addr} {sp : Sp} {tr : TA} (h : tr σ H fun vs H1 => ∀ x dx, H1 x = none → H1 dx = none → dx ≠ x → sp (.ref x :: (vs ++ [])) (upd (upd H1 dx (.own x)) x (.ins C dx [])) (fun v H2 => v = .non ∧ Q (.ref x) H2) E0) : tMake C sp [] E0 tr σ H Q := h
theorem made_same2 {H : Hp} {x dx : Addr} {o o' : HO} (hx : H x = none) (hdx : H dx = none) : Same H (upd (upd H dx o) x o') := fun b u e => by
  rw [upd_ne (ne_of_none e hx), upd_ne (ne_of_none e hdx)]; exact e
theorem Same.put {H0 H : Hp} {p : Addr} {o : HO} (s : Same H0 H) (h : H0 p = none) : Same H0 (upd H p o) := fun b u e => by
  rw [upd_ne (ne_of_none e h)]; exact s b u e
end
section
variable {P : Program} {w : World} {K : PySem.W.Frag} {mg : Str → Option Value} {base : Heap}
/-! #### conditions on amounts -/
def sp_amt_init (C : Addr) : Sp := fun vs H Q _ => ∃ (p dx l : Addr) (s : Int), vs = [.ref p, .int s, .ref l] ∧ H p = some (.ins C dx []) ∧ Q .non (upd (upd H p (.ins C dx [("state", .int s)])) p (.ins C dx [("state", .int s), ("numbers", .ref l)]))
theorem ok_amt_init (T : Env fa fn K mg) : Good P w K mg base CX0 1 ("Amount", some "__init__") ["self", "state", "numbers"] (sp_amt_init (He.ga K "Amount")) := by
  refine good_mk T 23 (d := d_Amount_init) (N := ["self", "state", "numbers"]) (ps := ["self", "state", "numbers"]) rfl rfl sc_Amount_init (fun _ _ _ _ _ _ us hl => match us, hl with | [_, _, _], _ => rfl) (fun vs H Q E h => ?_) (fun f cdv A outer σ0 H vs Q E hr h => ?_)
  · obtain ⟨p, dx, l, s, rfl, _⟩ := h; rfl
  · obtain ⟨p, dx, l, s, rfl, hp, k⟩ := h
    have cl := T.cls 25
    refine ⟨_, (pss_cons (ps_fld (pv 0) (pv 1) rfl)
      (pss_one (ps_fld (pv 0) (pv 2) rfl))), ?_⟩
    walk_at "rd"
    refine ⟨p, _, dx, [], rfl, hp, cl, T.noat 82, by decide, ?_⟩
    walk_at "rd"
    refine ⟨p, _, dx, _, rfl, upd_same, cl, T.noat 81, (by show 1 < 1000; decide), ?_⟩
    exact k
def sp_amt_holds (C : Addr) : Sp := fun vs H Q _ => ∃ (p dx l r : Addr) (s : Int) (ns xs : List Int), vs = [.ref p, .ref r] ∧ H p = some (.ins C dx [("state", .int s), ("numbers", .ref l)]) ∧ H l = some (.lst (ns.map V.int)) ∧ H r = some (.lst (xs.map V.int)) ∧ Q (.bl ((Cond.amt s ns).holds xs)) H
theorem ok_amt_holds (T : Env fa fn K mg) : Good P w K mg base CX0 1 ("Amount", some "holds") ["self", "around"] (sp_amt_holds (He.ga K "Amount")) := by
  refine good_mk T 24 (d := d_Amount_holds) (N := ["self", "around"]) (ps := ["self", "around"]) rfl rfl sc_Amount_holds (fun _ _ _ _ _ _ us hl => match us, hl with | [_, _], _ => rfl) (fun vs H Q E h => ?_) (fun f cdv A outer σ0 H vs Q E hr h => ?_)
  · obtain ⟨p, dx, l, r, s, ns, xs, rfl, _⟩ := h; rfl
  · obtain ⟨p, dx, l, r, s, ns, xs, rfl, hp, hl, hx, k⟩ := h
    have cl := T.cls 25
    have n1 := T.noat 82
    have n2 := T.noat 81
    refine ⟨_, (pss_one (ps_ret (pe_cmpR (op_inK K rfl) (pe_bm PySem.F.plainAttrs_list PySem.F.slot_list_count PySem.F.type_list_count mt_lcount (pv 1) (pa_cons (pe_fldK K rfl (pv 0) rfl) pa_nil)) (pe_fldK K rfl (pv 0) rfl) (by first | exact nomark _ | rfl)))), ?_⟩
    walk_at "rd"
    refine rd_tyL hx ?_
    walk_at "rd"
    refine ⟨r, xs, s, rfl, rfl, SqL.of hx, ?_⟩
    walk_at "rd"
    exact rd_inI (SqL.of hl) k
/-! #### conditions on places -/
def sp_plc_init (C : Addr) : Sp := fun vs H Q _ => ∃ (p dx l : Addr), vs = [.ref p, .ref l] ∧ H p = some (.ins C dx []) ∧ Q .non (upd H p (.ins C dx [("wanted", .ref l)]))
theorem ok_plc_init (T : Env fa fn K mg) : Good P w K mg base CX0 1 ("Places", some "__init__") ["self", "wanted"] (sp_plc_init (He.ga K "Places")) := by
  refine good_mk T 26 (d := d_Places_init) (N := ["self", "wanted"]) (ps := ["self", "wanted"]) rfl rfl sc_Places_init (fun _ _ _ _ _ _ us hl => match us, hl with | [_, _], _ => rfl) (fun vs H Q E h => ?_) (fun f cdv A outer σ0 H vs Q E hr h => ?_)
  · obtain ⟨p, dx, l, rfl, _⟩ := h; rfl
  · obtain ⟨p, dx, l, rfl, hp, k⟩ := h
    have cl := T.cls 23
    refine ⟨_, (pss_one (ps_fld (pv 0) (pv 1) rfl)), ?_⟩
    walk_at "rd"
    refine ⟨p, _, dx, [], rfl, hp, cl, T.noat 95, by decide, ?_⟩
    exact k
def sp_plc_holds (C : Addr) : Sp := fun vs H Q _ => ∃ (p dx l r : Addr) (ws : List (Option Int)) (xs : List Int), vs = [.ref p, .ref r] ∧ H p = some (.ins C dx [("wanted", .ref l)]) ∧ H l = some (.lst (ws.map optV)) ∧ H r = some (.lst (xs.map V.int)) ∧ ws.length = 8 ∧ xs.length = 8 ∧ ∀ H', Same H H' → Q (.bl ((Cond.plc ws).holds xs)) H'
theorem plcOk_split : ∀ (ws : List (Option Int)) (xs : List Int) (i : Nat) (w : Option Int) (x : Int), ws[i]? = some w → xs[i]? = some x → wishOk w x = false → plcOk ws xs = false
  | w0 :: ws, x0 :: xs, 0, w, x, h1, h2, h3 => by
    simp only [List.getElem?_cons_zero, Option.some.injEq] at h1 h2
    subst h1 h2
    show (wishOk w0 x0 && plcOk ws xs) = false
    rw [h3]; rfl
  | w0 :: ws, x0 :: xs, i + 1, w, x, h1, h2, h3 => by
    show (wishOk w0 x0 && plcOk ws xs) = false
    rw [plcOk_split ws xs i w x h1 h2 h3, Bool.and_false]
  | [], _, _, _, _, h1, _, _ => by simp at h1
  | _ :: _, [], _, _, _, _, h2, _ => by simp at h2
theorem plcOk_all : ∀ (ws : List (Option Int)) (xs : List Int), (∀ (i : Nat) w x, ws[i]? = some w → xs[i]? = some x → wishOk w x = true) → plcOk ws xs = true
  | w :: ws, x :: xs, h => by
    show (wishOk w x && plcOk ws xs) = true
    rw [h 0 w x rfl rfl, plcOk_all ws xs fun i w' x' h1 h2 => h (i + 1) w' x' (by simpa using h1) (by simpa using h2)]; rfl
  | [], _, _ => rfl
  | _ :: _, [], _ => rfl
theorem ok_plc_holds (T : Env fa fn K mg) : Good P w K mg base CX0 1 ("Places", some "holds") ["self", "around"] (sp_plc_holds (He.ga K "Places")) := by
  refine good_mk T 27 (d := d_Places_holds) (N := ["self", "around", "wish", "state"]) (ps := ["self", "around"]) rfl rfl sc_Places_holds (fun _ _ _ _ _ _ us hl => match us, hl with | [_, _], _ => rfl) (fun vs H Q E h => ?_) (fun f cdv A outer σ0 H vs Q E hr h => ?_)
  · obtain ⟨p, dx, l, r, ws, xs, rfl, _⟩ := h; rfl
  · obtain ⟨p, dx, l, r, ws, xs, rfl, hp, hl, hx, hw8, hx8, k⟩ := h
    have cl := T.cls 23
    have n1 := T.noat 95
    refine ⟨_, (pss_cons (ps_for PassesOwn.never rfl (pi_zip (by rfl) (T.free 22) (pa_cons (pe_fldK K rfl (pv 0) rfl) (pa_cons (pv 1) pa_nil))) (pg_tup rfl (pgs_cons (pg_name (i := 2) sc_Places_holds.nd rfl (Or.inl rfl)) (pgs_cons (pg_name (i := 3) sc_Places_holds.nd rfl (Or.inl rfl)) pgs_nil))) (pss_one (ps_if (PW.pt (pw_and (pt_cmpR op_notN (pv 2) pe_non (nomark _)) (pw_and1 (pt_cmpR op_ne (pv 2) (pv 3) (nomark _))))) (pss_one (ps_ret pe_bl)) pss_nil)))
      (pss_one (ps_ret pe_bl))), ?_⟩
    walk_at "rd"
    refine ⟨l, r, _, _, rfl, SqL.of hl, SqL.of hx, ?_⟩
    refine RZ.for_zipL (xs := ws.map optV) (ys := xs.map V.int) (by simp [hw8, hx8]) (fun i σ H' => Same H H' ∧ (∀ (j : Nat) w x, j < i → ws[j]? = some w → xs[j]? = some x → wishOk w x = true) ∧ ∃ x2 x3 : Option V, σ = [some (.ref p), some (.ref r), x2, x3])
      ⟨Same.refl _, fun j w x h => by omega, none, none, rfl⟩ (fun i σ H' h => ⟨SqL.of (h.1 _ _ hl), SqL.of (h.1 _ _ hx)⟩) ?_ ?_
    · rintro i x y T' σ H1 hxi hyi ⟨s1, hall, x2, x3, rfl⟩ hT'
      obtain ⟨w_, hw_, rfl⟩ : ∃ w_, ws[i]? = some w_ ∧ x = optV w_ := by
        rw [List.getElem?_map] at hxi
        cases e : ws[i]? with
        | none => rw [e] at hxi; cases hxi
        | some c => rw [e] at hxi; exact ⟨c, rfl, (Option.some.inj hxi).symm⟩
      obtain ⟨z, hz, rfl⟩ : ∃ z, xs[i]? = some z ∧ y = .int z := by
        rw [List.getElem?_map] at hyi
        cases e : xs[i]? with
        | none => rw [e] at hyi; cases hyi
        | some c => rw [e] at hyi; exact ⟨c, rfl, (Option.some.inj hyi).symm⟩
      have s2 := same_upd (o := HO.tup [optV w_, V.int z]) hT'
      have hT2 : (upd H1 T' (HO.tup [optV w_, V.int z])) T' = some (.tup [optV w_, V.int z]) := upd_same
      have next : wishOk w_ z = true → ∀ (j : Nat) w x, j < i + 1 → ws[j]? = some w → xs[j]? = some x → wishOk w x = true := fun hk j w x hj h1 h2 => by
        rcases Nat.lt_or_ge j i with h | h
        · exact hall j w x h h1 h2
        · have e : j = i := by omega
          subst e
          rw [hw_] at h1; rw [hz] at h2
          cases h1; cases h2
          exact hk
      walk_at "rd"
      cases w_ with
      | none =>
        refine iteF ?_
        walk_at "rd"
        exact ⟨s1.trans s2, next rfl, _, _, rfl⟩
      | some w0 =>
        refine iteT ?_
        walk_at "rd"
        refine rd_neI ?_
        refine rd_bl ?_
        refine ite_nd (fun hne => ?_) (fun he => ?_)
        · walk_at "rd"
          have e : (Cond.plc ws).holds xs = false := plcOk_split ws xs i _ _ hw_ hz (by show decide (w0 = z) = false; exact decide_eq_false hne)
          rw [e] at k
          exact k _ (s1.trans s2)
        · walk_at "rd"
          exact ⟨s1.trans s2, next (by show decide (w0 = z) = true; exact decide_eq_true he), _, _, rfl⟩
    · rintro σ H' ⟨s1, hall, x2, x3, rfl⟩
      walk_at "rd"
      have e : (Cond.plc ws).holds xs = true := plcOk_all ws xs fun i w x h1 h2 => hall i w x (by have := (List.getElem?_eq_some_iff.mp h1).1; rw [List.length_map]; exact this) h1 h2
      rw [e] at k
      exact k _ s1
theorem mp_amt_holds {C : Addr} : MonP (sp_amt_holds C) := fun vs H Q Q' E h ⟨p, dx, l, r, s, ns, xs, x1, x2, x3, x4, q⟩ => ⟨p, dx, l, r, s, ns, xs, x1, x2, x3, x4, h _ _ q⟩
theorem mp_plc_holds {C : Addr} : MonP (sp_plc_holds C) := fun vs H Q Q' E h ⟨p, dx, l, r, ws, xs, x1, x2, x3, x4, x5, x6, q⟩ => ⟨p, dx, l, r, ws, xs, x1, x2, x3, x4, x5, x6, fun H' s => h _ _ (q H' s)⟩
/-! #### clauses -/
def sp_cla_init (C : Addr) : Sp := fun vs H Q _ => ∃ (p dx l : Addr) (t : Option Int) (m : Int), vs = [.ref p, optV t, .ref l, .int m] ∧ H p = some (.ins C dx []) ∧ ∀ H', (∀ b, b ≠ p → H' b = H b) → H' p = some (.ins C dx [("taken", optV t), ("conditions", .ref l), ("made", .int m)]) → Q .non H'
theorem ok_cla_init (T : Env fa fn K mg) : Good P w K mg base CX0 1 ("Clause", some "__init__") ["self", "taken", "conditions", "made"] (sp_cla_init (He.ga K "Clause")) := by
  refine good_mk T 30 (d := d_Clause_init) (N := ["self", "taken", "conditions", "made"]) (ps := ["self", "taken", "conditions", "made"]) rfl rfl sc_Clause_init (fun _ _ _ _ _ _ us hl => match us, hl with | [_, _, _, _], _ => rfl) (fun vs H Q E h => ?_) (fun f cdv A outer σ0 H vs Q E hr h => ?_)
  · obtain ⟨p, dx, l, t, m, rfl, _⟩ := h; rfl
  · obtain ⟨p, dx, l, t, m, rfl, hp, k⟩ := h
    have cl := T.cls 27
    refine ⟨_, (pss_cons (ps_fld (pv 0) (pv 1) rfl)
      (pss_cons (ps_fld (pv 0) (pv 2) rfl)
      (pss_one (ps_fld (pv 0) (pv 3) rfl)))), ?_⟩
    walk_at "rd"
    refine ⟨p, _, dx, [], rfl, hp, cl, T.noat 85, by decide, ?_⟩
    walk_at "rd"
    refine ⟨p, _, dx, _, rfl, upd_same, cl, T.noat 83, (by show 1 < 1000; decide), ?_⟩
    walk_at "rd"
    refine ⟨p, _, dx, _, rfl, upd_same, cl, T.noat 84, (by show 2 < 1000; decide), ?_⟩
    exact k _ (fun b hb => by rw [upd_ne hb, upd_ne hb, upd_ne hb]) upd_same
def CondOk : Cond → Prop
  | .amt _ _ => True
  | .plc ws => ws.length = 8
def sp_fits (K : PySem.W.Frag) : Sp := fun vs H Q _ => ∃ (v : V) (r : Addr) (c : Cla) (cell : Int) (xs : List Int), vs = [v, .int cell, .ref r] ∧ ClaAt K H v c ∧ H r = some (.lst (xs.map V.int)) ∧ xs.length = 8 ∧ (∀ k ∈ c.conds, CondOk k) ∧ ∀ H', Same H H' → Q (.bl (c.fits cell xs)) H'
theorem mp_fits : MonP (sp_fits K) := fun vs H Q Q' E h ⟨v, r, c, cell, xs, x1, x2, x3, x4, x5, k⟩ => ⟨v, r, c, cell, xs, x1, x2, x3, x4, x5, fun H' s => h _ _ (k H' s)⟩
theorem ok_fits (T : Env fa fn K mg) : Good P w K mg base CX0 2 ("Clause", some "fits") ["self", "cell", "around"] (sp_fits K) := by
  have G_Amount_holds := ok_amt_holds (P := P) (w := w) (base := base) T
  have G_Places_holds := ok_plc_holds (P := P) (w := w) (base := base) T
  refine good_mk T 31 (d := d_Clause_fits) (N := ["self", "cell", "around", "condition"]) (ps := ["self", "cell", "around"]) rfl rfl sc_Clause_fits (fun _ _ _ _ _ _ us hl => match us, hl with | [_, _, _], _ => rfl) (fun vs H Q E h => ?_) (fun f cdv A outer σ0 H vs Q E hr h => ?_)
  · obtain ⟨v, r, c, cell, xs, rfl, _⟩ := h; rfl
  · obtain ⟨v, r, c, cell, xs, rfl, ⟨p, dx, l, ps, rfl, hp, hl, hc⟩, hx, hx8, hok, k⟩ := h
    have cl := T.cls 27
    have n1 := T.noat 85
    have n2 := T.noat 83
    refine ⟨_, (pss_cons (ps_if (PW.pt (pw_and (pt_cmpR op_notN (pe_fldK K rfl (pv 0) rfl) pe_non (nomark _)) (pw_and1 (pt_cmpR op_ne (pe_fldK K rfl (pv 0) rfl) (pv 1) (nomark _))))) (pss_one (ps_ret pe_bl)) pss_nil)
      (pss_cons (ps_for PassesOwn.never rfl (pi_listK K rfl (pe_fldK K rfl (pv 0) rfl)) (pg_name (i := 3) sc_Clause_fits.nd rfl (Or.inl rfl)) (pss_one (ps_if (pt_not (pt_val (pe_or (pe_mgK K rfl (pv 3) (T.cls 25) (T.meth 26) G_Amount_holds (hr.mono (by decide)) (pa_cons (pv 2) pa_nil)) (pe_mgK K rfl (pv 3) (T.cls 23) (T.meth 24) G_Places_holds (hr.mono (by decide)) (pa_cons (pv 2) pa_nil))))) (pss_one (ps_ret pe_bl)) pss_nil)))
      (pss_one (ps_ret pe_bl)))), ?_⟩
    have main : wishOk c.taken cell = true → ∀ D : Ends, (D.nx = fun x H' => Q .non H') → D.rt = Q → True := fun _ _ _ _ => trivial
    refine rd_cut (fun σ H' => H' = H ∧ wishOk c.taken cell = true ∧ σ = [some (.ref p), some (.int cell), some (.ref r), none]) (by walk_at "mono") ?_ ?_
    · walk_at "rd"
      obtain ⟨ct, cc, cm⟩ := c
      cases ct with
      | none =>
        refine iteF ?_
        walk_at "rd"
        exact ⟨rfl, rfl, rfl⟩
      | some t =>
        refine iteT ?_
        walk_at "rd"
        refine rd_neI ?_
        refine rd_bl ?_
        refine ite_nd (fun hne => ?_) (fun he => ?_)
        · walk_at "rd"
          have e : (Cla.fits ⟨some t, cc, cm⟩ cell xs) = false := by
            show (decide (t = cell) && _) = false
            rw [decide_eq_false hne]; rfl
          rw [e] at k
          exact k _ (Same.refl _)
        · walk_at "rd"
          exact ⟨rfl, decide_eq_true he, rfl⟩
    rintro σ H1 ⟨rfl, hw, rfl⟩
    walk_at "rd"
    refine ⟨l, rfl, ⟨_, SqL.of hl⟩, ?_⟩
    refine for_it (walk_list (xs := ps)) (fun i σ H' => Same H1 H' ∧ (∀ (j : Nat) kc, j < i → c.conds[j]? = some kc → kc.holds xs = true) ∧ ∃ x3 : Option V, σ = [some (.ref p), some (.int cell), some (.ref r), x3]) ⟨Same.refl _, fun j kc h => by omega, none, rfl⟩ ?_ ?_ ?_
    · rintro i σ H' _ ⟨s1, _⟩
      exact SqL.of (s1 _ _ hl)
    · rintro i x σ Ha Hb hi ⟨s1, hall, x3, rfl⟩ ⟨rfl, hxi⟩
      obtain ⟨kc, hkc, hat⟩ := hc.get hxi
      have hok1 := hok kc (List.mem_of_getElem? hkc)
      have hat' := hat.same s1
      have hx' := s1 _ _ hx
      have stop : kc.holds xs = false → ∀ H', Same H1 H' → Q (.bl false) H' := fun he H' s => by
        have e : c.fits cell xs = false := by
          show (wishOk c.taken cell && c.conds.all fun k => k.holds xs) = false
          have e2 : (c.conds.all fun k => k.holds xs) = false := by
            rw [List.all_eq_false]
            exact ⟨kc, List.mem_of_getElem? hkc, by simp [he]⟩
          rw [e2, Bool.and_false]
        rw [e] at k
        exact k _ s
      have next : kc.holds xs = true → ∀ (j : Nat) kc', j < i + 1 → c.conds[j]? = some kc' → kc'.holds xs = true := fun hk j kc' hj h1 => by
        rcases Nat.lt_or_ge j i with h | h
        · exact hall j kc' h h1
        · have e : j = i := by omega
          subst e
          rw [hkc] at h1
          cases h1
          exact hk
      walk_at "rd"
      cases kc with
      | amt st ns =>
        obtain ⟨q, dq, lq, rfl, hq, hlq⟩ := hat'
        left
        walk_at "rd"
        refine rd_methR hq (by rfl) ?_
        walk_at "rd"
        refine ⟨q, dq, lq, r, st, ns, xs, rfl, hq, hlq, hx', ?_⟩
        refine ⟨_, rfl, ?_⟩
        refine ite_nb (fun hb => ?_) (fun hb => ?_)
        · walk_at "rd"
          exact stop hb _ s1
        · walk_at "rd"
          exact ⟨s1, next hb, _, rfl⟩
      | plc ws =>
        obtain ⟨q, dq, lq, rfl, hq, hlq⟩ := hat'
        right
        walk_at "rd"
        refine rd_methR hq (by rfl) ?_
        walk_at "rd"
        refine ⟨q, dq, lq, r, ws, xs, rfl, hq, hlq, hx', hok1, hx8, fun H2 s2 => ?_⟩
        refine ⟨_, rfl, ?_⟩
        refine ite_nb (fun hb => ?_) (fun hb => ?_)
        · walk_at "rd"
          exact stop hb _ (s1.trans s2)
        · walk_at "rd"
          exact ⟨s1.trans s2, next hb, _, rfl⟩
    · rintro σ H' ⟨s1, hall, x3, rfl⟩
      walk_at "rd"
      have e : c.fits cell xs = true := by
        show (wishOk c.taken cell && c.conds.all fun k => k.holds xs) = true
        have e2 : (c.conds.all fun k => k.holds xs) = true := by
          rw [List.all_eq_true]
          intro kc hm
          obtain ⟨j, hj, rfl⟩ := List.mem_iff_getElem.mp hm
          exact hall j _ (by rw [hc.len]; exact hj) (at_get hj)
        rw [hw, e2]; rfl
      rw [e] at k
      exact k _ s1
end
end JF

/-! ### rules: deciding, reading -/
namespace JF
open PySem PySem.Spec PyProof.Rows L2
theorem fit_at {cell : Int} {xs : List Int} : ∀ {cs : List Cla} {i : Nat} {c : Cla}, (∀ (j : Nat) d, j < i → cs[j]? = some d → d.fits cell xs = false) → cs[i]? = some c → c.fits cell xs = true → firstFit cell xs cs = some i
  | d :: cs, 0, c, _, h2, h3 => by
    simp only [List.getElem?_cons_zero, Option.some.injEq] at h2
    subst h2
    unfold firstFit
    rw [if_pos h3]
  | d :: cs, i + 1, c, h1, h2, h3 => by
    unfold firstFit
    rw [if_neg (by rw [h1 0 d (by omega) rfl]; decide), fit_at (i := i) (c := c) (fun j d' hj e => h1 (j + 1) d' (by omega) (by simpa using e)) (by simpa using h2) h3]
    rfl
  | [], _, _, _, h2, _ => by simp at h2
theorem fit_none {cell : Int} {xs : List Int} : ∀ {cs : List Cla}, (∀ (j : Nat) d, cs[j]? = some d → d.fits cell xs = false) → firstFit cell xs cs = none
  | [], _ => rfl
  | d :: cs, h => by
    unfold firstFit
    rw [if_neg (by rw [h 0 d rfl]; decide), fit_none fun j d' e => h (j + 1) d' (by simpa using e)]
    rfl
theorem fit_lt {cell : Int} {xs : List Int} : ∀ {cs : List Cla} {i : Nat}, firstFit cell xs cs = some i → ∃ c, cs[i]? = some c ∧ c.fits cell xs = true
  | d :: cs, i, h => by
    unfold firstFit at h
    by_cases z : d.fits cell xs = true
    · rw [if_pos z] at h
      cases h
      exact ⟨d, rfl, z⟩
    · rw [if_neg z] at h
      cases e : firstFit cell xs cs with
      | none => rw [e] at h; cases h
      | some j =>
        rw [e] at h
        cases h
        obtain ⟨c, h1, h2⟩ := fit_lt e
        exact ⟨c, by simpa using h1, h2⟩
  | [], _, h => by cases h
def RuleOk (cs : List Cla) : Prop := ∀ c ∈ cs, ∀ k ∈ c.conds, CondOk k
section
variable {P : Program} {w : World} {K : PySem.W.Frag} {mg : Str → Option Value} {base : Heap}
def sp_deciding (K : PySem.W.Frag) : Sp := fun vs H Q _ => ∃ (v : V) (r : Addr) (cs : List Cla) (cell : Int) (xs : List Int), vs = [v, .int cell, .ref r] ∧ RuleAt K H v cs ∧ H r = some (.lst (xs.map V.int)) ∧ xs.length = 8 ∧ RuleOk cs ∧ ∀ H', Same H H' → Q (optN (firstFit cell xs cs)) H'
theorem mp_deciding : MonP (sp_deciding K) := fun vs H Q Q' E h ⟨v, r, cs, cell, xs, x1, x2, x3, x4, x5, k⟩ => ⟨v, r, cs, cell, xs, x1, x2, x3, x4, x5, fun H' s => h _ _ (k H' s)⟩
theorem ok_deciding (T : Env fa fn K mg) : Good P w K mg base CX0 3 ("deciding", none) ["rule", "cell", "around"] (sp_deciding K) := by
  have G_Clause_fits := ok_fits (P := P) (w := w) (base := base) T
  refine good_mk T 35 (d := d_deciding) (N := ["rule", "cell", "around", "at", "clause"]) (ps := ["rule", "cell", "around"]) rfl rfl sc_deciding (fun _ _ _ _ _ _ us hl => match us, hl with | [_, _, _], _ => rfl) (fun vs H Q E h => ?_) (fun f cdv A outer σ0 H vs Q E hr h => ?_)
  · obtain ⟨v, r, cs, cell, xs, rfl, _⟩ := h; rfl
  · obtain ⟨v, r, cs, cell, xs, rfl, ⟨p, dx, l, ps, rfl, hp, hl, hc⟩, hx, hx8, hok, k⟩ := h
    have cl := T.cls 97
    have clc := T.cls 27
    have n1 := T.noat 96
    refine ⟨_, (pss_cons (ps_for PassesOwn.never rfl (pi_enum (by rfl) (T.free 5) (pa_cons (pe_fldK K rfl (pv 0) rfl) pa_nil)) (pg_tup rfl (pgs_cons (pg_name (i := 3) sc_deciding.nd rfl (Or.inl rfl)) (pgs_cons (pg_name (i := 4) sc_deciding.nd rfl (Or.inl rfl)) pgs_nil))) (pss_one (ps_if (pt_val (pe_mgK K rfl (pv 4) (T.cls 27) (T.meth 28) G_Clause_fits (hr.mono (by decide)) (pa_cons (pv 1) (pa_cons (pv 2) pa_nil)))) (pss_one (ps_ret (pv 3))) pss_nil)))
      (pss_one (ps_ret pe_non))), ?_⟩
    walk_at "rd"
    refine ⟨l, ps, rfl, SqL.of hl, ?_⟩
    refine for_it (walk_enum (xs := ps)) (fun i σ H' => Same H H' ∧ (∀ (j : Nat) d, j < i → cs[j]? = some d → d.fits cell xs = false) ∧ ∃ x3 x4 : Option V, σ = [some (.ref p), some (.int cell), some (.ref r), x3, x4]) ⟨Same.refl _, fun j d h => by omega, none, none, rfl⟩ ?_ ?_ ?_
    · rintro i σ H' _ ⟨s1, _⟩
      exact SqL.of (s1 _ _ hl)
    · rintro i x σ Ha Hb hi ⟨s1, hall, x3, x4, rfl⟩ ⟨t, u, v, rfl, ht, rfl, eu, ev⟩
      cases eu
      obtain ⟨c, hcc, hat⟩ := hc.get ev
      have s2 := same_upd (o := HO.tup [V.int (i : Nat), v]) ht
      have hT : (upd Ha t (HO.tup [V.int (i : Nat), v])) t = some (.tup [V.int (i : Nat), v]) := upd_same
      have s12 := s1.trans s2
      have hat' := hat.same s12
      obtain ⟨q, dq, lq, pq, rfl, hq, _⟩ := id hat'
      walk_at "rd"
      refine rd_methR hq (by rfl) ?_
      walk_at "rd"
      refine ⟨_, r, c, cell, xs, rfl, hat', s12 _ _ hx, hx8, hok c (List.mem_of_getElem? hcc), fun H3 s3 => ?_⟩
      refine ⟨_, rfl, ?_⟩
      refine ite_b (fun hb => ?_) (fun hb => ?_)
      · walk_at "rd"
        have e : firstFit cell xs cs = some i := fit_at hall hcc hb
        rw [e] at k
        exact k _ (s12.trans s3)
      · walk_at "rd"
        refine ⟨s12.trans s3, fun j d hj h1 => ?_, _, _, rfl⟩
        rcases Nat.lt_or_ge j i with h | h
        · exact hall j d h h1
        · have e : j = i := by omega
          subst e
          rw [hcc] at h1
          cases h1
          exact hb
    · rintro σ H' ⟨s1, hall, x3, x4, rfl⟩
      walk_at "rd"
      have e : firstFit cell xs cs = none := fit_none fun j d h1 => hall j d (by rw [hc.len]; exact (List.getElem?_eq_some_iff.mp h1).1) h1
      rw [e] at k
      exact k _ s1
def sp_becomes (K : PySem.W.Frag) : Sp := fun vs H Q _ => ∃ (v : V) (r : Addr) (cs : List Cla) (cell : Int) (xs : List Int), vs = [v, .int cell, .ref r] ∧ RuleAt K H v cs ∧ H r = some (.lst (xs.map V.int)) ∧ xs.length = 8 ∧ RuleOk cs ∧ ∀ H', Same H H' → Q (.int (ruleMakes cs cell xs)) H'
theorem mp_becomes : MonP (sp_becomes K) := fun vs H Q Q' E h ⟨v, r, cs, cell, xs, x1, x2, x3, x4, x5, k⟩ => ⟨v, r, cs, cell, xs, x1, x2, x3, x4, x5, fun H' s => h _ _ (k H' s)⟩
theorem AllV.at {α : Type} {R : V → α → Prop} : ∀ {vs : List V} {xs : List α} {i : Nat} {x : α}, AllV R vs xs → xs[i]? = some x → ∃ v, vs[i]? = some v ∧ R v x
  | [], [], _, _, _, e => by simp at e
  | v :: vs, x :: xs, 0, _, h, e => by
    simp only [List.getElem?_cons_zero, Option.some.injEq] at e
    subst e
    exact ⟨v, rfl, h.1⟩
  | v :: vs, x :: xs, i + 1, _, h, e => by
    simp only [List.getElem?_cons_succ] at e ⊢
    exact AllV.at h.2 e
  | [], _ :: _, _, _, h, _ => h.elim
  | _ :: _, [], _, _, h, _ => h.elim
theorem ok_becomes (T : Env fa fn K mg) : Good P w K mg base CX0 4 ("becomes", none) ["rule", "cell", "around"] (sp_becomes K) := by
  have G_deciding := ok_deciding (P := P) (w := w) (base := base) T
  refine good_mk T 36 (d := d_becomes) (N := ["rule", "cell", "around", "at"]) (ps := ["rule", "cell", "around"]) rfl rfl sc_becomes (fun _ _ _ _ _ _ us hl => match us, hl with | [_, _, _], _ => rfl) (fun vs H Q E h => ?_) (fun f cdv A outer σ0 H vs Q E hr h => ?_)
  · obtain ⟨v, r, cs, cell, xs, rfl, _⟩ := h; rfl
  · obtain ⟨v, r, cs, cell, xs, rfl, hR, hx, hx8, hok, k⟩ := h
    have cl := T.cls 97
    have clc := T.cls 27
    have n1 := T.noat 96
    have n2 := T.noat 84
    refine ⟨_, (pss_cons (ps_set (i := 3) sc_becomes.nd rfl (Or.inl rfl) (pe_cgK K rfl G_deciding (hr.mono (by decide)) (T.glo 29) (pa_cons (pv 0) (pa_cons (pv 1) (pa_cons (pv 2) pa_nil)))))
      (pss_cons (ps_if (pt_cmpR op_isN (pv 3) pe_non (nomark _)) (pss_one (ps_ret (pv 1))) pss_nil)
      (pss_one (ps_ret (pe_fldK K rfl (pe_ix (ix_listK K rfl) (pe_fldK K rfl (pv 0) rfl) (pv 3) (fun _ _ => rfl)) rfl))))), ?_⟩
    walk_at "rd"
    refine ⟨_, r, cs, cell, xs, rfl, hR, hx, hx8, hok, fun H2 s2 => ?_⟩
    obtain ⟨p, dx, l, ps, rfl, hp, hl, hc⟩ := hR.same s2
    cases e : firstFit cell xs cs with
    | none =>
      have em : ruleMakes cs cell xs = cell := by unfold ruleMakes; rw [e]
      rw [em] at k
      walk_at "rd"
      refine iteT ?_
      walk_at "rd"
      exact k _ s2
    | some i =>
      obtain ⟨c, hcc, _⟩ := fit_lt e
      have em : ruleMakes cs cell xs = c.made := by
        unfold ruleMakes
        rw [e]
        show (cs[i]?.map Cla.made).getD cell = c.made
        rw [hcc]; rfl
      rw [em] at k
      obtain ⟨v, hv, q, dq, lq, pq, rfl, hq, _⟩ := hc.at hcc
      walk_at "rd"
      refine iteF ?_
      walk_at "rd"
      refine rd_ixL (SqL.of hl) (atI_nat hv) ?_
      walk_at "rd"
      exact k _ s2
/-! #### reading -/
abbrev tx (l : List Nat) : Str := ⟨l.toArray⟩
def wishT : Option Int → Nat
  | none => 42
  | some i => 48 + i.toNat
def condT : Cond → List Nat
  | .amt s ns => (48 + s.toNat) :: 61 :: ns.map fun n => 48 + n.toNat
  | .plc ws => ws.map wishT
def claW (c : Cla) : List (List Nat) := [wishT c.taken] :: (c.conds.map condT ++ [[48 + c.made.toNat]])
def claT (c : Cla) : List Nat := TL.joinL [32] (claW c)
def ruleT (cs : List Cla) : List Nat := TL.joinL [59, 32] (cs.map claT)
def St (s : Int) : Prop := 0 ≤ s ∧ s ≤ 7
def WishW : Option Int → Prop
  | none => True
  | some s => St s
def CondW : Cond → Prop
  | .amt s ns => St s ∧ ns ≠ [] ∧ (∀ n ∈ ns, 0 ≤ n ∧ n ≤ 8) ∧ ns.Pairwise (· < ·)
  | .plc ws => ws.length = 8 ∧ ∀ w ∈ ws, WishW w
def ClaW (c : Cla) : Prop := WishW c.taken ∧ (∀ k ∈ c.conds, CondW k) ∧ St c.made
theorem CondW.ok {c : Cond} (h : CondW c) : CondOk c := by
  cases c with
  | amt s ns => trivial
  | plc ws => exact h.1
theorem sign_digit : ∀ d : Nat, d < 9 → PySem.intText? ⟨#[48 + d]⟩ = some (d : Int) := by decide +kernel
theorem states_has {c : Nat} (h0 : 48 ≤ c) (h1 : c ≤ 55) : c ∈ (Str.ofString "01234567").cps.toList := by
  have e : (Str.ofString "01234567").cps.toList = [48, 49, 50, 51, 52, 53, 54, 55] := by decide +kernel
  rw [e]
  simp only [List.mem_cons, List.not_mem_nil, or_false]
  omega
theorem numbers_has {c : Nat} (h0 : 48 ≤ c) (h1 : c ≤ 56) : c ∈ (Str.ofString "012345678").cps.toList := by
  have e : (Str.ofString "012345678").cps.toList = [48, 49, 50, 51, 52, 53, 54, 55, 56] := by decide +kernel
  rw [e]
  simp only [List.mem_cons, List.not_mem_nil, or_false]
  omega
theorem small_len {n : Nat} (h : n ≤ 1000000) : n ≤ sizeLine := by have := sizeBig; omega
def sp_read_state : Sp := fun vs H Q _ => ∃ s : Int, vs = [.str ⟨#[48 + s.toNat]⟩] ∧ St s ∧ Q (.int s) H
theorem mp_read_state : MonP sp_read_state := fun vs H Q Q' E h ⟨s, x1, x2, k⟩ => ⟨s, x1, x2, h _ _ k⟩
theorem ok_read_state (T : Env fa fn K mg) : Good P w K mg base CX0 1 ("read_state", none) ["word"] sp_read_state := by
  refine good_mk T 37 (d := d_read_state) (N := ["word"]) (ps := ["word"]) rfl rfl sc_read_state (fun _ _ _ _ _ _ us hl => match us, hl with | [_], _ => rfl) (fun vs H Q E h => ?_) (fun f cdv A outer σ0 H vs Q E hr h => ?_)
  · obtain ⟨s, rfl, _⟩ := h; rfl
  · obtain ⟨s, rfl, ⟨h0, h7⟩, k⟩ := h
    obtain ⟨d, rfl⟩ : ∃ d : Nat, s = (d : Int) := ⟨s.toNat, by omega⟩
    rw [Int.toNat_natCast]
    refine ⟨_, (pss_cons (ps_if (PW.pt (pw_or (pt_cmpR op_ne (pe_callB call_len_str (by rfl) (T.free 8) (by decide +kernel) (pa_cons (pv 0) pa_nil)) pe_int (nomark _)) (pw_or1 (pt_cmpR op_notIn_sign (pv 0) (pe_gstr (T.str 30) rfl) rfl)))) pss_never pss_nil)
      (pss_one (ps_ret (pe_callTy call_int_str (by rfl) (T.free 2) (by decide +kernel) (pa_cons (pv 0) pa_nil))))), ?_⟩
    walk_at "rd"
    refine ⟨_, rfl, small_len (by show 1 ≤ 1000000; decide), ?_⟩
    walk_at "rd"
    refine iteF ?_
    walk_at "rd"
    refine ⟨48 + d, _, rfl, rfl, ?_⟩
    rw [decide_eq_true (states_has (by omega) (by omega))]
    walk_at "rd"
    exact ⟨_, (d : Int), rfl, sign_digit d (by omega), by show 1 ≤ 640; decide, k⟩
def sp_read_wish : Sp := fun vs H Q _ => ∃ s : Option Int, vs = [.str ⟨#[wishT s]⟩] ∧ WishW s ∧ Q (optV s) H
theorem mp_read_wish : MonP sp_read_wish := fun vs H Q Q' E h ⟨s, x1, x2, k⟩ => ⟨s, x1, x2, h _ _ k⟩
theorem star_ne {s : Int} (h : St s) : ¬ ((⟨#[wishT (some s)]⟩ : Str) = Str.ofString "*") := by
  intro e
  have e2 : (Str.ofString "*").cps.toList = [42] := by decide +kernel
  have e1 : ([48 + s.toNat] : List Nat) = [42] := by rw [← e2, ← e]; rfl
  simp only [List.cons.injEq, and_true] at e1
  omega
theorem ok_read_wish (T : Env fa fn K mg) : Good P w K mg base CX0 2 ("read_wish", none) ["word"] sp_read_wish := by
  have G_read_state := ok_read_state (P := P) (w := w) (base := base) T
  refine good_mk T 38 (d := d_read_wish) (N := ["word"]) (ps := ["word"]) rfl rfl sc_read_wish (fun _ _ _ _ _ _ us hl => match us, hl with | [_], _ => rfl) (fun vs H Q E h => ?_) (fun f cdv A outer σ0 H vs Q E hr h => ?_)
  · obtain ⟨s, rfl, _⟩ := h; rfl
  · obtain ⟨s, rfl, hw, k⟩ := h
    refine ⟨_, (pss_cons (ps_if (pt_cmpR op_eq (pv 0) pe_str (nomark _)) (pss_one (ps_ret pe_non)) pss_nil)
      (pss_one (ps_ret (pe_cgK K rfl G_read_state (hr.mono (by decide)) (T.glo 31) (pa_cons (pv 0) pa_nil))))), ?_⟩
    cases s with
    | none =>
      walk_at "rd"
      refine iteT ?_
      walk_at "rd"
      exact k
    | some s =>
      obtain ⟨h0, h7⟩ := id hw
      walk_at "rd"
      rw [decide_eq_false (star_ne hw)]
      walk_at "rd"
      exact ⟨s, rfl, hw, k⟩
end
end JF

/-! ### rules: reading texts -/
namespace JF
open PySem PySem.Spec PyProof.Rows L2
theorem len_tx (l : List Nat) : (tx l).length = l.length := TL.len_tl _
theorem cut2 {l : List Nat} : cutS (tx l) (some 2) none = tx (l.drop 2) := by
  refine TL.ext_tl ?_
  have e1 : HT.sIx (tx l).length 0 (some 2) = min 2 (tx l).length := HT.sIx_nat _ _ 2
  have e2 : HT.sIx (tx l).length (tx l).length none = (tx l).length := rfl
  unfold cutS
  rw [e1, e2, len_tx]
  show (l.drop (min 2 l.length)).take (l.length - min 2 l.length) = l.drop 2
  rcases Nat.lt_or_ge l.length 2 with h | h
  · rw [List.drop_eq_nil_of_le (by omega), List.drop_eq_nil_of_le (by omega)]; simp
  · rw [Nat.min_eq_left h, List.take_of_length_le (by rw [List.length_drop]; exact Nat.le_refl _)]
theorem cut_mid (a b : V) (m : List V) : cutV (a :: (m ++ [b])) (some 1) (some (-1)) = m := by
  have n : (a :: (m ++ [b])).length = m.length + 2 := by simp
  have e1 : HT.sIx (a :: (m ++ [b])).length 0 (some 1) = min 1 (a :: (m ++ [b])).length := HT.sIx_nat _ _ 1
  have e2 : HT.sIx (a :: (m ++ [b])).length (a :: (m ++ [b])).length (some (-1)) = m.length + 1 := by
    show (if (-1 : Int) < 0 then ((-1 : Int) + ((a :: (m ++ [b])).length : Int)).toNat else min (-1 : Int).toNat (a :: (m ++ [b])).length) = _
    rw [if_pos (by decide), n]; omega
  unfold cutV
  rw [e1, e2, n]
  have e3 : min 1 (m.length + 2) = 1 := by omega
  rw [e3]
  show (m ++ [b]).take (m.length + 1 - 1) = m
  rw [Nat.add_sub_cancel, List.take_left]
theorem split_tx {y : Str} {s : Nat} {S : List Nat} (ey : TL.tl y = s :: S) (hk : y.cps.all (· < 256) = true) {ws : List (List Nat)} (hne : ws ≠ []) (hp : ∀ w ∈ ws, s ∉ w) : Txt.split (tx (TL.joinL (s :: S) ws)) y = ws.map tx := by
  have e : tx (TL.joinL (s :: S) ws) = Txt.join y (ws.map tx) := by
    refine TL.ext_tl ?_
    rw [TL.join_eq, TL.tl_join, ey, List.map_map]
    show TL.joinL (s :: S) ws = TL.joinL (s :: S) (ws.map fun w => w)
    rw [List.map_id']
  rw [e]
  refine TL.split_join ey hk (by simpa using hne) fun p hm => ?_
  obtain ⟨w, hw, rfl⟩ := List.mem_map.mp hm
  exact hp w hw
/-! what is new -/
def CondAtN (N : Addr → Prop) (K : PySem.W.Frag) (H : Hp) (v : V) : Cond → Prop
  | .amt s ns => ∃ p dx l, v = .ref p ∧ H p = some (.ins (He.ga K "Amount") dx [("state", .int s), ("numbers", .ref l)]) ∧ H l = some (.lst (ns.map V.int)) ∧ N p ∧ N l
  | .plc ws => ∃ p dx l, v = .ref p ∧ H p = some (.ins (He.ga K "Places") dx [("wanted", .ref l)]) ∧ H l = some (.lst (ws.map optV)) ∧ N p ∧ N l
theorem CondAtN.at {N : Addr → Prop} {K : PySem.W.Frag} {H : Hp} {v : V} {c : Cond} (h : CondAtN N K H v c) : CondAt K H v c := by
  cases c with
  | amt s ns => obtain ⟨p, dx, l, e, h1, h2, _⟩ := h; exact ⟨p, dx, l, e, h1, h2⟩
  | plc ws => obtain ⟨p, dx, l, e, h1, h2, _⟩ := h; exact ⟨p, dx, l, e, h1, h2⟩
theorem CondAtN.imp {N N' : Addr → Prop} {K : PySem.W.Frag} {H : Hp} {v : V} {c : Cond} (h : CondAtN N K H v c) (k : ∀ b, N b → N' b) : CondAtN N' K H v c := by
  cases c with
  | amt s ns => obtain ⟨p, dx, l, e, h1, h2, h3, h4⟩ := h; exact ⟨p, dx, l, e, h1, h2, k _ h3, k _ h4⟩
  | plc ws => obtain ⟨p, dx, l, e, h1, h2, h3, h4⟩ := h; exact ⟨p, dx, l, e, h1, h2, k _ h3, k _ h4⟩
theorem CondAtN.same {N : Addr → Prop} {K : PySem.W.Frag} {H H' : Hp} {v : V} {c : Cond} (h : CondAtN N K H v c) (s : Same H H') : CondAtN N K H' v c := by
  cases c with
  | amt st ns => obtain ⟨p, dx, l, e, h1, h2, h3, h4⟩ := h; exact ⟨p, dx, l, e, s _ _ h1, s _ _ h2, h3, h4⟩
  | plc ws => obtain ⟨p, dx, l, e, h1, h2, h3, h4⟩ := h; exact ⟨p, dx, l, e, s _ _ h1, s _ _ h2, h3, h4⟩
theorem CondAtN.upd {N : Addr → Prop} {K : PySem.W.Frag} {H : Hp} {v : V} {c : Cond} {D : Addr} {o : HO} (h : CondAtN N K H v c) (k : ∀ b, N b → b ≠ D) : CondAtN N K (L2.upd H D o) v c := by
  cases c with
  | amt st ns => obtain ⟨p, dx, l, e, h1, h2, h3, h4⟩ := h; exact ⟨p, dx, l, e, by rw [upd_ne (k _ h3)]; exact h1, by rw [upd_ne (k _ h4)]; exact h2, h3, h4⟩
  | plc ws => obtain ⟨p, dx, l, e, h1, h2, h3, h4⟩ := h; exact ⟨p, dx, l, e, by rw [upd_ne (k _ h3)]; exact h1, by rw [upd_ne (k _ h4)]; exact h2, h3, h4⟩
def ClaAtN (N : Addr → Prop) (K : PySem.W.Frag) (H : Hp) (v : V) (c : Cla) : Prop := ∃ p dx l ps, v = .ref p ∧ H p = some (.ins (He.ga K "Clause") dx [("taken", optV c.taken), ("conditions", .ref l), ("made", .int c.made)]) ∧ H l = some (.lst ps) ∧ N p ∧ N l ∧ AllV (CondAtN N K H) ps c.conds
theorem ClaAtN.at {N : Addr → Prop} {K : PySem.W.Frag} {H : Hp} {v : V} {c : Cla} (h : ClaAtN N K H v c) : ClaAt K H v c := by
  obtain ⟨p, dx, l, ps, e, h1, h2, _, _, h3⟩ := h
  exact ⟨p, dx, l, ps, e, h1, h2, h3.imp fun _ _ h => h.at⟩
theorem ClaAtN.imp {N N' : Addr → Prop} {K : PySem.W.Frag} {H : Hp} {v : V} {c : Cla} (h : ClaAtN N K H v c) (k : ∀ b, N b → N' b) : ClaAtN N' K H v c := by
  obtain ⟨p, dx, l, ps, e, h1, h2, h3, h4, h5⟩ := h
  exact ⟨p, dx, l, ps, e, h1, h2, k _ h3, k _ h4, h5.imp fun _ _ h => h.imp k⟩
theorem ClaAtN.same {N : Addr → Prop} {K : PySem.W.Frag} {H H' : Hp} {v : V} {c : Cla} (h : ClaAtN N K H v c) (s : Same H H') : ClaAtN N K H' v c := by
  obtain ⟨p, dx, l, ps, e, h1, h2, h3, h4, h5⟩ := h
  exact ⟨p, dx, l, ps, e, s _ _ h1, s _ _ h2, h3, h4, h5.imp fun _ _ h => h.same s⟩
theorem ClaAtN.upd {N : Addr → Prop} {K : PySem.W.Frag} {H : Hp} {v : V} {c : Cla} {D : Addr} {o : HO} (h : ClaAtN N K H v c) (k : ∀ b, N b → b ≠ D) : ClaAtN N K (L2.upd H D o) v c := by
  obtain ⟨p, dx, l, ps, e, h1, h2, h3, h4, h5⟩ := h
  exact ⟨p, dx, l, ps, e, by rw [upd_ne (k _ h3)]; exact h1, by rw [upd_ne (k _ h4)]; exact h2, h3, h4, h5.imp fun _ _ h => h.upd k⟩
theorem none_of {H H' : Hp} (s : Same H H') {b : Addr} (h : H' b = none) : H b = none := by
  cases e : H b with
  | none => rfl
  | some o => rw [s _ _ e] at h; cases h
theorem small_len16 {n : Nat} (h : n + 2 ≤ 16000000) : n + 2 ≤ sizeLine := by have := sizeBig; omega
section
variable {K : PySem.W.Frag} {σ : L2.St} {H : Hp} {Q : VK}
theorem rd_m1 {r : V → List V → Hp → VK → Prop} {ta tb : TE} (h : ta σ H fun x H1 => (∃ a, x = .str a) ∧ tb σ H1 fun y H2 => r x [y] H2 Q) : tM1 r ta tb σ H Q := h
theorem rd_st {z : Str} {R : Prop} (h : R) : (∃ a, V.str z = .str a) ∧ R := ⟨⟨z, rfl⟩, h⟩
theorem Same.put2 {H0 H : Hp} {p : Addr} {o : HO} (s : Same H0 H) (h : H0 p = none) : Same H0 (upd H p o) := fun b u e => by
  rw [upd_ne (ne_of_none e h)]; exact s b u e
end
section
variable {P : Program} {w : World} {K : PySem.W.Frag} {mg : Str → Option Value} {base : Heap}
def numT (ns : List Int) : List Nat := ns.map fun n => 48 + n.toNat
def sp_read_numbers : Sp := fun vs H Q _ => ∃ ns : List Int, vs = [.str (tx (numT ns))] ∧ (∀ n ∈ ns, 0 ≤ n ∧ n ≤ 8) ∧ ns.Pairwise (· < ·) ∧ ns.length ≤ 1000 ∧ ∀ H' l, Same H H' → H l = none → H' l = some (.lst (ns.map V.int)) → Q (.ref l) H'
theorem mp_read_numbers : MonP sp_read_numbers := fun vs H Q Q' E h ⟨ns, x1, x2, x3, x4, k⟩ => ⟨ns, x1, x2, x3, x4, fun H' l a b c => h _ _ (k H' l a b c)⟩
theorem ok_read_numbers (T : Env fa fn K mg) : Good P w K mg base CX0 1 ("read_numbers", none) ["word"] sp_read_numbers := by
  refine good_mk T 39 (d := d_read_numbers) (N := ["word", "numbers", "sign", "number"]) (ps := ["word"]) rfl rfl sc_read_numbers (fun _ _ _ _ _ _ us hl => match us, hl with | [_], _ => rfl) (fun vs H Q E h => ?_) (fun f cdv A outer σ0 H vs Q E hr h => ?_)
  · obtain ⟨ns, rfl, _⟩ := h; rfl
  · obtain ⟨ns, rfl, hn, hp, hl, k⟩ := h
    refine ⟨_, (pss_cons (ps_set (i := 1) sc_read_numbers.nd rfl (Or.inl rfl) (pe_lst pa_nil))
      (pss_cons (ps_for PassesOwn.never rfl (pi_str (pv 0)) (pg_name (i := 2) sc_read_numbers.nd rfl (Or.inl rfl)) (pss_cons (ps_if (pt_cmpR op_notIn_sign (pv 2) (pe_gstr (T.str 32) rfl) rfl) pss_never pss_nil)
      (pss_cons (ps_set (i := 3) sc_read_numbers.nd rfl (Or.inl rfl) (pe_callTy call_int_str (by rfl) (T.free 2) (by decide +kernel) (pa_cons (pv 2) pa_nil)))
      (pss_cons (ps_if (PW.pt (pw_and (pt_cmpR (op_neDK K rfl hr.units) (pv 1) (pe_lst pa_nil) (nomark _)) (pw_and1 (pt_cmpR op_le (pv 3) (pe_ix (ix_listK K rfl) (pv 1) (pe_un un_neg pe_int) (fun _ _ => rfl)) (nomark _))))) pss_never pss_nil)
      (pss_one (ps_expr (pe_bm PySem.F.plainAttrs_list PySem.F.slot_list_append PySem.F.type_list_append mt_append (pv 1) (pa_cons (pv 3) pa_nil))))))))
      (pss_one (ps_ret (pv 1))))), ?_⟩
    walk_at "rd"
    refine rd_new (hn := by show 0 ≤ sizeLine; decide) fun p hp0 => ?_
    have s0 := same_upd (o := .lst []) hp0
    walk_at "rd"
    refine ⟨_, rfl, ?_⟩
    refine for_it (walk_str (z := tx (numT ns))) (fun i σ H' => Same H H' ∧ H' p = some (.lst ((ns.take i).map V.int)) ∧ ∃ x2 x3 : Option V, σ = [some (.str (tx (numT ns))), some (.ref p), x2, x3]) ⟨s0, upd_same, none, none, rfl⟩ (fun _ _ _ _ _ => trivial) ?_ ?_
    · rintro i x σ Ha Hb hi ⟨s1, h1, x2, x3, rfl⟩ ⟨rfl, c, hc, rfl⟩
      have hi' : i < ns.length := by
        have e : (tx (numT ns)).cps.size = ns.length := by show (numT ns).toArray.size = _; simp [numT]
        omega
      have hc' : (numT ns)[i]? = some c := by rw [← hc]; show _ = (numT ns).toArray[i]?; simp
      have hni := hn ns[i] (List.getElem_mem hi')
      have ec : c = 48 + ns[i].toNat := by
        unfold numT at hc'
        rw [List.getElem?_map, at_get hi'] at hc'
        exact (Option.some.inj hc').symm
      subst ec
      walk_at "rd"
      refine ⟨_, _, rfl, rfl, ?_⟩
      rw [decide_eq_true (numbers_has (by omega) (by omega))]
      walk_at "rd"
      refine ⟨_, _, rfl, sign_digit ns[i].toNat (by omega), by show 1 ≤ 640; decide, ?_⟩
      have en : ((ns[i].toNat : Nat) : Int) = ns[i] := by omega
      rw [en]
      walk_at "rd"
      refine rd_new (hn := by show 0 ≤ sizeLine; decide) fun pe hpe => ?_
      have se := same_upd (o := .lst []) hpe
      refine rd_neLI (ns := ns.take i) (ms := []) (SqL.of (se _ _ h1)) (SqL.of upd_same) ?_
      have h1e := se _ _ h1
      have fin : ∀ (x2 x3 : Option V), Same H (upd (upd Hb pe (.lst [])) p (.lst ((ns.take i).map V.int ++ [V.int ns[i]]))) ∧ (upd (upd Hb pe (.lst [])) p (.lst ((ns.take i).map V.int ++ [V.int ns[i]]))) p = some (.lst ((ns.take (i + 1)).map V.int)) ∧ ∃ y2 y3 : Option V, [some (V.str (tx (numT ns))), some (.ref p), x2, x3] = [some (V.str (tx (numT ns))), some (.ref p), y2, y3] := fun x2 x3 => by
        refine ⟨Same.put2 (s1.trans se) hp0, ?_, _, _, rfl⟩
        rw [upd_same, take_snoc (at_get hi'), List.map_append]; rfl
      have hlen : ((ns.take i).map V.int).length < sizeLine := by rw [List.length_map, List.length_take]; have := sizeBig; omega
      by_cases z : ns.take i = []
      · rw [decide_eq_true z]
        walk_at "rd"
        refine rd_tyL h1e ?_
        walk_at "rd"
        refine rd_append h1e hlen ?_
        walk_at "rd"
        exact fin _ _
      · rw [decide_eq_false z]
        walk_at "rd"
        obtain ⟨j, hj⟩ : ∃ j, i = j + 1 := by
          cases i with
          | zero => exact absurd rfl z
          | succ j => exact ⟨j, rfl⟩
        subst hj
        have hjn : j < ns.length := by omega
        have et : ns.take (j + 1) = ns.take j ++ [ns[j]] := take_snoc (at_get hjn)
        refine rd_ixL (SqL.of h1e) (v := .int ns[j]) (by rw [et, List.map_append]; exact atI_last _ _) ?_
        walk_at "rd"
        have hlt : ns[j] < ns[j + 1] := (List.pairwise_iff_getElem.mp hp) j (j + 1) hjn hi' (by omega)
        rw [decide_eq_false (by omega)]
        walk_at "rd"
        refine rd_tyL h1e ?_
        walk_at "rd"
        refine rd_append h1e hlen ?_
        walk_at "rd"
        exact fin _ _
    · rintro σ H' ⟨s1, h1, x2, x3, rfl⟩
      walk_at "rd"
      have e : (tx (numT ns)).cps.size = ns.length := by show (numT ns).toArray.size = _; simp [numT]
      rw [e, List.take_length] at h1
      exact k _ _ s1 hp0 h1
def sp_read_condition (K : PySem.W.Frag) : Sp := fun vs H Q _ => ∃ c : Cond, vs = [.str (tx (condT c))] ∧ CondW c ∧ ∀ H' v, Same H H' → CondAtN (fun b => H b = none) K H' v c → Q v H'
theorem mp_read_condition : MonP (sp_read_condition K) := fun vs H Q Q' E h ⟨c, x1, x2, k⟩ => ⟨c, x1, x2, fun H' v a b => h _ _ (k H' v a b)⟩
theorem nums_le : ∀ {ns : List Int} {a : Int}, (∀ n ∈ ns, a ≤ n ∧ n ≤ 8) → ns.Pairwise (· < ·) → (ns.length : Int) ≤ 9 - a ∨ ns = []
  | [], a, _, _ => .inr rfl
  | [n], a, h, _ => by
    have := h n List.mem_cons_self
    left; simp; omega
  | n :: m :: ns, a, h, hp => by
    left
    have hn := h n List.mem_cons_self
    rw [List.pairwise_cons] at hp
    rcases nums_le (ns := m :: ns) (a := n + 1) (fun x hx => ⟨by have := hp.1 x hx; omega, (h x (List.mem_cons_of_mem _ hx)).2⟩) hp.2 with e | e
    · simp only [List.length_cons] at e ⊢; omega
    · cases e
theorem eq_sign {d : Nat} (h : d ≠ 61) : ¬ ((⟨#[d]⟩ : Str) = Str.ofString "=") := by
  intro e
  have e2 : (Str.ofString "=").cps.toList = [61] := by decide +kernel
  have e1 : ([d] : List Nat) = [61] := by rw [← e2, ← e]
  simp only [List.cons.injEq, and_true] at e1
  exact h e1
theorem wish_ne {s : Option Int} (h : WishW s) : wishT s ≠ 61 := by
  cases s with
  | none => decide
  | some s =>
    have z : St s := h
    show 48 + s.toNat ≠ 61
    unfold St at z
    omega
set_option maxHeartbeats 8000000 in
theorem ok_read_condition (T : Env fa fn K mg) : Good P w K mg base CX0 3 ("read_condition", none) ["word"] (sp_read_condition K) := by
  have G_read_state := ok_read_state (P := P) (w := w) (base := base) T
  have G_read_wish := ok_read_wish (P := P) (w := w) (base := base) T
  have G_read_numbers := ok_read_numbers (P := P) (w := w) (base := base) T
  have G_Amount_init := ok_amt_init (P := P) (w := w) (base := base) T
  have G_Places_init := ok_plc_init (P := P) (w := w) (base := base) T
  refine good_mk T 40 (d := d_read_condition) (N := ["word", "sign"]) (ps := ["word"]) rfl rfl sc_read_condition (fun _ _ _ _ _ _ us hl => match us, hl with | [_], _ => rfl) (fun vs H Q E h => ?_) (fun f cdv A outer σ0 H vs Q E hr h => ?_)
  · obtain ⟨c, rfl, _⟩ := h; rfl
  · obtain ⟨c, rfl, hc, k⟩ := h
    refine ⟨_, (pss_cons (ps_if (PW.pt (pw_and (pt_cmpR op_gt (pe_callB call_len_str (by rfl) (T.free 8) (by decide +kernel) (pa_cons (pv 0) pa_nil)) pe_int (nomark _)) (pw_and1 (pt_cmpR op_eq (pe_ix ix_str (pv 0) pe_int (fun _ _ => rfl)) pe_str (nomark _))))) (pss_one (ps_ret (pe_mkgK K rfl (T.mkr 33) G_Amount_init (hr.mono (by decide)) (T.glo 34) (pa_cons (pe_cgK K rfl G_read_state (hr.mono (by decide)) (T.glo 31) (pa_cons (pe_ix ix_str (pv 0) pe_int (fun _ _ => rfl)) pa_nil)) (pa_cons (pe_cgK K rfl G_read_numbers (hr.mono (by decide)) (T.glo 35) (pa_cons (pe_slice sl_str (pv 0) (po_some pe_int) po_none) pa_nil)) pa_nil))))) pss_nil)
      (pss_cons (ps_if (pt_cmpR op_ne (pe_callB call_len_str (by rfl) (T.free 8) (by decide +kernel) (pa_cons (pv 0) pa_nil)) pe_int (nomark _)) pss_never pss_nil)
      (pss_one (ps_ret (pe_mkgK K rfl (T.mkr 36) G_Places_init (hr.mono (by decide)) (T.glo 37) (pa_cons (pe_lc (own := [("sign", 1)]) (tt := tYes) rfl sc_read_condition.nd (pi_str (pv 0)) (blkOk_by (own := [("sign", 1)]) (N := ["word", "sign"]) (sc := defScope st_read_condition) (by decide +kernel)) (fun _ _ _ _ _ => by exact (pg_name (i := 1) sc_read_condition.nd rfl (Or.inl rfl))) (fun _ _ _ _ _ => by exact pts_nil) (fun _ _ _ _ _ => by exact (pe_cgK K rfl G_read_wish (hr.mono (by decide)) (T.glo 38) (pa_cons (pv 1) pa_nil)))) pa_nil)))))), ?_⟩
    cases c with
    | amt s ns =>
      obtain ⟨hs, hne, hn, hp⟩ := hc
      have hnl : ns.length ≤ 9 := by
        rcases nums_le hn hp with e | e
        · omega
        · rw [e]; simp
      have hl0 : 0 < ns.length := List.length_pos_iff.mpr hne
      have el : (tx (condT (.amt s ns))).length = ns.length + 2 := by rw [len_tx]; simp [condT]
      walk_at "rd"
      refine ⟨_, rfl, small_len (by rw [el]; omega), ?_⟩
      rw [el]
      walk_at "rd"
      rw [decide_eq_true (by omega)]
      walk_at "rd"
      refine ⟨_, _, 61, rfl, rfl, small_len (by rw [el]; omega), atI_nat (j := 1) rfl, ?_⟩
      walk_at "rd"
      refine iteT ?_
      walk_at "rd"
      refine rd_make ?_
      walk_at "rd"
      refine ⟨_, _, 48 + s.toNat, rfl, rfl, small_len (by rw [el]; omega), atI_nat (j := 0) rfl, ?_⟩
      walk_at "rd"
      refine ⟨s, rfl, hs, ?_⟩
      walk_at "rd"
      refine ⟨_, rfl, small_len (by rw [el]; omega), ?_⟩
      rw [cut2]
      walk_at "rd"
      refine ⟨ns, rfl, hn, hp, by omega, fun H2 l s2 hln hl => ?_⟩
      walk_at "rd"
      intro x dx hx hdx hne2
      refine ⟨x, dx, l, s, rfl, upd_same, rfl, ?_⟩
      have hlx : l ≠ x := ne_of_none hl hx
      have hldx : l ≠ dx := ne_of_none hl hdx
      refine k _ _ (s2.trans (Same.put2 (Same.put2 (made_same2 hx hdx) hx) hx)) ⟨x, dx, l, rfl, upd_same, ?_, none_of s2 hx, hln⟩
      rw [upd_ne hlx, upd_ne hlx, upd_ne hlx, upd_ne hldx]
      exact hl
    | plc ws =>
      obtain ⟨h8, hw⟩ := hc
      have el : (tx (condT (.plc ws))).length = 8 := by rw [len_tx]; show (ws.map wishT).length = 8; rw [List.length_map]; exact h8
      walk_at "rd"
      refine ⟨_, rfl, small_len (by rw [el]; decide), ?_⟩
      rw [el]
      walk_at "rd"
      refine iteT ?_
      walk_at "rd"
      have h1 : 1 < ws.length := by omega
      refine ⟨_, _, wishT ws[1], rfl, rfl, small_len (by rw [el]; decide), ?_, ?_⟩
      · refine atI_nat (j := 1) ?_
        show (ws.map wishT)[1]? = _
        rw [List.getElem?_map, at_get h1]; rfl
      walk_at "rd"
      rw [decide_eq_false (eq_sign (wish_ne (hw _ (List.getElem_mem h1))))]
      walk_at "rd"
      refine ⟨_, rfl, small_len (by rw [el]; decide), ?_⟩
      rw [el]
      walk_at "rd"
      refine iteF ?_
      walk_at "rd"
      refine rd_make ?_
      walk_at "rd"
      refine ⟨_, rfl, fun D hD => ?_⟩
      refine lc_it (walk_str (z := tx (ws.map wishT))) (fun i H' => H' = upd H D (.lst ((ws.take i).map optV))) rfl (fun _ _ _ _ => trivial) ?_ ?_
      · rintro i x Ha Hb hi rfl ⟨rfl, c, hcc, rfl⟩
        have hi' : i < ws.length := by
          have e : (tx (ws.map wishT)).cps.size = ws.length := by show (ws.map wishT).toArray.size = _; simp
          omega
        have hc' : (ws.map wishT)[i]? = some c := by rw [← hcc]; show _ = (ws.map wishT).toArray[i]?; simp
        rw [List.getElem?_map, at_get hi'] at hc'
        have ec : c = wishT ws[i] := (Option.some.inj hc').symm
        subst ec
        walk_at "rd"
        refine ⟨rfl, ?_⟩
        walk_at "rd"
        refine ⟨ws[i], rfl, hw _ (List.getElem_mem hi'), ?_⟩
        refine ⟨_, upd_same, ?_, ?_⟩
        · rw [List.length_map, List.length_take]; exact small1000 (by omega)
        · rw [upd_upd, take_snoc (at_get hi'), List.map_append]; rfl
      · rintro H2 rfl
        have e : (tx (ws.map wishT)).cps.size = ws.length := by show (ws.map wishT).toArray.size = _; simp
        rw [e, List.take_length]
        have sD := same_upd (o := .lst (ws.map optV)) hD
        walk_at "rd"
        intro x dx hx hdx hne2
        refine ⟨x, dx, D, rfl, upd_same, rfl, ?_⟩
        have hL : (upd H D (.lst (ws.map optV))) D = some (.lst (ws.map optV)) := upd_same
        have hlx : D ≠ x := ne_of_none hL hx
        have hldx : D ≠ dx := ne_of_none hL hdx
        refine k _ _ (sD.trans (Same.put2 (made_same2 hx hdx) hx)) ⟨x, dx, D, rfl, upd_same, ?_, none_of sD hx, hD⟩
        rw [upd_ne hlx, upd_ne hlx, upd_ne hldx]
        exact hL
/-! #### clauses -/
theorem claW_no {c : Cla} (h : ClaW c) : ∀ w ∈ claW c, (32 : Nat) ∉ w ∧ (59 : Nat) ∉ w := by
  have wish : ∀ s : Option Int, WishW s → wishT s ≠ 32 ∧ wishT s ≠ 59 := fun s hs => by
    cases s with
    | none => decide
    | some s =>
      have z : St s := hs
      unfold St at z
      show 48 + s.toNat ≠ 32 ∧ 48 + s.toNat ≠ 59
      omega
  obtain ⟨h1, h2, h3⟩ := h
  intro w hw
  unfold claW at hw
  rcases List.mem_cons.mp hw with rfl | hw
  · have := wish _ h1
    simp only [List.mem_singleton]
    exact ⟨Ne.symm this.1, Ne.symm this.2⟩
  · rcases List.mem_append.mp hw with hw | hw
    · obtain ⟨k, hk, rfl⟩ := List.mem_map.mp hw
      have hc := h2 k hk
      cases k with
      | amt s ns =>
        obtain ⟨hs, _, hn, _⟩ := hc
        unfold St at hs
        unfold condT
        simp only [List.mem_cons, List.mem_map, not_or, not_exists, not_and]
        refine ⟨⟨by omega, by decide, fun n hm => ?_⟩, ⟨by omega, by decide, fun n hm => ?_⟩⟩
        · have := hn n hm; omega
        · have := hn n hm; omega
      | plc ws =>
        obtain ⟨_, hs⟩ := hc
        unfold condT
        simp only [List.mem_map, not_exists, not_and]
        exact ⟨fun x hm => (wish x (hs x hm)).1, fun x hm => (wish x (hs x hm)).2⟩
    · rw [List.mem_singleton] at hw
      subst hw
      unfold St at h3
      simp only [List.mem_singleton]
      omega
theorem tl_space : TL.tl (Str.ofString " ") = [32] := by decide +kernel
theorem tl_semi : TL.tl (Str.ofString "; ") = [59, 32] := by decide +kernel
def sp_read_clause (K : PySem.W.Frag) : Sp := fun vs H Q _ => ∃ c : Cla, vs = [.str (tx (claT c))] ∧ ClaW c ∧ (claT c).length ≤ 100000 ∧ c.conds.length ≤ 1000 ∧ ∀ H' v, Same H H' → ClaAtN (fun b => H b = none) K H' v c → Q v H'
theorem mp_read_clause : MonP (sp_read_clause K) := fun vs H Q Q' E h ⟨c, x1, x2, x3, x4, k⟩ => ⟨c, x1, x2, x3, x4, fun H' v a b => h _ _ (k H' v a b)⟩
set_option maxHeartbeats 8000000 in
theorem ok_read_clause (T : Env fa fn K mg) : Good P w K mg base CX0 4 ("read_clause", none) ["part"] (sp_read_clause K) := by
  have G_read_state := ok_read_state (P := P) (w := w) (base := base) T
  have G_read_wish := ok_read_wish (P := P) (w := w) (base := base) T
  have G_read_condition := ok_read_condition (P := P) (w := w) (base := base) T
  have G_Clause_init := ok_cla_init (P := P) (w := w) (base := base) T
  refine good_mk T 41 (d := d_read_clause) (N := ["part", "words", "conditions", "word"]) (ps := ["part"]) rfl rfl sc_read_clause (fun _ _ _ _ _ _ us hl => match us, hl with | [_], _ => rfl) (fun vs H Q E h => ?_) (fun f cdv A outer σ0 H vs Q E hr h => ?_)
  · obtain ⟨c, rfl, _⟩ := h; rfl
  · obtain ⟨c, rfl, hc, hlen, hcl, k⟩ := h
    have hno := claW_no hc
    refine ⟨_, (pss_cons (ps_set (i := 1) sc_read_clause.nd rfl (Or.inl rfl) (pe_split (pv 0) pe_str))
      (pss_cons (ps_if (pt_cmpR op_lt (pe_callB (call_lenK K rfl) (by rfl) (T.free 8) (by decide +kernel) (pa_cons (pv 1) pa_nil)) pe_int (nomark _)) pss_never pss_nil)
      (pss_cons (ps_setLc (i := 2) (own := [("word", 3)]) (tt := tYes) rfl sc_read_clause.nd rfl rfl (sw_true rfl rfl rfl (by decide +kernel)) (pi_listK K rfl (pe_slice (sl_listK K rfl) (pv 1) (po_some pe_int) (po_some (pe_un un_neg pe_int)))) (blkOk_by (own := [("word", 3)]) (N := ["part", "words", "conditions", "word"]) (sc := defScope st_read_clause) (by decide +kernel)) (fun _ _ _ _ _ => by exact (pg_name (i := 3) sc_read_clause.nd rfl (Or.inl rfl))) (fun _ _ _ _ _ => by exact pts_nil) (fun _ _ _ _ _ => by exact (pe_cgK K rfl G_read_condition (hr.mono (by decide)) (T.glo 39) (pa_cons (pv 3) pa_nil))))
      (pss_one (ps_ret (pe_mkgK K rfl (T.mkr 40) G_Clause_init (hr.mono (by decide)) (T.glo 41) (pa_cons (pe_cgK K rfl G_read_wish (hr.mono (by decide)) (T.glo 38) (pa_cons (pe_ix (ix_listK K rfl) (pv 1) pe_int (fun _ _ => rfl)) pa_nil)) (pa_cons (pv 2) (pa_cons (pe_cgK K rfl G_read_state (hr.mono (by decide)) (T.glo 31) (pa_cons (pe_ix (ix_listK K rfl) (pv 1) (pe_un un_neg pe_int) (fun _ _ => rfl)) pa_nil)) pa_nil))))))))), ?_⟩
    walk_at "rd"
    refine rd_m1 ?_
    walk_at "rd"
    refine rd_st ?_
    walk_at "rd"
    refine ⟨_, _, rfl, rfl, by decide +kernel, small_len (by rw [len_tx]; omega), fun pw hpw => ?_⟩
    have esp : Txt.split (tx (claT c)) (Str.ofString " ") = (claW c).map tx := split_tx tl_space (by decide +kernel) (by simp [claW]) fun w hw => (hno w hw).1
    rw [esp]
    have eW : ((claW c).map tx).map V.str = V.str (tx [wishT c.taken]) :: ((c.conds.map fun k => V.str (tx (condT k))) ++ [V.str (tx [48 + c.made.toNat])]) := by
      simp [claW, List.map_map, Function.comp_def]
    rw [eW]
    have s1 := same_upd (o := .lst (V.str (tx [wishT c.taken]) :: ((c.conds.map fun k => V.str (tx (condT k))) ++ [V.str (tx [48 + c.made.toNat])]))) hpw
    have L1 : (upd H pw (.lst (V.str (tx [wishT c.taken]) :: ((c.conds.map fun k => V.str (tx (condT k))) ++ [V.str (tx [48 + c.made.toNat])])))) pw = some (.lst (V.str (tx [wishT c.taken]) :: ((c.conds.map fun k => V.str (tx (condT k))) ++ [V.str (tx [48 + c.made.toNat])]))) := upd_same
    generalize upd H pw (.lst (V.str (tx [wishT c.taken]) :: ((c.conds.map fun k => V.str (tx (condT k))) ++ [V.str (tx [48 + c.made.toNat])]))) = H1 at s1 L1 ⊢
    walk_at "rd"
    refine rd_len (SqL.of L1) ?_
    walk_at "rd"
    rw [decide_eq_false (by simp only [List.length_cons, List.length_append, List.length_map, List.length_nil]; omega)]
    walk_at "rd"
    refine ⟨pw, _, rfl, SqL.of L1, fun p2 hp2 => ?_⟩
    rw [show ((-(1 : Int))) = -1 from rfl, cut_mid]
    have s2 := same_upd (o := .lst (c.conds.map fun k => V.str (tx (condT k)))) hp2
    have L2 : (upd H1 p2 (.lst (c.conds.map fun k => V.str (tx (condT k))))) p2 = some (.lst (c.conds.map fun k => V.str (tx (condT k)))) := upd_same
    generalize upd H1 p2 (.lst (c.conds.map fun k => V.str (tx (condT k)))) = H2 at s2 L2 ⊢
    refine ⟨p2, rfl, ⟨_, SqL.of L2⟩, fun D hD => ?_⟩
    have sD := fun o => same_upd (o := o) hD
    refine lc_list (K := K) (xs := c.conds.map fun k => V.str (tx (condT k))) (fun i H' => Same H2 H' ∧ ∃ us, H' D = some (.lst us) ∧ AllV (CondAtN (fun b => b ≠ D ∧ H b = none) K H') us (c.conds.take i)) ?_ ?_ ?_ ?_
    · exact ⟨sD _, [], upd_same, trivial⟩
    · rintro i H' _ ⟨s3, _⟩
      exact SqL.of (s3 _ _ L2)
    · rintro i x H' hx ⟨s3, us, hus, hall⟩
      obtain ⟨kc, hk, rfl⟩ : ∃ kc, c.conds[i]? = some kc ∧ x = V.str (tx (condT kc)) := by
        rw [List.getElem?_map] at hx
        cases e : c.conds[i]? with
        | none => rw [e] at hx; cases hx
        | some y => rw [e] at hx; exact ⟨y, rfl, (Option.some.inj hx).symm⟩
      have hi := (List.getElem?_eq_some_iff.mp hk).1
      walk_at "rd"
      refine ⟨rfl, ?_⟩
      walk_at "rd"
      refine ⟨kc, rfl, hc.2.1 kc (List.mem_of_getElem? hk), fun H4 v s4 hv => ?_⟩
      have hus4 := s4 _ _ hus
      have t : Same H2 (upd H4 D (.lst (us ++ [v]))) := Same.put2 (s3.trans s4) hD
      have hv' : CondAtN (fun b => b ≠ D ∧ H b = none) K H4 v kc := hv.imp fun b hb => ⟨fun z => (by rw [z, hus] at hb; cases hb), none_of ((s1.trans s2).trans s3) hb⟩
      refine ⟨us, hus4, ?_, t, us ++ [v], upd_same, ?_⟩
      · have := hall.len
        rw [List.length_take] at this
        exact small1000 (by omega)
      · rw [take_snoc hk]
        exact ((hall.imp fun _ _ h => h.same s4).app hv').imp fun _ _ h => h.upd fun b hb => hb.1
    · rintro H3 ⟨s3, us, hus, hall⟩
      rw [List.length_map, List.take_length] at hall
      have L3 := s3 _ _ (s2 _ _ L1)
      walk_at "rd"
      refine rd_make ?_
      walk_at "rd"
      refine rd_ixL (SqL.of L3) (v := V.str (tx [wishT c.taken])) (atI_nat (j := 0) rfl) ?_
      walk_at "rd"
      refine ⟨c.taken, rfl, hc.1, ?_⟩
      walk_at "rd"
      refine rd_ixL (SqL.of L3) (v := V.str (tx [48 + c.made.toNat])) (atI_last (_ :: _) _) ?_
      walk_at "rd"
      refine ⟨c.made, rfl, hc.2.2, ?_⟩
      walk_at "rd"
      intro x dx hx hdx hne
      refine ⟨x, dx, D, c.taken, c.made, rfl, upd_same, fun H4 ho hx4 => ⟨rfl, ?_⟩⟩
      have s0 := (s1.trans s2).trans s3
      have s4 : Same H3 H4 := fun b o e => by
        rw [ho b (ne_of_none e hx), upd_ne (ne_of_none e hx), upd_ne (ne_of_none e hdx)]; exact e
      refine k _ _ (s0.trans s4) ⟨x, dx, D, us, rfl, hx4, s4 _ _ hus, none_of s0 hx, none_of (s1.trans s2) hD, (hall.imp fun _ _ h => (h.same s4).imp fun b hb => hb.2)⟩
/-! #### rules -/
def eights : List Int := [0, 0, 0, 0, 0, 0, 0, 0]
def RuleW (cs : List Cla) : Prop := (∀ c ∈ cs, ClaW c) ∧ (∀ c ∈ cs, (claT c).length ≤ 100000 ∧ c.conds.length ≤ 1000) ∧ cs.length ≤ 1000 ∧ (ruleT cs).length ≤ 10000000 ∧ ruleMakes cs 0 eights = 0
theorem RuleW.ok {cs : List Cla} (h : RuleW cs) : RuleOk cs := fun c hc k hk => ((h.1 c hc).2.1 k hk).ok
theorem joinL_pos {S : List Nat} {x : List Nat} (h : x ≠ []) (xs : List (List Nat)) : TL.joinL S (x :: xs) ≠ [] := by
  cases xs with
  | nil => exact h
  | cons y ys =>
    show x ++ _ ≠ []
    intro e
    exact h (List.append_eq_nil_iff.mp e).1
theorem claT_pos (c : Cla) : claT c ≠ [] := joinL_pos (by simp) _
theorem no_semi {c : Cla} (h : ClaW c) : (59 : Nat) ∉ claT c := by
  have hno := claW_no h
  have gen : ∀ ws : List (List Nat), (∀ w ∈ ws, (59 : Nat) ∉ w) → (59 : Nat) ∉ TL.joinL [32] ws := fun ws => by
    induction ws with
    | nil => intro _; simp [TL.joinL]
    | cons x ws ih =>
      intro hw
      cases ws with
      | nil => exact hw x List.mem_cons_self
      | cons y ys =>
        show (59 : Nat) ∉ x ++ ([32] ++ TL.joinL [32] (y :: ys))
        simp only [List.mem_append, List.mem_singleton, not_or]
        exact ⟨hw x List.mem_cons_self, by decide, ih fun w hw' => hw w (List.mem_cons_of_mem _ hw')⟩
  exact gen _ fun w hw => (hno w hw).2
def sp_read_rule (K : PySem.W.Frag) : Sp := fun vs H Q _ => ∃ cs : List Cla, vs = [.str (tx (ruleT cs))] ∧ RuleW cs ∧ ∀ H' v, Same H H' → RuleAt K H' v cs → Q v H'
theorem mp_read_rule : MonP (sp_read_rule K) := fun vs H Q Q' E h ⟨cs, x1, x2, k⟩ => ⟨cs, x1, x2, fun H' v a b => h _ _ (k H' v a b)⟩
def sp_rule_init (C : Addr) : Sp := fun vs H Q _ => ∃ (p dx l : Addr), vs = [.ref p, .ref l] ∧ H p = some (.ins C dx []) ∧ Q .non (upd H p (.ins C dx [("clauses", .ref l)]))
theorem ok_rule_init (T : Env fa fn K mg) : Good P w K mg base CX0 1 ("Rule", some "__init__") ["self", "clauses"] (sp_rule_init (He.ga K "Rule")) := by
  refine good_mk T 34 (d := d_Rule_init) (N := ["self", "clauses"]) (ps := ["self", "clauses"]) rfl rfl sc_Rule_init (fun _ _ _ _ _ _ us hl => match us, hl with | [_, _], _ => rfl) (fun vs H Q E h => ?_) (fun f cdv A outer σ0 H vs Q E hr h => ?_)
  · obtain ⟨p, dx, l, rfl, _⟩ := h; rfl
  · obtain ⟨p, dx, l, rfl, hp, k⟩ := h
    have cl := T.cls 97
    refine ⟨_, (pss_one (ps_fld (pv 0) (pv 1) rfl)), ?_⟩
    walk_at "rd"
    refine ⟨p, _, dx, [], rfl, hp, cl, T.noat 96, by decide, ?_⟩
    exact k
theorem isi_str {z : Str} {H : Hp} {Q : VK} (q : Q (.bl true) H) : rIsi K [.str z, .ty "str"] H Q := isi_ty (.base (.str z)) (by decide +kernel : kitB "str" "str" = some true) q
set_option maxHeartbeats 8000000 in
theorem ok_read_rule (T : Env fa fn K mg) : Good P w K mg base CX0 5 ("read_rule", none) ["text"] (sp_read_rule K) := by
  have G_read_clause := ok_read_clause (P := P) (w := w) (base := base) T
  have G_Rule_init := ok_rule_init (P := P) (w := w) (base := base) T
  have G_becomes := ok_becomes (P := P) (w := w) (base := base) T
  refine good_mk T 42 (d := d_read_rule) (N := ["text", "clauses", "rule", "part"]) (ps := ["text"]) rfl rfl sc_read_rule (fun _ _ _ _ _ _ us hl => match us, hl with | [_], _ => rfl) (fun vs H Q E h => ?_) (fun f cdv A outer σ0 H vs Q E hr h => ?_)
  · obtain ⟨cs, rfl, _⟩ := h; rfl
  · obtain ⟨cs, rfl, hR, k⟩ := h
    obtain ⟨hw, hlen, hcl, hrl, hz⟩ := id hR
    have mp1 := mp_read_clause (K := K)
    refine ⟨_, (pss_cons (ps_if (pt_not (pt_val (pe_callB (call_isiK K rfl) (by rfl) (T.free 1) (by decide +kernel) (pa_cons (pv 0) (pa_cons (pe_bltn (v := V.ty "str") rfl (T.free 42) (by decide +kernel) rfl) pa_nil))))) pss_never pss_nil)
      (pss_cons (ps_set (i := 1) sc_read_rule.nd rfl (Or.inl rfl) (pe_lst pa_nil))
      (pss_cons (ps_if (pt_cmpR op_ne (pv 0) pe_str (nomark _)) (pss_one (ps_setLc (i := 1) (own := [("part", 3)]) (tt := tYes) rfl sc_read_rule.nd rfl rfl (sw_true rfl rfl rfl (by decide +kernel)) (pi_listK K rfl (pe_split (pv 0) pe_str)) (blkOk_by (own := [("part", 3)]) (N := ["text", "clauses", "rule", "part"]) (sc := defScope st_read_rule) (by decide +kernel)) (fun _ _ _ _ _ => by exact (pg_name (i := 3) sc_read_rule.nd rfl (Or.inl rfl))) (fun _ _ _ _ _ => by exact pts_nil) (fun _ _ _ _ _ => by exact (pe_cgK K rfl G_read_clause (hr.mono (by decide)) (T.glo 43) (pa_cons (pv 3) pa_nil))))) pss_nil)
      (pss_cons (ps_set (i := 2) sc_read_rule.nd rfl (Or.inl rfl) (pe_mkgK K rfl (T.mkr 44) G_Rule_init (hr.mono (by decide)) (T.glo 45) (pa_cons (pv 1) pa_nil)))
      (pss_cons (ps_if (pt_cmpR op_ne (pe_cgK K rfl G_becomes (hr.mono (by decide)) (T.glo 46) (pa_cons (pv 2) (pa_cons pe_int (pa_cons (pe_lst (pa_cons pe_int (pa_cons pe_int (pa_cons pe_int (pa_cons pe_int (pa_cons pe_int (pa_cons pe_int (pa_cons pe_int (pa_cons pe_int pa_nil))))))))) pa_nil)))) pe_int (nomark _)) pss_never pss_nil)
      (pss_one (ps_ret (pv 2)))))))), ?_⟩
    walk_at "rd"
    refine isi_str ?_
    walk_at "rd"
    refine rd_new (hn := by show 0 ≤ sizeLine; decide) fun p0 hp0 => ?_
    have s0 := same_upd (o := .lst []) hp0
    have L0 : (upd H p0 (.lst [])) p0 = some (.lst []) := upd_same
    generalize upd H p0 (.lst []) = H0 at s0 L0 ⊢
    walk_at "rhi"
    refine rd_cut (fun σ H1 => ∃ (l : Addr) (us : List V) (x3 : Option V), σ = [some (.str (tx (ruleT cs))), some (.ref l), none, x3] ∧ Same H H1 ∧ H1 l = some (.lst us) ∧ AllV (ClaAt K H1) us cs) (by walk_at "mono") ?_ ?_
    · walk_at "rd"
      cases cs with
      | nil =>
        rw [show (decide ((tx (ruleT [])) = Str.ofString "")) = true from by decide +kernel]
        walk_at "rd"
        exact ⟨p0, [], none, rfl, s0, L0, trivial⟩
      | cons c cs =>
        have hne : ¬ (tx (ruleT (c :: cs)) = Str.ofString "") := fun e => by
          have e2 : (Str.ofString "").cps.toList = [] := by decide +kernel
          have e1 : ruleT (c :: cs) = [] := by rw [← e2, ← e]
          exact joinL_pos (claT_pos c) _ e1
        rw [decide_eq_false hne]
        walk_at "rd"
        refine rd_m1 ?_
        walk_at "rd"
        refine rd_st ?_
        walk_at "rd"
        refine ⟨_, _, rfl, rfl, by decide +kernel, small_len16 (by rw [len_tx]; omega), fun pw hpw => ?_⟩
        have esp : Txt.split (tx (ruleT (c :: cs))) (Str.ofString "; ") = ((c :: cs).map claT).map tx := split_tx tl_semi (by decide +kernel) (by simp) fun w hw' => by
          obtain ⟨d, hd, rfl⟩ := List.mem_map.mp hw'
          exact no_semi (hw d hd)
        rw [esp]
        have eW : (((c :: cs).map claT).map tx).map V.str = (c :: cs).map fun d => V.str (tx (claT d)) := by simp only [List.map_map, Function.comp_def]
        rw [eW]
        generalize hcs : c :: cs = ds at *
        have s2 := same_upd (o := .lst (ds.map fun d => V.str (tx (claT d)))) hpw
        have L2 : (upd H0 pw (.lst (ds.map fun d => V.str (tx (claT d))))) pw = some (.lst (ds.map fun d => V.str (tx (claT d)))) := upd_same
        generalize upd H0 pw (.lst (ds.map fun d => V.str (tx (claT d)))) = H2 at s2 L2 ⊢
        refine ⟨pw, rfl, ⟨_, SqL.of L2⟩, fun D hD => ?_⟩
        have sD := fun o => same_upd (o := o) hD
        refine lc_list (K := K) (xs := ds.map fun d => V.str (tx (claT d))) (fun i H' => Same H2 H' ∧ ∃ us, H' D = some (.lst us) ∧ AllV (ClaAtN (fun b => b ≠ D) K H') us (ds.take i)) ?_ ?_ ?_ ?_
        · exact ⟨sD _, [], upd_same, trivial⟩
        · rintro i H' _ ⟨s3, _⟩
          exact SqL.of (s3 _ _ L2)
        · rintro i x H' hx ⟨s3, us, hus, hall⟩
          obtain ⟨d, hk, rfl⟩ : ∃ d, ds[i]? = some d ∧ x = V.str (tx (claT d)) := by
            rw [List.getElem?_map] at hx
            cases e : ds[i]? with
            | none => rw [e] at hx; cases hx
            | some y => rw [e] at hx; exact ⟨y, rfl, (Option.some.inj hx).symm⟩
          have hi := (List.getElem?_eq_some_iff.mp hk).1
          have hm := List.mem_of_getElem? hk
          walk_at "rd"
          refine ⟨rfl, ?_⟩
          walk_at "rd"
          refine ⟨d, rfl, hw d hm, (hlen d hm).1, (hlen d hm).2, fun H4 v s4 hv => ?_⟩
          have hus4 := s4 _ _ hus
          have hv' : ClaAtN (fun b => b ≠ D) K H4 v d := hv.imp fun b hb z => by rw [z, hus] at hb; cases hb
          refine ⟨us, hus4, ?_, Same.put2 (s3.trans s4) hD, us ++ [v], upd_same, ?_⟩
          · have := hall.len
            rw [List.length_take] at this
            exact small1000 (by omega)
          · rw [take_snoc hk]
            exact ((hall.imp fun _ _ h => h.same s4).app hv').imp fun _ _ h => h.upd fun b hb => hb
        · rintro H3 ⟨s3, us, hus, hall⟩
          rw [List.length_map, List.take_length] at hall
          walk_at "rd"
          exact ⟨D, us, none, rfl, (s0.trans s2).trans s3, hus, hall.imp fun _ _ h => h.at⟩
    rintro σ H1 ⟨l, us, x3, rfl, s1, hl, hall⟩
    walk_at "rd"
    refine rd_make ?_
    walk_at "rd"
    intro x dx hx hdx hne
    refine ⟨x, dx, l, rfl, upd_same, rfl, ?_⟩
    have s2 : Same H1 (upd (upd (upd H1 dx (.own x)) x (.ins (He.ga K "Rule") dx [])) x (.ins (He.ga K "Rule") dx [("clauses", .ref l)])) := Same.put2 (made_same2 hx hdx) hx
    have hat : RuleAt K (upd (upd (upd H1 dx (.own x)) x (.ins (He.ga K "Rule") dx [])) x (.ins (He.ga K "Rule") dx [("clauses", .ref l)])) (.ref x) cs := ⟨x, dx, l, us, rfl, upd_same, s2 _ _ hl, hall.imp fun _ _ h => h.same s2⟩
    generalize upd (upd (upd H1 dx (.own x)) x (.ins (He.ga K "Rule") dx [])) x (.ins (He.ga K "Rule") dx [("clauses", .ref l)]) = H2 at s2 hat ⊢
    walk_at "rd"
    refine rd_new (hn := by show 8 ≤ sizeLine; decide) fun pz hpz => ?_
    have s3 := same_upd (o := .lst [V.int 0, V.int 0, V.int 0, V.int 0, V.int 0, V.int 0, V.int 0, V.int 0]) hpz
    walk_at "rd"
    refine ⟨_, pz, cs, 0, eights, rfl, hat.same s3, upd_same, rfl, hR.ok, fun H4 s4 => ?_⟩
    rw [hz]
    walk_at "rd"
    refine iteF ?_
    walk_at "rd"
    exact k _ _ (((s1.trans s2).trans s3).trans s4) ((hat.same s3).same s4)
end
end JF

/-! ### rules: helpers of the laws -/
namespace JF
open PySem PySem.Spec PyProof.Rows L2
theorem tl_tx (l : List Nat) : TL.tl (tx l) = l := rfl
theorem tl_int {d : Nat} (h : d < 10) : TL.tl (Str.ofString (toString (d : Int))) = [48 + d] := by rw [TL.tl_num, TL.numL_lt h]
theorem take_sign {t : Nat} (h : t < 9) : ((Str.ofString "01234567*").cps.toList)[t]? = some (if t = 8 then 42 else 48 + t) := by
  have e : (Str.ofString "01234567*").cps.toList = [48, 49, 50, 51, 52, 53, 54, 55, 42] := by decide +kernel
  rw [e]
  match t, h with
  | 0, _ => rfl
  | 1, _ => rfl
  | 2, _ => rfl
  | 3, _ => rfl
  | 4, _ => rfl
  | 5, _ => rfl
  | 6, _ => rfl
  | 7, _ => rfl
  | 8, _ => rfl
theorem add_ok {i j : Str} (h : (TL.tl i).length + (TL.tl j).length ≤ 1000000) : i.length + j.length ≤ sizeLine := by
  rw [TL.len_tl i, TL.len_tl j]
  exact small_len h
theorem log_ok {i : Int} (h : i.natAbs < 1000) : i.natAbs.log2 < 1920 := Nat.lt_of_le_of_lt (Nat.log2_le_self _) (by omega)
theorem sum_len : ∀ nu : List Int, (nu.map (List.length ∘ fun n : Int => [48 + n.toNat])).sum = nu.length
  | [] => rfl
  | n :: ns => by
    have ih := sum_len ns
    simp only [List.map_cons, List.sum_cons, ih, Function.comp_apply, List.length_cons, List.length_nil]
    omega
theorem join_one : ∀ nu : List Int, TL.joinL [] (nu.map fun n => [48 + n.toNat]) = numT nu
  | [] => rfl
  | [n] => rfl
  | n :: m :: ns => by
    show [48 + n.toNat] ++ ([] ++ TL.joinL [] ((m :: ns).map fun n => [48 + n.toNat])) = _
    rw [join_one (m :: ns)]; rfl
theorem rule_one (c : Cla) (cell : Int) (xs : List Int) : ruleMakes [c] cell xs = if c.fits cell xs = true then c.made else cell := by
  unfold ruleMakes firstFit
  by_cases h : c.fits cell xs = true
  · rw [if_pos h, if_pos h]; rfl
  · rw [if_neg h, if_neg h]; rfl
theorem fits_one (tk : Nat) (s m : Int) (nu : List Int) (cell : Int) (xs : List Int) : Cla.fits ⟨if tk = 8 then none else some (tk : Int), [.amt s nu], m⟩ cell xs = (decide ((tk : Int) = cell ∨ (tk : Int) = 8) && decide (((xs.count s : Nat) : Int) ∈ nu)) := by
  show (wishOk (if tk = 8 then none else some (tk : Int)) cell && ([Cond.amt s nu].all fun k => k.holds xs)) = _
  have e : ([Cond.amt s nu].all fun k => k.holds xs) = decide (((xs.count s : Nat) : Int) ∈ nu) := by simp [Cond.holds]
  rw [e]
  by_cases z : tk = 8
  · rw [if_pos z, decide_eq_true (by omega : (tk : Int) = cell ∨ (tk : Int) = 8)]; rfl
  · rw [if_neg z]
    show (decide ((tk : Int) = cell) && _) = _
    by_cases y : (tk : Int) = cell
    · rw [decide_eq_true y, decide_eq_true (Or.inl y)]
    · rw [decide_eq_false y, decide_eq_false (by omega : ¬ ((tk : Int) = cell ∨ (tk : Int) = 8))]
section
variable {P : Program} {w : World} {K : PySem.W.Frag} {mg : Str → Option Value} {base : Heap}
def sp_whole : Sp := fun vs H Q _ => ∃ x : V, vs = [x] ∧ ((∃ i, x = .int i) ∨ (∃ b, x = .bl b) ∨ (∃ z, x = .str z) ∨ x = .non) ∧ Q (.bl (wholeV x)) H
theorem mp_whole : MonP sp_whole := fun vs H Q Q' E h ⟨x, x1, x2, q⟩ => ⟨x, x1, x2, h _ _ q⟩
end
end JF

/-! ### rules, and that their lists are new -/
namespace JF
open PySem PySem.Spec PyProof.Rows L2
def RuleAtN (N : Addr → Prop) (K : PySem.W.Frag) (H : Hp) (v : V) (cs : List Cla) : Prop := ∃ p dx l ps, v = .ref p ∧ H p = some (.ins (He.ga K "Rule") dx [("clauses", .ref l)]) ∧ H l = some (.lst ps) ∧ N p ∧ N l ∧ AllV (ClaAtN N K H) ps cs
theorem RuleAtN.at {N : Addr → Prop} {K : PySem.W.Frag} {H : Hp} {v : V} {cs : List Cla} (h : RuleAtN N K H v cs) : RuleAt K H v cs := by
  obtain ⟨p, dx, l, ps, e, h1, h2, _, _, h3⟩ := h
  exact ⟨p, dx, l, ps, e, h1, h2, h3.imp fun _ _ h => h.at⟩
theorem RuleAtN.imp {N N' : Addr → Prop} {K : PySem.W.Frag} {H : Hp} {v : V} {cs : List Cla} (h : RuleAtN N K H v cs) (k : ∀ b, N b → N' b) : RuleAtN N' K H v cs := by
  obtain ⟨p, dx, l, ps, e, h1, h2, h3, h4, h5⟩ := h
  exact ⟨p, dx, l, ps, e, h1, h2, k _ h3, k _ h4, h5.imp fun _ _ h => h.imp k⟩
theorem RuleAtN.same {N : Addr → Prop} {K : PySem.W.Frag} {H H' : Hp} {v : V} {cs : List Cla} (h : RuleAtN N K H v cs) (s : Same H H') : RuleAtN N K H' v cs := by
  obtain ⟨p, dx, l, ps, e, h1, h2, h3, h4, h5⟩ := h
  exact ⟨p, dx, l, ps, e, s _ _ h1, s _ _ h2, h3, h4, h5.imp fun _ _ h => h.same s⟩
/-- what stands in a heap is kept where only other addresses are written -/
theorem CondAtN.fr {N : Addr → Prop} {K : PySem.W.Frag} {H H' : Hp} {v : V} {c : Cond} {S : List Addr} (h : CondAtN N K H v c) (f : Fr S H H') (k : ∀ b, N b → b ∉ S) : CondAtN N K H' v c := by
  cases c with
  | amt s ns => obtain ⟨p, dx, l, e, h1, h2, h3, h4⟩ := h; exact ⟨p, dx, l, e, f _ _ h1 (k _ h3), f _ _ h2 (k _ h4), h3, h4⟩
  | plc ws => obtain ⟨p, dx, l, e, h1, h2, h3, h4⟩ := h; exact ⟨p, dx, l, e, f _ _ h1 (k _ h3), f _ _ h2 (k _ h4), h3, h4⟩
theorem ClaAtN.fr {N : Addr → Prop} {K : PySem.W.Frag} {H H' : Hp} {v : V} {c : Cla} {S : List Addr} (h : ClaAtN N K H v c) (f : Fr S H H') (k : ∀ b, N b → b ∉ S) : ClaAtN N K H' v c := by
  obtain ⟨p, dx, l, ps, e, h1, h2, h3, h4, h5⟩ := h
  exact ⟨p, dx, l, ps, e, f _ _ h1 (k _ h3), f _ _ h2 (k _ h4), h3, h4, h5.imp fun _ _ h => h.fr f k⟩
theorem RuleAtN.fr {N : Addr → Prop} {K : PySem.W.Frag} {H H' : Hp} {v : V} {cs : List Cla} {S : List Addr} (h : RuleAtN N K H v cs) (f : Fr S H H') (k : ∀ b, N b → b ∉ S) : RuleAtN N K H' v cs := by
  obtain ⟨p, dx, l, ps, e, h1, h2, h3, h4, h5⟩ := h
  exact ⟨p, dx, l, ps, e, f _ _ h1 (k _ h3), f _ _ h2 (k _ h4), h3, h4, h5.imp fun _ _ h => h.fr f k⟩
section
variable {P : Program} {w : World} {K : PySem.W.Frag} {mg : Str → Option Value} {base : Heap}
def sp_read_ruleN (K : PySem.W.Frag) : Sp := fun vs H Q _ => ∃ cs : List Cla, vs = [.str (tx (ruleT cs))] ∧ RuleW cs ∧ ∀ H' v, Same H H' → RuleAtN (fun b => H b = none) K H' v cs → Q v H'
theorem mp_read_ruleN : MonP (sp_read_ruleN K) := fun vs H Q Q' E h ⟨cs, x1, x2, k⟩ => ⟨cs, x1, x2, fun H' v a b => h _ _ (k H' v a b)⟩
set_option maxHeartbeats 8000000 in
theorem ok_read_ruleN (T : Env fa fn K mg) : Good P w K mg base CX0 5 ("read_rule", none) ["text"] (sp_read_ruleN K) := by
  have G_read_clause := ok_read_clause (P := P) (w := w) (base := base) T
  have G_Rule_init := ok_rule_init (P := P) (w := w) (base := base) T
  have G_becomes := ok_becomes (P := P) (w := w) (base := base) T
  refine good_mk T 42 (d := d_read_rule) (N := ["text", "clauses", "rule", "part"]) (ps := ["text"]) rfl rfl sc_read_rule (fun _ _ _ _ _ _ us hl => match us, hl with | [_], _ => rfl) (fun vs H Q E h => ?_) (fun f cdv A outer σ0 H vs Q E hr h => ?_)
  · obtain ⟨cs, rfl, _⟩ := h; rfl
  · obtain ⟨cs, rfl, hR, k⟩ := h
    obtain ⟨hw, hlen, hcl, hrl, hz⟩ := id hR
    have mp1 := mp_read_clause (K := K)
    refine ⟨_, (pss_cons (ps_if (pt_not (pt_val (pe_callB (call_isiK K rfl) (by rfl) (T.free 1) (by decide +kernel) (pa_cons (pv 0) (pa_cons (pe_bltn (v := V.ty "str") rfl (T.free 42) (by decide +kernel) rfl) pa_nil))))) pss_never pss_nil)
      (pss_cons (ps_set (i := 1) sc_read_rule.nd rfl (Or.inl rfl) (pe_lst pa_nil))
      (pss_cons (ps_if (pt_cmpR op_ne (pv 0) pe_str (nomark _)) (pss_one (ps_setLc (i := 1) (own := [("part", 3)]) (tt := tYes) rfl sc_read_rule.nd rfl rfl (sw_true rfl rfl rfl (by decide +kernel)) (pi_listK K rfl (pe_split (pv 0) pe_str)) (blkOk_by (own := [("part", 3)]) (N := ["text", "clauses", "rule", "part"]) (sc := defScope st_read_rule) (by decide +kernel)) (fun _ _ _ _ _ => by exact (pg_name (i := 3) sc_read_rule.nd rfl (Or.inl rfl))) (fun _ _ _ _ _ => by exact pts_nil) (fun _ _ _ _ _ => by exact (pe_cgK K rfl G_read_clause (hr.mono (by decide)) (T.glo 43) (pa_cons (pv 3) pa_nil))))) pss_nil)
      (pss_cons (ps_set (i := 2) sc_read_rule.nd rfl (Or.inl rfl) (pe_mkgK K rfl (T.mkr 44) G_Rule_init (hr.mono (by decide)) (T.glo 45) (pa_cons (pv 1) pa_nil)))
      (pss_cons (ps_if (pt_cmpR op_ne (pe_cgK K rfl G_becomes (hr.mono (by decide)) (T.glo 46) (pa_cons (pv 2) (pa_cons pe_int (pa_cons (pe_lst (pa_cons pe_int (pa_cons pe_int (pa_cons pe_int (pa_cons pe_int (pa_cons pe_int (pa_cons pe_int (pa_cons pe_int (pa_cons pe_int pa_nil))))))))) pa_nil)))) pe_int (nomark _)) pss_never pss_nil)
      (pss_one (ps_ret (pv 2)))))))), ?_⟩
    walk_at "rd"
    refine isi_str ?_
    walk_at "rd"
    refine rd_new (hn := by show 0 ≤ sizeLine; decide) fun p0 hp0 => ?_
    have s0 := same_upd (o := .lst []) hp0
    have L0 : (upd H p0 (.lst [])) p0 = some (.lst []) := upd_same
    generalize upd H p0 (.lst []) = H0 at s0 L0 ⊢
    walk_at "rhi"
    refine rd_cut (fun σ H1 => ∃ (l : Addr) (us : List V) (x3 : Option V), σ = [some (.str (tx (ruleT cs))), some (.ref l), none, x3] ∧ Same H H1 ∧ H1 l = some (.lst us) ∧ H l = none ∧ AllV (ClaAtN (fun b => H b = none) K H1) us cs) (by walk_at "mono") ?_ ?_
    · walk_at "rd"
      cases cs with
      | nil =>
        rw [show (decide ((tx (ruleT [])) = Str.ofString "")) = true from by decide +kernel]
        walk_at "rd"
        exact ⟨p0, [], none, rfl, s0, L0, hp0, trivial⟩
      | cons c cs =>
        have hne : ¬ (tx (ruleT (c :: cs)) = Str.ofString "") := fun e => by
          have e2 : (Str.ofString "").cps.toList = [] := by decide +kernel
          have e1 : ruleT (c :: cs) = [] := by rw [← e2, ← e]
          exact joinL_pos (claT_pos c) _ e1
        rw [decide_eq_false hne]
        walk_at "rd"
        refine rd_m1 ?_
        walk_at "rd"
        refine rd_st ?_
        walk_at "rd"
        refine ⟨_, _, rfl, rfl, by decide +kernel, small_len16 (by rw [len_tx]; omega), fun pw hpw => ?_⟩
        have esp : Txt.split (tx (ruleT (c :: cs))) (Str.ofString "; ") = ((c :: cs).map claT).map tx := split_tx tl_semi (by decide +kernel) (by simp) fun w hw' => by
          obtain ⟨d, hd, rfl⟩ := List.mem_map.mp hw'
          exact no_semi (hw d hd)
        rw [esp]
        have eW : (((c :: cs).map claT).map tx).map V.str = (c :: cs).map fun d => V.str (tx (claT d)) := by simp only [List.map_map, Function.comp_def]
        rw [eW]
        generalize hcs : c :: cs = ds at *
        have s2 := same_upd (o := .lst (ds.map fun d => V.str (tx (claT d)))) hpw
        have L2 : (upd H0 pw (.lst (ds.map fun d => V.str (tx (claT d))))) pw = some (.lst (ds.map fun d => V.str (tx (claT d)))) := upd_same
        generalize upd H0 pw (.lst (ds.map fun d => V.str (tx (claT d)))) = H2 at s2 L2 ⊢
        refine ⟨pw, rfl, ⟨_, SqL.of L2⟩, fun D hD => ?_⟩
        have sD := fun o => same_upd (o := o) hD
        refine lc_list (K := K) (xs := ds.map fun d => V.str (tx (claT d))) (fun i H' => Same H2 H' ∧ ∃ us, H' D = some (.lst us) ∧ AllV (ClaAtN (fun b => b ≠ D ∧ H b = none) K H') us (ds.take i)) ?_ ?_ ?_ ?_
        · exact ⟨sD _, [], upd_same, trivial⟩
        · rintro i H' _ ⟨s3, _⟩
          exact SqL.of (s3 _ _ L2)
        · rintro i x H' hx ⟨s3, us, hus, hall⟩
          obtain ⟨d, hk, rfl⟩ : ∃ d, ds[i]? = some d ∧ x = V.str (tx (claT d)) := by
            rw [List.getElem?_map] at hx
            cases e : ds[i]? with
            | none => rw [e] at hx; cases hx
            | some y => rw [e] at hx; exact ⟨y, rfl, (Option.some.inj hx).symm⟩
          have hi := (List.getElem?_eq_some_iff.mp hk).1
          have hm := List.mem_of_getElem? hk
          walk_at "rd"
          refine ⟨rfl, ?_⟩
          walk_at "rd"
          refine ⟨d, rfl, hw d hm, (hlen d hm).1, (hlen d hm).2, fun H4 v s4 hv => ?_⟩
          have hus4 := s4 _ _ hus
          have hv' : ClaAtN (fun b => b ≠ D ∧ H b = none) K H4 v d := hv.imp fun b hb => ⟨(fun z => by rw [z, hus] at hb; cases hb), none_of ((s0.trans s2).trans s3) hb⟩
          refine ⟨us, hus4, ?_, Same.put2 (s3.trans s4) hD, us ++ [v], upd_same, ?_⟩
          · have := hall.len
            rw [List.length_take] at this
            exact small1000 (by omega)
          · rw [take_snoc hk]
            exact ((hall.imp fun _ _ h => h.same s4).app hv').imp fun _ _ h => h.upd fun b hb => hb.1
        · rintro H3 ⟨s3, us, hus, hall⟩
          rw [List.length_map, List.take_length] at hall
          walk_at "rd"
          exact ⟨D, us, none, rfl, (s0.trans s2).trans s3, hus, none_of (s0.trans s2) hD, hall.imp fun _ _ h => h.imp fun b hb => hb.2⟩
    rintro σ H1 ⟨l, us, x3, rfl, s1, hl, hln, hall⟩
    walk_at "rd"
    refine rd_make ?_
    walk_at "rd"
    intro x dx hx hdx hne
    refine ⟨x, dx, l, rfl, upd_same, rfl, ?_⟩
    have s2 : Same H1 (upd (upd (upd H1 dx (.own x)) x (.ins (He.ga K "Rule") dx [])) x (.ins (He.ga K "Rule") dx [("clauses", .ref l)])) := Same.put2 (made_same2 hx hdx) hx
    have hat : RuleAtN (fun b => H b = none) K (upd (upd (upd H1 dx (.own x)) x (.ins (He.ga K "Rule") dx [])) x (.ins (He.ga K "Rule") dx [("clauses", .ref l)])) (.ref x) cs := ⟨x, dx, l, us, rfl, upd_same, s2 _ _ hl, none_of s1 hx, hln, hall.imp fun _ _ h => h.same s2⟩
    generalize upd (upd (upd H1 dx (.own x)) x (.ins (He.ga K "Rule") dx [])) x (.ins (He.ga K "Rule") dx [("clauses", .ref l)]) = H2 at s2 hat ⊢
    walk_at "rd"
    refine rd_new (hn := by show 8 ≤ sizeLine; decide) fun pz hpz => ?_
    have s3 := same_upd (o := .lst [V.int 0, V.int 0, V.int 0, V.int 0, V.int 0, V.int 0, V.int 0, V.int 0]) hpz
    walk_at "rd"
    refine ⟨_, pz, cs, 0, eights, rfl, (hat.same s3).at, upd_same, rfl, hR.ok, fun H4 s4 => ?_⟩
    rw [hz]
    walk_at "rd"
    refine iteF ?_
    walk_at "rd"
    exact k _ _ (((s1.trans s2).trans s3).trans s4) ((hat.same s3).same s4)
end
end JF

/-! ### products of numbers below 2 ^ 64 -/
namespace JF
open PySem PySem.Spec PyProof.Rows L2
theorem mul64 {a b : Int} (h0 : 0 ≤ a) (h1 : a < 2 ^ 64) (h2 : 0 ≤ b) (h3 : b < 2 ^ 64) : CMulW a b := by
  have e1 : (2 : Int) ^ 64 ≤ 2 ^ 2000 := by decide +kernel
  exact mulW_of (by omega) (by omega) (by omega) (by omega)
end JF

/-! ### jumps: squares of four by four cells -/
namespace JF
open PySem PySem.Spec PyProof.Rows L2
theorem GAt.muts_some {C : Addr} {H : Hp} {a : GA} {rows : List (Int × Addr)} {q : List Sq} (G : GAt C H a rows q) {b : Addr} (h : b ∈ a.muts rows) : ∃ o, H b = some o ∧ ¬ HO.still o := by
  cases e : H b with
  | none => exact absurd h (G.new_out e)
  | some o =>
    refine ⟨o, rfl, fun z => ?_⟩
    obtain ⟨tups, mk, spt, D⟩ := G.da
    unfold GA.muts GA.m5 at h
    simp only [List.cons_append, List.nil_append, List.mem_cons, List.mem_map] at h
    rcases h with rfl | rfl | rfl | rfl | rfl | rfl | ⟨sa, hm, rfl⟩
    · rw [D.hn] at e; cases e; exact z
    · rw [D.hm] at e; cases e; exact z
    · rw [D.hl] at e; cases e; exact z
    · rw [D.hv] at e; cases e; exact z
    · rw [D.hs] at e; cases e; exact z
    · rw [G.pl] at e; cases e; exact z
    · obtain ⟨ns, e', _⟩ := G.ro sa.1 sa.2 hm
      rw [e'] at e; cases e; exact z
theorem GAt.ins_out {C C' : Addr} {H : Hp} {a : GA} {rows : List (Int × Addr)} {q : List Sq} (G : GAt C H a rows q) {p dx : Addr} {fl : List (Str × V)} (h : H p = some (.ins C' dx fl)) : p ∉ a.muts rows := fun z => by
  obtain ⟨o, e, n⟩ := G.muts_some z
  rw [h] at e; cases e; exact n trivial
theorem GStep.of5 {C : Addr} {H H' : Hp} {a : GA} {rows : List (Int × Addr)} {q q' : List Sq} (G : GAt C H' a rows q') (p : q <+: q') (f : Fr a.m5 H H') : GStep C H a rows q H' rows q' := ⟨G, p, f.mono fun b h => List.mem_append_left _ h, fun _ h => .inl h⟩
/-- a square's cells four by four, row by row -/
def six : Sq → List Sq
  | .node (.node a1 a2 a3 a4) (.node b1 b2 b3 b4) (.node c1 c2 c3 c4) (.node d1 d2 d3 d4) => [a1, a2, b1, b2, a3, a4, b3, b4, c1, c2, d1, d2, c3, c4, d3, d4]
  | _ => []
def lv : Sq → Int
  | .leaf s => s
  | _ => 0
def offs : List Int := [-5, -4, -3, -1, 1, 3, 4, 5]
/-- the surroundings of a cell among sixteen -/
def arL (xs : List Int) (n : Nat) : List Int := [xs.getD (n - 5) 0, xs.getD (n - 4) 0, xs.getD (n - 3) 0, xs.getD (n - 1) 0, xs.getD (n + 1) 0, xs.getD (n + 3) 0, xs.getD (n + 4) 0, xs.getD (n + 5) 0]
def stepL (cs : List Cla) (xs : List Int) (n : Nat) : Int := ruleMakes cs (xs.getD n 0) (arL xs n)
def stepSq (cs : List Cla) (S : Sq) : Sq := let xs := (six S).map lv; .node (.leaf (stepL cs xs 5)) (.leaf (stepL cs xs 6)) (.leaf (stepL cs xs 9)) (.leaf (stepL cs xs 10))
theorem makes_st {cs : List Cla} (hw : ∀ c ∈ cs, ClaW c) {cell : Int} (hc : St cell) (xs : List Int) : St (ruleMakes cs cell xs) := by
  unfold ruleMakes
  cases firstFit cell xs cs with
  | none => exact hc
  | some i =>
    show St ((cs[i]?.map Cla.made).getD cell)
    cases e : cs[i]? with
    | none => exact hc
    | some c => exact (hw c (List.mem_of_getElem? e)).2.2
/-- a tuple of a square's quarters -/
def QT (q : List Sq) (H : Hp) (t : Addr) (S : Sq) : Prop := ∃ (x y z u : Nat) (A B C D : Sq), S = .node A B C D ∧ H t = some (.tup [.int (x : Int), .int (y : Int), .int (z : Int), .int (u : Int)]) ∧ q[x]? = some A ∧ q[y]? = some B ∧ q[z]? = some C ∧ q[u]? = some D
theorem QT.keep {q : List Sq} {H H' : Hp} {t : Addr} {S : Sq} (h : QT q H t S) (k : Tup H H') : QT q H' t S := let ⟨x, y, z, u, A, B, C, D, e, h1, h2⟩ := h; ⟨x, y, z, u, A, B, C, D, e, k _ _ h1, h2⟩
section
variable {P : Program} {w : World} {K : PySem.W.Frag} {mg : Str → Option Value} {base : Heap}
def sp_sixteen (C : Addr) : Sp := fun vs H Q _ => ∃ (a : GA) (rows : List (Int × Addr)) (q : List Sq) (n : Nat) (S : Sq), vs = [.ref a.g, .int (n : Int)] ∧ GAt C H a rows q ∧ q[n]? = some S ∧ 2 ≤ S.level ∧ q.length ≤ 16000000 ∧
  ∀ H' l (ms : List Nat), Same H H' → H l = none → H' l = some (.lst (ms.map fun n : Nat => V.int (n : Int))) → ms.length = 16 → (∀ (i m : Nat) T, ms[i]? = some m → (six S)[i]? = some T → q[m]? = some T) → Q (.ref l) H'
theorem mp_sixteen {C : Addr} : MonP (sp_sixteen C) := fun vs H Q Q' E h ⟨a, rows, q, n, S, x1, x2, x3, x4, x5, k⟩ => ⟨a, rows, q, n, S, x1, x2, x3, x4, x5, fun H' l ms a b c d e => h _ _ (k H' l ms a b c d e)⟩
theorem ok_sixteen (T : Env fa fn K mg) : Good P w K mg base CX0 4 ("sixteen", none) ["grove", "square"] (sp_sixteen (CG K)) := by
  have G_Grove_quarters := ok_quarters (P := P) (w := w) (base := base) T
  refine good_mk T 43 (d := d_sixteen) (N := ["grove", "square", "four", "one", "at"]) (ps := ["grove", "square"]) rfl rfl sc_sixteen (fun _ _ _ _ _ _ us hl => match us, hl with | [_, _], _ => rfl) (fun vs H Q E h => ?_) (fun f cdv A outer σ0 H vs Q E hr h => ?_)
  · obtain ⟨a, rows, q, n, S, rfl, _⟩ := h; rfl
  · obtain ⟨a, rows, q, n, S, rfl, G, hn, l2, hq, k⟩ := h
    obtain ⟨a1, a2, a3, a4, b1, b2, b3, b4, c1, c2, c3, c4, d1, d2, d3, d4, rfl⟩ := Sq.mid_form (G.wf _ (List.mem_of_getElem? hn)) l2
    refine ⟨_, (pss_cons (ps_set (i := 2) sc_sixteen.nd rfl (Or.inr rfl) (pe_lc (own := [("one", 3)]) (tt := tYes) rfl sc_sixteen.nd (pi_tupK K rfl (pe_mgK K rfl (pv 0) (T.cls 9) (T.meth 21) G_Grove_quarters (hr.mono (by decide)) (pa_cons (pv 1) pa_nil))) (blkOk_by (own := [("one", 3)]) (N := ["grove", "square", "four", "one", "at"]) (sc := defScope st_sixteen) (by decide +kernel)) (fun _ _ _ _ _ => by exact (pg_name (i := 3) sc_sixteen.nd rfl (Or.inl rfl))) (fun _ _ _ _ _ => by exact pts_nil) (fun _ _ _ _ _ => by exact (pe_mgK K rfl (pv 0) (T.cls 9) (T.meth 21) G_Grove_quarters (hr.mono (by decide)) (pa_cons (pv 3) pa_nil)))))
      (pss_one (ps_ret (pe_lc (own := [("at", 4)]) (tt := tYes) rfl sc_sixteen.nd (pi_range1 (by rfl) (T.free 47) (pa_cons pe_int pa_nil)) (blkOk_by (own := [("at", 4)]) (N := ["grove", "square", "four", "one", "at"]) (sc := defScope st_sixteen) (by decide +kernel)) (fun _ _ _ _ _ => by exact (pg_name (i := 4) sc_sixteen.nd rfl (Or.inl rfl))) (fun _ _ _ _ _ => by exact pts_nil) (fun _ _ _ _ _ => by exact (pe_ix (ix_tupK K rfl) (pe_ix (ix_listK K rfl) (pv 2) (pe_op op_add (pe_op op_mulW (pe_op op_fdivW (pv 4) pe_int) pe_int) (pe_op op_fdivW (pe_op op_mod (pv 4) pe_int) pe_int)) (fun _ _ => rfl)) (pe_op op_add (pe_op op_mulW (pe_op op_mod (pe_op op_fdivW (pv 4) pe_int) pe_int) pe_int) (pe_op op_mod (pv 4) pe_int)) (fun _ _ => rfl))))))), ?_⟩
    walk_at "rd"
    refine rd_methR G.ob (by rfl) ?_
    walk_at "rd"
    refine ⟨a, rows, q, n, _, _, _, _, rfl, G, hn, hq, fun t x y z u ht hx hy hz hu => ?_⟩
    refine ⟨t, rfl, ⟨_, SqT.of ht⟩, fun D hD => ?_⟩
    refine lc_it (walk_tup (K := K) (a := t) (xs := [V.int (x : Int), .int (y : Int), .int (z : Int), .int (u : Int)])) (fun i H' => Same H H' ∧ ∃ ts : List Addr, H' D = some (.lst (ts.map V.ref)) ∧ ts.length = i ∧ ∀ (j : Nat) t S, ts[j]? = some t → [Sq.node a1 a2 a3 a4, .node b1 b2 b3 b4, .node c1 c2 c3 c4, .node d1 d2 d3 d4][j]? = some S → QT q H' t S) ⟨same_upd hD, [], upd_same, rfl, fun j t S e => by simp at e⟩ (fun i H' _ h => SqT.of (h.1 _ _ ht)) ?_ ?_
    · rintro i v Ha Hb hi ⟨s1, ts, LD, tl, hts⟩ ⟨rfl, hv⟩
      obtain ⟨m, A, B, C', D', rfl, hm, hs⟩ : ∃ (m : Nat) (A B C' D' : Sq), v = .int (m : Int) ∧ q[m]? = some (.node A B C' D') ∧ [Sq.node a1 a2 a3 a4, .node b1 b2 b3 b4, .node c1 c2 c3 c4, .node d1 d2 d3 d4][i]? = some (.node A B C' D') := by
        match i, hv with
        | 0, hv => exact ⟨x, _, _, _, _, (Option.some.inj hv).symm, hx, rfl⟩
        | 1, hv => exact ⟨y, _, _, _, _, (Option.some.inj hv).symm, hy, rfl⟩
        | 2, hv => exact ⟨z, _, _, _, _, (Option.some.inj hv).symm, hz, rfl⟩
        | 3, hv => exact ⟨u, _, _, _, _, (Option.some.inj hv).symm, hu, rfl⟩
      have G1 := G.same s1
      have hi4 : i < 4 := hi
      walk_at "rd"
      refine ⟨rfl, ?_⟩
      walk_at "rd"
      refine rd_methR G1.ob (by rfl) ?_
      walk_at "rd"
      refine ⟨a, rows, q, m, A, B, C', D', rfl, G1, hm, hq, fun t' x' y' z' u' ht' hx' hy' hz' hu' => ?_⟩
      refine ⟨_, LD, by rw [List.length_map]; exact small1000 (by omega), Same.put2 s1 hD, ts ++ [t'], ?_, by rw [List.length_append, tl]; rfl, fun j t2 S2 e1 e2 => ?_⟩
      · rw [upd_same, List.map_append]; rfl
      · have tu := Tup.put LD (.lst (ts.map V.ref ++ [V.ref t']))
        rcases Nat.lt_or_ge j ts.length with hj | hj
        · rw [List.getElem?_append_left hj] at e1
          exact (hts j t2 S2 e1 e2).keep tu
        · have hj' : j = ts.length := by
            have := (List.getElem?_eq_some_iff.mp e1).1
            rw [List.length_append] at this
            simp at this
            omega
          subst hj'
          rw [List.getElem?_append_right (Nat.le_refl _), Nat.sub_self] at e1
          cases e1
          rw [tl, hs] at e2
          cases e2
          exact QT.keep ⟨x', y', z', u', A, B, C', D', rfl, ht', hx', hy', hz', hu'⟩ tu
    rintro H2 ⟨s2, ts, LD, tl, hts⟩
    have tl4 : ts.length = 4 := tl
    walk_at "rd"
    refine ⟨16, rfl, by decide, by decide, fun E hE => ?_⟩
    refine lc_it (walk_r0 (n := 16)) (fun i H' => Same H2 H' ∧ ∃ ms : List Nat, H' E = some (.lst (ms.map fun n : Nat => V.int (n : Int))) ∧ ms.length = i ∧ ∀ (j m : Nat) T, ms[j]? = some m → (six (.node (.node a1 a2 a3 a4) (.node b1 b2 b3 b4) (.node c1 c2 c3 c4) (.node d1 d2 d3 d4)))[j]? = some T → q[m]? = some T) ⟨same_upd hE, [], upd_same, rfl, fun j m T e => by simp at e⟩ (fun _ _ _ _ => trivial) ?_ ?_
    · rintro i v Ha Hb hi ⟨s3, ms, LE, ml, hms⟩ ⟨rfl, rfl⟩
      obtain ⟨j1, hj1⟩ : ∃ j1 : Nat, j1 = i / 8 * 2 + i % 4 / 2 := ⟨_, rfl⟩
      obtain ⟨j2, hj2⟩ : ∃ j2 : Nat, j2 = i / 4 % 2 * 2 + i % 2 := ⟨_, rfl⟩
      have e1 : (i : Int) / 8 * 2 + (i : Int) % 4 / 2 = (j1 : Int) := by omega
      have e2 : (i : Int) / 4 % 2 * 2 + (i : Int) % 2 = (j2 : Int) := by omega
      have l1 : j1 < ts.length := by omega
      obtain ⟨S, hS⟩ : ∃ S, [Sq.node a1 a2 a3 a4, .node b1 b2 b3 b4, .node c1 c2 c3 c4, .node d1 d2 d3 d4][j1]? = some S := ⟨_, at_get (by show j1 < 4; omega)⟩
      obtain ⟨x1, y1, z1, u1, A, B, C', D', rfl, ht1, hx1, hy1, hz1, hu1⟩ := hts j1 _ S (at_get l1) hS
      obtain ⟨m, T', hat, hq4, hm⟩ : ∃ (m : Nat) (T' : Sq), atI [V.int (x1 : Int), .int (y1 : Int), .int (z1 : Int), .int (u1 : Int)] ((j2 : Nat) : Int) = some (.int (m : Int)) ∧ [A, B, C', D'][j2]? = some T' ∧ q[m]? = some T' := by
        have l2 : j2 < 4 := by omega
        match j2, l2 with
        | 0, _ => exact ⟨x1, A, atI_nat (j := 0) rfl, rfl, hx1⟩
        | 1, _ => exact ⟨y1, B, atI_nat (j := 1) rfl, rfl, hy1⟩
        | 2, _ => exact ⟨z1, C', atI_nat (j := 2) rfl, rfl, hz1⟩
        | 3, _ => exact ⟨u1, D', atI_nat (j := 3) rfl, rfl, hu1⟩
      have hsix : (six (.node (.node a1 a2 a3 a4) (.node b1 b2 b3 b4) (.node c1 c2 c3 c4) (.node d1 d2 d3 d4)))[i]? = some T' := by
        have hi16 : i < 16 := hi
        clear hms e1 e2 hat hm l1 ht1 hx1 hy1 hz1 hu1 ml
        subst hj1 hj2
        rcases (by omega : i = 0 ∨ i = 1 ∨ i = 2 ∨ i = 3 ∨ i = 4 ∨ i = 5 ∨ i = 6 ∨ i = 7 ∨ i = 8 ∨ i = 9 ∨ i = 10 ∨ i = 11 ∨ i = 12 ∨ i = 13 ∨ i = 14 ∨ i = 15) with rfl | rfl | rfl | rfl | rfl | rfl | rfl | rfl | rfl | rfl | rfl | rfl | rfl | rfl | rfl | rfl <;> (cases hS; cases hq4; rfl)
      walk_at "rd"
      refine ⟨rfl, ?_⟩
      have hi16 : i < 16 := hi
      walk_at "rd"
      refine rd_I (mul64 (by omega) (by omega) (by decide) (by decide)) ?_
      walk_at "rd"
      rw [e1]
      refine rd_ixL (SqL.of (s3 _ _ LD)) (atI_nat (map_get V.ref (at_get l1))) ?_
      walk_at "rd"
      refine rd_I (mul64 (by omega) (by omega) (by decide) (by decide)) ?_
      walk_at "rd"
      rw [e2]
      refine rd_ixT (SqT.of (s3 _ _ ht1)) hat ?_
      refine ⟨_, LE, by rw [List.length_map]; exact small1000 (by omega), Same.put2 s3 hE, ms ++ [m], ?_, by rw [List.length_append, ml]; rfl, fun j m' T2 e1 e2 => ?_⟩
      · rw [upd_same, List.map_append]; rfl
      · rcases Nat.lt_or_ge j ms.length with hj | hj
        · rw [List.getElem?_append_left hj] at e1
          exact hms j m' T2 e1 e2
        · have hj' : j = ms.length := by
            have := (List.getElem?_eq_some_iff.mp e1).1
            rw [List.length_append] at this
            simp at this
            omega
          subst hj'
          rw [List.getElem?_append_right (Nat.le_refl _), Nat.sub_self] at e1
          cases e1
          rw [ml, hsix] at e2
          cases e2
          exact hm
    rintro H3 ⟨s3, ms, LE, ml, hms⟩
    walk_at "rd"
    exact k _ E ms (s2.trans s3) (none_of s2 hE) LE ml hms
def sp_around_of : Sp := fun vs H Q _ => ∃ (p : Addr) (xs : List Int) (n : Nat), vs = [.ref p, .int (n : Int)] ∧ H p = some (.lst (xs.map V.int)) ∧ xs.length = 16 ∧ 5 ≤ n ∧ n ≤ 10 ∧ ∀ H' l, Same H H' → H' l = some (.lst ((arL xs n).map V.int)) → Q (.ref l) H'
theorem mp_around_of : MonP sp_around_of := fun vs H Q Q' E h ⟨p, xs, n, x1, x2, x3, x4, x5, k⟩ => ⟨p, xs, n, x1, x2, x3, x4, x5, fun H' l a b => h _ _ (k H' l a b)⟩
theorem ok_around_of (T : Env fa fn K mg) : Good P w K mg base CX0 1 ("around_of", none) ["states", "at"] sp_around_of := by
  refine good_mk T 46 (d := d_around_of) (N := ["states", "at", "off"]) (ps := ["states", "at"]) rfl rfl sc_around_of (fun _ _ _ _ _ _ us hl => match us, hl with | [_, _], _ => rfl) (fun vs H Q E h => ?_) (fun f cdv A outer σ0 H vs Q E hr h => ?_)
  · obtain ⟨p, xs, n, rfl, _⟩ := h; rfl
  · obtain ⟨p, xs, n, rfl, hp, hx, n5, n10, k⟩ := h
    refine ⟨_, (pss_one (ps_ret (pe_lc (own := [("off", 2)]) (tt := tYes) rfl sc_around_of.nd (pi_tupK K rfl (pe_tup (pa_cons (pe_un un_neg pe_int) (pa_cons (pe_un un_neg pe_int) (pa_cons (pe_un un_neg pe_int) (pa_cons (pe_un un_neg pe_int) (pa_cons pe_int (pa_cons pe_int (pa_cons pe_int (pa_cons pe_int pa_nil)))))))))) (blkOk_by (own := [("off", 2)]) (N := ["states", "at", "off"]) (sc := defScope st_around_of) (by decide +kernel)) (fun _ _ _ _ _ => by exact (pg_name (i := 2) sc_around_of.nd rfl (Or.inl rfl))) (fun _ _ _ _ _ => by exact pts_nil) (fun _ _ _ _ _ => by exact (pe_ix (ix_listK K rfl) (pv 0) (pe_op op_add (pv 1) (pv 2)) (fun _ _ => rfl)))))), ?_⟩
    walk_at "rd"
    refine rd_new (hn := by show 8 ≤ sizeLine; decide) fun t ht => ?_
    have s1 := same_upd (o := .tup [V.int (-5), V.int (-4), V.int (-3), V.int (-1), V.int 1, V.int 3, V.int 4, V.int 5]) ht
    have T1 : (upd H t (.tup [V.int (-5), V.int (-4), V.int (-3), V.int (-1), V.int 1, V.int 3, V.int 4, V.int 5])) t = some (.tup (offs.map V.int)) := upd_same
    have hp1 := s1 _ _ hp
    generalize upd H t (.tup [V.int (-5), V.int (-4), V.int (-3), V.int (-1), V.int 1, V.int 3, V.int 4, V.int 5]) = H1 at s1 T1 hp1 ⊢
    refine ⟨t, rfl, ⟨_, SqT.of T1⟩, fun D hD => ?_⟩
    refine lc_it (walk_tup (K := K) (a := t) (xs := offs.map V.int)) (fun i H' => Same H1 H' ∧ H' D = some (.lst (((arL xs n).take i).map V.int))) ⟨same_upd hD, upd_same⟩ (fun i H' _ h => SqT.of (h.1 _ _ T1)) ?_ ?_
    · rintro i v Ha Hb hi ⟨s2, LD⟩ ⟨rfl, hv⟩
      obtain ⟨o, m, y, rfl, hm, hy, ha⟩ : ∃ (o : Int) (m : Nat) (y : Int), v = .int o ∧ (n : Int) + o = (m : Int) ∧ xs[m]? = some y ∧ (arL xs n)[i]? = some y := by
        have gd : ∀ m : Nat, m < 16 → xs[m]? = some (xs.getD m 0) := fun m hm => by
          rw [List.getD_eq_getElem?_getD, at_get (show m < xs.length by omega)]; rfl
        match i, hv with
        | 0, hv => exact ⟨-5, n - 5, _, (Option.some.inj hv).symm, by omega, gd _ (by omega), rfl⟩
        | 1, hv => exact ⟨-4, n - 4, _, (Option.some.inj hv).symm, by omega, gd _ (by omega), rfl⟩
        | 2, hv => exact ⟨-3, n - 3, _, (Option.some.inj hv).symm, by omega, gd _ (by omega), rfl⟩
        | 3, hv => exact ⟨-1, n - 1, _, (Option.some.inj hv).symm, by omega, gd _ (by omega), rfl⟩
        | 4, hv => exact ⟨1, n + 1, _, (Option.some.inj hv).symm, by omega, gd _ (by omega), rfl⟩
        | 5, hv => exact ⟨3, n + 3, _, (Option.some.inj hv).symm, by omega, gd _ (by omega), rfl⟩
        | 6, hv => exact ⟨4, n + 4, _, (Option.some.inj hv).symm, by omega, gd _ (by omega), rfl⟩
        | 7, hv => exact ⟨5, n + 5, _, (Option.some.inj hv).symm, by omega, gd _ (by omega), rfl⟩
      have hi8 : i < 8 := hi
      walk_at "rd"
      refine ⟨rfl, ?_⟩
      walk_at "rd"
      rw [hm]
      refine rd_ixL (SqL.of (s2 _ _ hp1)) (atI_nat (map_get V.int hy)) ?_
      refine ⟨_, LD, by rw [List.length_map, List.length_take]; exact small1000 (by have : (arL xs n).length = 8 := rfl; omega), Same.put2 s2 hD, ?_⟩
      rw [upd_same, take_snoc ha, List.map_append]; rfl
    rintro H3 ⟨s3, LD⟩
    walk_at "rd"
    exact k _ D (s1.trans s3) LD
/-- the instance of Jumps -/
def HJ (K : PySem.W.Frag) (H : Hp) (p dx g : Addr) (vr : V) (dk : Addr) : Prop := H p = some (.ins (He.ga K "Jumps") dx [("grove", .ref g), ("rule", vr), ("known", .ref dk)])
def sp_jinit (K : PySem.W.Frag) : Sp := fun vs H Q _ => ∃ (p dx g : Addr) (vr : V), vs = [.ref p, .ref g, vr] ∧ H p = some (.ins (He.ga K "Jumps") dx []) ∧ ∀ H' dk, (∀ b, b ≠ p → b ≠ dk → H' b = H b) → H dk = none → H' dk = some (.dT []) → HJ K H' p dx g vr dk → Q .non H'
theorem mp_jinit : MonP (sp_jinit K) := fun vs H Q Q' E h ⟨p, dx, g, vr, x1, x2, k⟩ => ⟨p, dx, g, vr, x1, x2, fun H' dk a b c d => h _ _ (k H' dk a b c d)⟩
theorem ok_jinit (T : Env fa fn K mg) : Good P w K mg base CX0 1 ("Jumps", some "__init__") ["self", "grove", "rule"] (sp_jinit K) := by
  refine good_mk T 47 (d := d_Jumps_init) (N := ["self", "grove", "rule"]) (ps := ["self", "grove", "rule"]) rfl rfl sc_Jumps_init (fun _ _ _ _ _ _ us hl => match us, hl with | [_, _, _], _ => rfl) (fun vs H Q E h => ?_) (fun f cdv A outer σ0 H vs Q E hr h => ?_)
  · obtain ⟨p, dx, g, vr, rfl, _⟩ := h; rfl
  · obtain ⟨p, dx, g, vr, rfl, hp, k⟩ := h
    have cl := T.cls 53
    refine ⟨_, (pss_cons (ps_fld (pv 0) (pv 1) rfl)
      (pss_cons (ps_fld (pv 0) (pv 2) rfl)
      (pss_one (ps_fld (pv 0) pe_dnewT rfl)))), ?_⟩
    walk_at "rd"
    refine ⟨p, _, dx, [], rfl, hp, cl, T.noat 92, by decide, ?_⟩
    walk_at "rd"
    refine ⟨p, _, dx, _, rfl, upd_same, cl, T.noat 94, (by show 1 < 1000; decide), ?_⟩
    walk_at "rd"
    intro dk hdk
    have hpd : p ≠ dk := ne_of_none upd_same hdk
    have hdk0 : H dk = none := by
      rw [upd_ne hpd.symm, upd_ne hpd.symm] at hdk
      exact hdk
    walk_at "rd"
    refine ⟨p, _, dx, _, rfl, by rw [upd_ne hpd]; exact upd_same, cl, T.noat 93, (by show 2 < 1000; decide), ?_⟩
    exact k _ dk (fun b h1 h2 => by rw [upd_ne h1, upd_ne h2, upd_ne h1, upd_ne h1]) hdk0 (by rw [upd_ne hpd.symm]; exact upd_same) upd_same
def sp_change (K : PySem.W.Frag) : Sp := fun vs H Q _ => ∃ (p dx g dk0 : Addr) (vr0 vr : V), vs = [.ref p, vr] ∧ HJ K H p dx g vr0 dk0 ∧ ∀ H' dk, (∀ b, b ≠ p → b ≠ dk → H' b = H b) → H dk = none → H' dk = some (.dT []) → HJ K H' p dx g vr dk → Q .non H'
theorem mp_change : MonP (sp_change K) := fun vs H Q Q' E h ⟨p, dx, g, dk0, vr0, vr, x1, x2, k⟩ => ⟨p, dx, g, dk0, vr0, vr, x1, x2, fun H' dk a b c d => h _ _ (k H' dk a b c d)⟩
abbrev RuleO (K : PySem.W.Frag) (a : GA) (rows : List (Int × Addr)) (H : Hp) (v : V) (cs : List Cla) : Prop := RuleAtN (fun b => b ∉ a.muts rows) K H v cs
theorem RuleAtN.step {C : Addr} {H H' : Hp} {a : GA} {rows r' : List (Int × Addr)} {q q' : List Sq} {v : V} {cs : List Cla} (h : RuleO K a rows H v cs) (s : GStep C H a rows q H' r' q') : RuleO K a r' H' v cs := by
  obtain ⟨p, dx, l, ps, e, h1, h2, h3, h4, h5⟩ := h
  have o : ∀ b o, H b = some o → b ∉ a.muts rows → b ∉ a.muts r' := fun b o e n => (s.own e n).2
  have oc : ∀ v c, ClaAtN (fun b => b ∉ a.muts rows) K H v c → ClaAtN (fun b => b ∉ a.muts r') K H' v c := fun v c hc => by
    obtain ⟨p, dx, l, ps, e, h1, h2, h3, h4, h5⟩ := hc
    refine ⟨p, dx, l, ps, e, s.fr _ _ h1 h3, s.fr _ _ h2 h4, o _ _ h1 h3, o _ _ h2 h4, h5.imp fun u k hk => ?_⟩
    cases k with
    | amt st ns => obtain ⟨p, dx, l, e, h1, h2, h3, h4⟩ := hk; exact ⟨p, dx, l, e, s.fr _ _ h1 h3, s.fr _ _ h2 h4, o _ _ h1 h3, o _ _ h2 h4⟩
    | plc ws => obtain ⟨p, dx, l, e, h1, h2, h3, h4⟩ := hk; exact ⟨p, dx, l, e, s.fr _ _ h1 h3, s.fr _ _ h2 h4, o _ _ h1 h3, o _ _ h2 h4⟩
  exact ⟨p, dx, l, ps, e, s.fr _ _ h1 h3, s.fr _ _ h2 h4, o _ _ h1 h3, o _ _ h2 h4, h5.imp oc⟩
theorem RuleAtN.exs {N : Addr → Prop} {H : Hp} {v : V} {cs : List Cla} (h : RuleAtN N K H v cs) : RuleAtN (fun b => N b ∧ H b ≠ none) K H v cs := by
  have ne : ∀ {b : Addr} {o : HO}, H b = some o → H b ≠ none := fun e z => by rw [e] at z; cases z
  obtain ⟨p, dx, l, ps, e, h1, h2, h3, h4, h5⟩ := h
  refine ⟨p, dx, l, ps, e, h1, h2, ⟨h3, ne h1⟩, ⟨h4, ne h2⟩, h5.imp fun v c hc => ?_⟩
  obtain ⟨p, dx, l, ps, e, h1, h2, h3, h4, h5⟩ := hc
  refine ⟨p, dx, l, ps, e, h1, h2, ⟨h3, ne h1⟩, ⟨h4, ne h2⟩, h5.imp fun u k hk => ?_⟩
  cases k with
  | amt st ns => obtain ⟨p, dx, l, e, h1, h2, h3, h4⟩ := hk; exact ⟨p, dx, l, e, h1, h2, ⟨h3, ne h1⟩, h4, ne h2⟩
  | plc ws => obtain ⟨p, dx, l, e, h1, h2, h3, h4⟩ := hk; exact ⟨p, dx, l, e, h1, h2, ⟨h3, ne h1⟩, h4, ne h2⟩
theorem rule_ok {cs : List Cla} (hw : ∀ c ∈ cs, ClaW c) : RuleOk cs := fun c hc k hk => ((hw c hc).2.1 k hk).ok
theorem HJ.step {C : Addr} {H H' : Hp} {a : GA} {rows r' : List (Int × Addr)} {q q' : List Sq} {p dx g dk : Addr} {vr : V} (h : HJ K H p dx g vr dk) (G : GAt C H a rows q) (s : GStep C H a rows q H' r' q') : HJ K H' p dx g vr dk := s.fr _ _ h (G.ins_out h)
def sp_by_rule (K : PySem.W.Frag) : Sp := fun vs H Q _ => ∃ (p dx dk : Addr) (vr : V) (a : GA) (rows : List (Int × Addr)) (q : List Sq) (n : Nat) (S : Sq) (cs : List Cla), vs = [.ref p, .int (n : Int)] ∧ HJ K H p dx a.g vr dk ∧ GAt (CG K) H a rows q ∧ RuleO K a rows H vr cs ∧ (∀ c ∈ cs, ClaW c) ∧ q[n]? = some S ∧ S.level = 2 ∧ q.length + 100 < 16000000 ∧
  ∀ H' q' (m : Nat), GStep (CG K) H a rows q H' rows q' → q'.length ≤ q.length + 20 → q'[m]? = some (stepSq cs S) → Q (.int (m : Int)) H'
theorem mp_by_rule : MonP (sp_by_rule K) := fun vs H Q Q' E h ⟨p, dx, dk, vr, a, rows, q, n, S, cs, x1, x2, x3, x4, x5, x6, x7, x8, k⟩ => ⟨p, dx, dk, vr, a, rows, q, n, S, cs, x1, x2, x3, x4, x5, x6, x7, x8, fun H' q' m b c d => h _ _ (k H' q' m b c d)⟩
theorem six_leaves {S : Sq} (w : S.wf) (h : S.level = 2) : ∀ T ∈ six S, ∃ s, T = .leaf s ∧ St s := by
  obtain ⟨a1, a2, a3, a4, b1, b2, b3, b4, c1, c2, c3, c4, d1, d2, d3, d4, rfl⟩ := Sq.mid_form w (by omega)
  obtain ⟨⟨wa1, wa2, wa3, wa4, ea2, ea3, ea4⟩, ⟨wb1, wb2, wb3, wb4, eb2, eb3, eb4⟩, ⟨wc1, wc2, wc3, wc4, ec2, ec3, ec4⟩, ⟨wd1, wd2, wd3, wd4, ed2, ed3, ed4⟩, l1, l2, l3⟩ := w
  have h' : a1.level + 1 + 1 = 2 := h
  have l1' : b1.level + 1 = a1.level + 1 := l1
  have l2' : c1.level + 1 = a1.level + 1 := l2
  have l3' : d1.level + 1 = a1.level + 1 := l3
  have lf : ∀ T : Sq, T.wf → T.level = 0 → ∃ s, T = .leaf s ∧ St s := fun T w e => by
    cases T with
    | leaf s => exact ⟨s, rfl, w⟩
    | node _ _ _ _ => exact absurd e (Nat.succ_ne_zero _)
  intro T hT
  simp only [six, List.mem_cons, List.not_mem_nil, or_false] at hT
  rcases hT with rfl | rfl | rfl | rfl | rfl | rfl | rfl | rfl | rfl | rfl | rfl | rfl | rfl | rfl | rfl | rfl <;> exact lf _ (by assumption) (by omega)
theorem four_get {α : Type} {l : List α} (h : l.length = 4) : ∃ a b c d, l = [a, b, c, d] := by
  match l, h with
  | [a, b, c, d], _ => exact ⟨a, b, c, d, rfl⟩
def ats : List Nat := [5, 6, 9, 10]
set_option maxHeartbeats 8000000 in
theorem ok_by_rule (T : Env fa fn K mg) : Good P w K mg base CX0 5 ("Jumps", some "by_rule") ["self", "square"] (sp_by_rule K) := by
  have G_sixteen := ok_sixteen (P := P) (w := w) (base := base) T
  have G_around_of := ok_around_of (P := P) (w := w) (base := base) T
  have G_becomes := ok_becomes (P := P) (w := w) (base := base) T
  have G_Grove_state_of := ok_state_of (P := P) (w := w) (base := base) T
  have G_Grove_leaf := ok_leaf (P := P) (w := w) (base := base) T
  have G_Grove_knit := ok_knit (P := P) (w := w) (base := base) T
  refine good_mk T 49 (d := d_Jumps_by_rule) (N := ["self", "square", "states", "made", "at", "one"]) (ps := ["self", "square"]) rfl rfl sc_Jumps_by_rule (fun _ _ _ _ _ _ us hl => match us, hl with | [_, _], _ => rfl) (fun vs H Q E h => ?_) (fun f cdv A outer σ0 H vs Q E hr h => ?_)
  · obtain ⟨p, dx, dk, vr, a, rows, q, n, S, cs, rfl, _⟩ := h; rfl
  · obtain ⟨p, dx, dk, vr, a, rows, q, n, S, cs, rfl, hJ, G, hR, hw, hn, hl2, hq, k⟩ := h
    have hJ' : H p = some (.ins (He.ga K "Jumps") dx [("grove", .ref a.g), ("rule", vr), ("known", .ref dk)]) := hJ
    have clJ := T.cls 53
    have na1 := T.noat 92
    have na2 := T.noat 94
    have wfS := G.wf _ (List.mem_of_getElem? hn)
    have six16 : (six S).length = 16 := by
      obtain ⟨a1, a2, a3, a4, b1, b2, b3, b4, c1, c2, c3, c4, d1, d2, d3, d4, rfl⟩ := Sq.mid_form wfS (by omega)
      rfl
    have leaves := six_leaves wfS hl2
    refine ⟨_, (pss_cons (ps_setLc (i := 2) (own := [("one", 5)]) (tt := tYes) rfl sc_Jumps_by_rule.nd rfl rfl (sw_true rfl rfl rfl (by decide +kernel)) (pi_listK K rfl (pe_cgK K rfl G_sixteen (hr.mono (by decide)) (T.glo 48) (pa_cons (pe_fldK K rfl (pv 0) rfl) (pa_cons (pv 1) pa_nil)))) (blkOk_by (own := [("one", 5)]) (N := ["self", "square", "states", "made", "at", "one"]) (sc := defScope st_Jumps_by_rule) (by decide +kernel)) (fun _ _ _ _ _ => by exact (pg_name (i := 5) sc_Jumps_by_rule.nd rfl (Or.inl rfl))) (fun _ _ _ _ _ => by exact pts_nil) (fun _ _ _ _ _ => by exact (pe_mgK K rfl (pe_fldK K rfl (pv 0) rfl) (T.cls 9) (T.meth 49) G_Grove_state_of (hr.mono (by decide)) (pa_cons (pv 5) pa_nil))))
      (pss_cons (ps_set (i := 3) sc_Jumps_by_rule.nd rfl (Or.inl rfl) (pe_lst pa_nil))
      (pss_cons (ps_for PassesOwn.never rfl (pi_tupK K rfl (pe_tup (pa_cons pe_int (pa_cons pe_int (pa_cons pe_int (pa_cons pe_int pa_nil)))))) (pg_name (i := 4) sc_Jumps_by_rule.nd rfl (Or.inl rfl)) (pss_one (ps_expr (pe_bm PySem.F.plainAttrs_list PySem.F.slot_list_append PySem.F.type_list_append mt_append (pv 3) (pa_cons (pe_mgK K rfl (pe_fldK K rfl (pv 0) rfl) (T.cls 9) (T.meth 50) G_Grove_leaf (hr.mono (by decide)) (pa_cons (pe_cgK K rfl G_becomes (hr.mono (by decide)) (T.glo 46) (pa_cons (pe_fldK K rfl (pv 0) rfl) (pa_cons (pe_ix (ix_listK K rfl) (pv 2) (pv 4) (fun _ _ => rfl)) (pa_cons (pe_cgK K rfl G_around_of (hr.mono (by decide)) (T.glo 51) (pa_cons (pv 2) (pa_cons (pv 4) pa_nil))) pa_nil)))) pa_nil)) pa_nil)))))
      (pss_one (ps_ret (pe_mgK K rfl (pe_fldK K rfl (pv 0) rfl) (T.cls 9) (T.meth 13) G_Grove_knit (hr.mono (by decide)) (pa_cons (pe_ix (ix_listK K rfl) (pv 3) pe_int (fun _ _ => rfl)) (pa_cons (pe_ix (ix_listK K rfl) (pv 3) pe_int (fun _ _ => rfl)) (pa_cons (pe_ix (ix_listK K rfl) (pv 3) pe_int (fun _ _ => rfl)) (pa_cons (pe_ix (ix_listK K rfl) (pv 3) pe_int (fun _ _ => rfl)) pa_nil)))))))))), ?_⟩
    walk_at "rd"
    refine ⟨a, rows, q, n, S, rfl, G, hn, by omega, by omega, fun H1 l ms s1 hl L1 ml hms => ?_⟩
    have hJ1 := s1 _ _ hJ'
    have G1 := G.same s1
    walk_at "rd"
    refine ⟨l, rfl, ⟨_, SqL.of L1⟩, fun st hst => ?_⟩
    have lxs : ((six S).map lv).length = 16 := by rw [List.length_map]; exact six16
    generalize hxs : (six S).map lv = xs at lxs
    have xat : ∀ i T, (six S)[i]? = some T → xs[i]? = some (lv T) := fun i T e => by rw [← hxs, List.getElem?_map, e]; rfl
    refine lc_list (K := K) (xs := ms.map fun n : Nat => V.int (n : Int)) (fun i H' => Same H1 H' ∧ H' st = some (.lst ((xs.take i).map V.int))) ⟨same_upd hst, upd_same⟩ (fun i H' _ e => SqL.of (e.1 _ _ L1)) ?_ ?_
    · rintro i v H' hv ⟨s2, LD⟩
      obtain ⟨m, hm, rfl⟩ : ∃ m, ms[i]? = some m ∧ v = .int (m : Int) := by
        rw [List.getElem?_map] at hv
        cases e : ms[i]? with
        | none => rw [e] at hv; cases hv
        | some m => rw [e] at hv; exact ⟨m, rfl, (Option.some.inj hv).symm⟩
      have hi := (List.getElem?_eq_some_iff.mp hm).1
      obtain ⟨T', hT⟩ : ∃ T', (six S)[i]? = some T' := ⟨_, at_get (by omega)⟩
      obtain ⟨s, rfl, hs⟩ := leaves _ (List.mem_of_getElem? hT)
      have hJ2 := s2 _ _ hJ1
      have G2 := G1.same s2
      walk_at "rd"
      refine ⟨rfl, ?_⟩
      walk_at "rd"
      refine rd_methR G2.ob (by rfl) ?_
      walk_at "rd"
      refine ⟨a, rows, q, m, s, rfl, G2, hms i m _ hm hT, by omega, ?_⟩
      refine ⟨_, LD, by rw [List.length_map, List.length_take]; exact small1000 (by omega), Same.put2 s2 hst, ?_⟩
      rw [upd_same, take_snoc (xat i _ hT), List.map_append]; rfl
    rintro H2 ⟨s2, LD⟩
    have em : (ms.map fun n : Nat => V.int (n : Int)).length = xs.length := by rw [List.length_map, ml, lxs]
    rw [em, List.take_length] at LD
    have s12 := s1.trans s2
    have hJ2 := s2 _ _ hJ1
    have G2 := G1.same s2
    have O2 : OwnO a rows H2 [(st, .lst (xs.map V.int))] := ⟨by simp, fun b o h => by rw [List.mem_singleton] at h; cases h; exact LD, fun b o h => by rw [List.mem_singleton] at h; cases h; exact fun z => z, fun b o h => by rw [List.mem_singleton] at h; cases h; exact G1.new_out hst⟩
    have R2 : RuleAtN (fun b => b ∉ a.muts rows ∧ H2 b ≠ none) K H2 vr cs := (hR.same s12).exs
    walk_at "rd"
    refine rd_new (hn := by show 0 ≤ sizeLine; decide) fun mk hmk => ?_
    have s3 := same_upd (o := .lst []) hmk
    have O3 := O2.new (o := .lst []) G2 hmk (fun z => z)
    have G3 := G2.same s3
    have R3 : RuleAtN (fun b => b ∉ mk :: a.muts rows) K (upd H2 mk (.lst [])) vr cs := (R2.same s3).imp fun b hb z => by
      rcases List.mem_cons.mp z with rfl | z
      · exact hb.2 hmk
      · exact hb.1 z
    have pmk : p ∉ mk :: a.muts rows := fun z => by
      rcases List.mem_cons.mp z with rfl | z
      · rw [hmk] at hJ2; cases hJ2
      · exact G2.ins_out hJ2 z
    have omk : ∀ b o, H b = some o → b ≠ mk := fun b o e z => by
      have := s12 _ _ e
      rw [z, hmk] at this; cases this
    have hJ3 := s3 _ _ hJ2
    have s13 := s12.trans s3
    generalize upd H2 mk (.lst []) = H3 at *
    walk_at "rd"
    refine rd_new (hn := by show 4 ≤ sizeLine; decide) fun t ht => ?_
    have s4 := same_upd (o := .tup [V.int 5, V.int 6, V.int 9, V.int 10]) ht
    have T4 : (upd H3 t (.tup [V.int 5, V.int 6, V.int 9, V.int 10])) t = some (.tup (ats.map fun n : Nat => V.int (n : Int))) := upd_same
    have O4 := O3.same s4
    have G4 := G3.same s4
    have R4 := R3.same s4
    have hJ4 := s4 _ _ hJ3
    have s14 := s13.trans s4
    generalize upd H3 t (.tup [V.int 5, V.int 6, V.int 9, V.int 10]) = H4 at *
    have tmk : t ∉ mk :: a.muts rows := fun z => by
      rcases List.mem_cons.mp z with rfl | z
      · have := O4.ix 0 rfl
        rw [T4] at this; cases this
      · exact G4.tup_out T4 z
    walk_at "rd"
    refine ⟨t, rfl, ⟨_, SqT.of T4⟩, ?_⟩
    refine for_it (walk_tup (xs := ats.map fun n : Nat => V.int (n : Int))) (fun i σ H' => ∃ (q' : List Sq) (ms : List Nat) (x4 x5 : Option V), σ = [some (.ref p), some (.int (n : Int)), some (.ref st), some (.ref mk), x4, x5] ∧ GAt (CG K) H' a rows q' ∧ q <+: q' ∧ Fr (mk :: a.muts rows) H4 H' ∧ OwnO a rows H' [(mk, .lst (ms.map fun n : Nat => V.int (n : Int))), (st, .lst (xs.map V.int))] ∧ ms.length = i ∧ q'.length ≤ q.length + i ∧ ∀ (j m k : Nat), ms[j]? = some m → ats[j]? = some k → q'[m]? = some (.leaf (stepL cs xs k)))
      ⟨q, [], none, none, rfl, G4, List.prefix_refl _, Fr.refl _ _, O4, rfl, by omega, fun j m k e => by simp at e⟩ ?_ ?_ ?_
    · rintro i σ H' _ ⟨q', ms, x4, x5, _, _, _, fr, _⟩
      exact SqT.of (fr _ _ T4 tmk)
    · rintro i v σ Ha Hb hi ⟨q', ms', x4, x5, rfl, Gb, pre, fr, O, mll, qll, hmm⟩ ⟨rfl, hv⟩
      have hi4 : i < 4 := hi
      obtain ⟨at_, hat, rfl⟩ : ∃ at_ : Nat, ats[i]? = some at_ ∧ v = .int (at_ : Int) := by
        rw [List.getElem?_map] at hv
        cases e : ats[i]? with
        | none => rw [e] at hv; cases hv
        | some m => rw [e] at hv; exact ⟨m, rfl, (Option.some.inj hv).symm⟩
      have hab : 5 ≤ at_ ∧ at_ ≤ 10 := by
        have := List.mem_of_getElem? hat
        simp only [ats, List.mem_cons, List.not_mem_nil, or_false] at this
        omega
      have Rb := R4.fr fr fun b hb => hb
      have hJb' : Hb p = some (.ins (He.ga K "Jumps") dx [("grove", .ref a.g), ("rule", vr), ("known", .ref dk)]) := fr _ _ hJ4 pmk
      obtain ⟨c0, hc0⟩ : ∃ c0, xs[at_]? = some c0 := ⟨_, at_get (by omega)⟩
      have hc0s : St c0 := by
        obtain ⟨T', hT⟩ : ∃ T', (six S)[at_]? = some T' := ⟨_, at_get (by omega)⟩
        obtain ⟨s, rfl, hs⟩ := leaves _ (List.mem_of_getElem? hT)
        have := xat _ _ hT
        rw [hc0] at this
        cases this
        exact hs
      have ec : xs.getD at_ 0 = c0 := by rw [List.getD_eq_getElem?_getD, hc0]; rfl
      walk_at "rd"
      refine rd_tyL (O.ix 0 rfl) ?_
      walk_at "rd"
      refine rd_methR Gb.ob (by rfl) ?_
      walk_at "rd"
      refine rd_ixL (SqL.of (O.ix 1 rfl)) (atI_nat (map_get V.int hc0)) ?_
      walk_at "rd"
      refine ⟨st, xs, at_, rfl, O.ix 1 rfl, lxs, hab.1, hab.2, fun H5 l5 s5 L5 => ?_⟩
      walk_at "rd"
      refine ⟨vr, l5, cs, c0, arL xs at_, rfl, (Rb.at).same s5, L5, rfl, rule_ok hw, fun H6 s6 => ?_⟩
      have s56 := s5.trans s6
      have hst' := makes_st hw hc0s (arL xs at_)
      have G6 := Gb.same s56
      have O6 := O.same s56
      walk_at "rd"
      refine ⟨a, rows, q', ruleMakes cs c0 (arL xs at_), rfl, G6, hst'.1, hst'.2, by omega, fun H7 q7 m7 G7 pre7 len7 hm7 fr7 => ?_⟩
      have stp7 := GStep.of5 G7 pre7 fr7
      have O7 := O6.step stp7
      have hml : ((ms'.map fun n : Nat => V.int (n : Int))).length < sizeLine := by rw [List.length_map]; exact small1000 (by omega)
      walk_at "rd"
      refine rd_append (O7.ix 0 rfl) hml ?_
      have O8 := O7.put 0 rfl (.lst ((ms'.map fun n : Nat => V.int (n : Int)) ++ [V.int (m7 : Int)])) (fun z => z)
      have G8 := G7.ownO O7 0 rfl (.lst ((ms'.map fun n : Nat => V.int (n : Int)) ++ [V.int (m7 : Int)]))
      walk_at "rd"
      have fr8 : Fr (mk :: a.muts rows) H4 (upd H7 mk (.lst ((ms'.map fun n : Nat => V.int (n : Int)) ++ [V.int (m7 : Int)]))) := (fr.trans (fr_of s56)).trans ((stp7.fr.mono fun b h => List.mem_cons_of_mem _ h).trans fun b o e n => by rw [upd_ne (fun z => n (by rw [z]; exact List.mem_cons_self))]; exact e)
      refine ⟨q7, ms' ++ [m7], _, x5, rfl, G8, pre.trans pre7, fr8, ?_, by rw [List.length_append, mll]; rfl, by omega, fun j m kk e1 e2 => ?_⟩
      · rw [List.map_append]; exact O8
      · rcases Nat.lt_or_ge j ms'.length with hj | hj
        · rw [List.getElem?_append_left hj] at e1
          exact pre_get pre7 (hmm j m kk e1 e2)
        · have hj' : j = ms'.length := by
            have := (List.getElem?_eq_some_iff.mp e1).1
            rw [List.length_append] at this
            simp at this
            omega
          subst hj'
          rw [List.getElem?_append_right (Nat.le_refl _), Nat.sub_self] at e1
          cases e1
          rw [mll, hat] at e2
          cases e2
          rw [hm7]
          show some (Sq.leaf (ruleMakes cs c0 (arL xs at_))) = some (.leaf (ruleMakes cs (xs.getD at_ 0) (arL xs at_)))
          rw [ec]
    rintro σ H9 ⟨q', ms', x4, x5, rfl, G9, pre, fr, O, mll, qll, hmm⟩
    have hJ9' : H9 p = some (.ins (He.ga K "Jumps") dx [("grove", .ref a.g), ("rule", vr), ("known", .ref dk)]) := fr _ _ hJ4 pmk
    obtain ⟨m0, m1, m2, m3, rfl⟩ := four_get (show ms'.length = 4 from mll)
    have h0 := hmm 0 m0 5 rfl rfl
    have h1 := hmm 1 m1 6 rfl rfl
    have h2 := hmm 2 m2 9 rfl rfl
    have h3 := hmm 3 m3 10 rfl rfl
    walk_at "rd"
    refine rd_methR G9.ob (by rfl) ?_
    walk_at "rd"
    refine rd_ixL (SqL.of (O.ix 0 rfl)) (atI_nat (j := 0) rfl) ?_
    walk_at "rd"
    refine rd_ixL (SqL.of (O.ix 0 rfl)) (atI_nat (j := 1) rfl) ?_
    walk_at "rd"
    refine rd_ixL (SqL.of (O.ix 0 rfl)) (atI_nat (j := 2) rfl) ?_
    walk_at "rd"
    refine rd_ixL (SqL.of (O.ix 0 rfl)) (atI_nat (j := 3) rfl) ?_
    walk_at "rd"
    have w0 := G9.wf _ (List.mem_of_getElem? h0)
    have w1 := G9.wf _ (List.mem_of_getElem? h1)
    have w2 := G9.wf _ (List.mem_of_getElem? h2)
    have w3 := G9.wf _ (List.mem_of_getElem? h3)
    have em4 : (ats.map fun n : Nat => V.int (n : Int)).length = 4 := rfl
    refine ⟨a, rows, q', _, _, _, _, m0, m1, m2, m3, rfl, G9, h0, h1, h2, h3, ⟨w0, w1, w2, w3, rfl, rfl, rfl⟩, by show 0 ≤ 60; decide, by omega, fun H10 q10 m10 G10 pre10 len10 hm10 fr10 => ?_⟩
    refine k _ q10 m10 ⟨G10, pre.trans pre10, fun b o e n => ?_, fun b h => .inl h⟩ (by omega) ?_
    · have nb : b ∉ mk :: a.muts rows := fun z => by
        rcases List.mem_cons.mp z with z | z
        · exact omk b o e z
        · exact n z
      exact (GStep.of5 G10 pre10 fr10).fr b o (fr _ _ (s14 _ _ e) nb) n
    · rw [hm10]
      show some (Sq.node (.leaf (stepL cs xs 5)) (.leaf (stepL cs xs 6)) (.leaf (stepL cs xs 9)) (.leaf (stepL cs xs 10))) = _
      rw [← hxs]
      rfl
end
end JF

/-! ### jumps: the mathematics, no program in sight -/
namespace JF
open PySem PySem.Spec PyProof.Rows L2
/-- one of sixteen -/
def sx (S : Sq) (k : Nat) : Sq := (six S).getD k (.leaf 0)
/-- the part of a square at the column i and the row j -/
def part (S : Sq) (i j : Nat) : Sq := .node (sx S (4 * j + i)) (sx S (4 * j + i + 1)) (sx S (4 * j + i + 4)) (sx S (4 * j + i + 5))
def meet : Sq → Sq → Sq → Sq → Sq
  | .node _ _ _ a, .node _ _ b _, .node _ c _ _, .node d _ _ _ => .node a b c d
  | _, _, _, _ => .leaf 0
/-- the middle of a square of level d + 2 behind 2 ^ e steps -/
def jumpN (cs : List Cla) : Nat → Nat → Sq → Sq
  | 0, _, S => stepSq cs S
  | d + 1, e, S =>
    let N := fun i j => jumpN cs d (if e = d + 1 then e - 1 else e) (part S i j)
    let F := fun i j => if e = d + 1 then jumpN cs d (e - 1) (.node (N i j) (N (i + 1) j) (N i (j + 1)) (N (i + 1) (j + 1))) else meet (N i j) (N (i + 1) j) (N i (j + 1)) (N (i + 1) (j + 1))
    .node (F 0 0) (F 1 0) (F 0 1) (F 1 1)
def stepF (cs : List Cla) (f : Int → Int → Int) (x y : Int) : Int := ruleMakes cs (f x y) [f (x - 1) (y - 1), f x (y - 1), f (x + 1) (y - 1), f (x - 1) y, f (x + 1) y, f (x - 1) (y + 1), f x (y + 1), f (x + 1) (y + 1)]
def itF (cs : List Cla) : Nat → (Int → Int → Int) → Int → Int → Int
  | 0, f => f
  | n + 1, f => stepF cs (itF cs n f)
theorem itF_add (cs : List Cla) (f : Int → Int → Int) (m : Nat) : ∀ n, itF cs (n + m) f = itF cs n (itF cs m f)
  | 0 => by rw [Nat.zero_add]; rfl
  | n + 1 => by
    have : n + 1 + m = (n + m) + 1 := by omega
    rw [this]
    show stepF cs (itF cs (n + m) f) = stepF cs (itF cs n (itF cs m f))
    rw [itF_add cs f m n]
theorem itF_loc (cs : List Cla) {f g : Int → Int → Int} {X X' Y Y' dx dy : Int} (h : ∀ x y, X ≤ x → x < X' → Y ≤ y → y < Y' → f x y = g (x + dx) (y + dy)) : ∀ (n : Nat) (x y : Int), X + n ≤ x → x < X' - n → Y + n ≤ y → y < Y' - n → itF cs n f x y = itF cs n g (x + dx) (y + dy)
  | 0, x, y, h1, h2, h3, h4 => h x y (by omega) (by omega) (by omega) (by omega)
  | n + 1, x, y, h1, h2, h3, h4 => by
    have ih := itF_loc cs h n
    show stepF cs (itF cs n f) x y = stepF cs (itF cs n g) (x + dx) (y + dy)
    unfold stepF
    have e1 : x + dx - 1 = x - 1 + dx := by omega
    have e2 : y + dy - 1 = y - 1 + dy := by omega
    have e3 : x + dx + 1 = x + 1 + dx := by omega
    have e4 : y + dy + 1 = y + 1 + dy := by omega
    rw [e1, e2, e3, e4]
    rw [ih x y (by omega) (by omega) (by omega) (by omega), ih (x - 1) (y - 1) (by omega) (by omega) (by omega) (by omega), ih x (y - 1) (by omega) (by omega) (by omega) (by omega), ih (x + 1) (y - 1) (by omega) (by omega) (by omega) (by omega),
      ih (x - 1) y (by omega) (by omega) (by omega) (by omega), ih (x + 1) y (by omega) (by omega) (by omega) (by omega), ih (x - 1) (y + 1) (by omega) (by omega) (by omega) (by omega), ih x (y + 1) (by omega) (by omega) (by omega) (by omega), ih (x + 1) (y + 1) (by omega) (by omega) (by omega) (by omega)]
/-- a square of four, cell by cell -/
theorem node_get {A B C D : Sq} {h : Int} (e : (2 : Int) ^ A.level = h) {f : Int → Int → Int} (h1 : ∀ x y, 0 ≤ x → x < h → 0 ≤ y → y < h → A.get x y = f x y) (h2 : ∀ x y, 0 ≤ x → x < h → 0 ≤ y → y < h → B.get x y = f (x + h) y)
    (h3 : ∀ x y, 0 ≤ x → x < h → 0 ≤ y → y < h → C.get x y = f x (y + h)) (h4 : ∀ x y, 0 ≤ x → x < h → 0 ≤ y → y < h → D.get x y = f (x + h) (y + h)) : ∀ x y, 0 ≤ x → x < 2 * h → 0 ≤ y → y < 2 * h → (Sq.node A B C D).get x y = f x y := by
  intro x y a b c d
  show (if y < 2 ^ A.level then (if x < 2 ^ A.level then A.get x y else B.get (x - 2 ^ A.level) y) else (if x < 2 ^ A.level then C.get x (y - 2 ^ A.level) else D.get (x - 2 ^ A.level) (y - 2 ^ A.level))) = _
  rw [e]
  split <;> split
  · exact h1 x y a (by omega) c (by omega)
  · rw [h2 _ _ (by omega) (by omega) (by omega) (by omega)]
    rw [show x - h + h = x by omega]
  · rw [h3 _ _ (by omega) (by omega) (by omega) (by omega)]
    rw [show y - h + h = y by omega]
  · rw [h4 _ _ (by omega) (by omega) (by omega) (by omega)]
    rw [show x - h + h = x by omega, show y - h + h = y by omega]
/-- the four of a square, cell by cell -/
theorem get_nodeJ {A B C D : Sq} {h : Int} (e : (2 : Int) ^ A.level = h) {x y : Int} (x0 : 0 ≤ x) (x1 : x < h) (y0 : 0 ≤ y) (y1 : y < h) :
    (Sq.node A B C D).get x y = A.get x y ∧ (Sq.node A B C D).get (x + h) y = B.get x y ∧ (Sq.node A B C D).get x (y + h) = C.get x y ∧ (Sq.node A B C D).get (x + h) (y + h) = D.get x y := by
  have eq : ∀ u v : Int, (Sq.node A B C D).get u v = (if v < h then (if u < h then A.get u v else B.get (u - h) v) else (if u < h then C.get u (v - h) else D.get (u - h) (v - h))) := fun u v => by rw [← e]; rfl
  have e1 : x + h - h = x := by omega
  have e2 : y + h - h = y := by omega
  refine ⟨?_, ?_, ?_, ?_⟩
  · rw [eq, if_pos y1, if_pos x1]
  · rw [eq, if_pos y1, if_neg (by omega), e1]
  · rw [eq, if_neg (by omega), if_pos x1, e2]
  · rw [eq, if_neg (by omega), if_neg (by omega), e1, e2]
theorem six_level {S : Sq} {d : Nat} (w : S.wf) (h : S.level = d + 2) : ∀ T ∈ six S, T.wf ∧ T.level = d := by
  obtain ⟨a1, a2, a3, a4, b1, b2, b3, b4, c1, c2, c3, c4, d1, d2, d3, d4, rfl⟩ := Sq.mid_form w (by omega)
  obtain ⟨⟨wa1, wa2, wa3, wa4, ea2, ea3, ea4⟩, ⟨wb1, wb2, wb3, wb4, eb2, eb3, eb4⟩, ⟨wc1, wc2, wc3, wc4, ec2, ec3, ec4⟩, ⟨wd1, wd2, wd3, wd4, ed2, ed3, ed4⟩, l1, l2, l3⟩ := w
  have h' : a1.level + 1 + 1 = d + 2 := h
  have l1' : b1.level + 1 = a1.level + 1 := l1
  have l2' : c1.level + 1 = a1.level + 1 := l2
  have l3' : d1.level + 1 = a1.level + 1 := l3
  intro T hT
  simp only [six, List.mem_cons, List.not_mem_nil, or_false] at hT
  rcases hT with rfl | rfl | rfl | rfl | rfl | rfl | rfl | rfl | rfl | rfl | rfl | rfl | rfl | rfl | rfl | rfl <;> exact ⟨by assumption, by omega⟩
theorem six_len {S : Sq} (w : S.wf) (h : 2 ≤ S.level) : (six S).length = 16 := by
  obtain ⟨a1, a2, a3, a4, b1, b2, b3, b4, c1, c2, c3, c4, d1, d2, d3, d4, rfl⟩ := Sq.mid_form w h
  rfl
theorem sx_get {S : Sq} {k : Nat} (w : S.wf) (h : 2 ≤ S.level) (hk : k < 16) : (six S)[k]? = some (sx S k) := by
  unfold sx
  rw [List.getD_eq_getElem?_getD, at_get (show k < (six S).length by rw [six_len w h]; exact hk)]; rfl
theorem sx_ok {S : Sq} {d k : Nat} (w : S.wf) (h : S.level = d + 2) (hk : k < 16) : (sx S k).wf ∧ (sx S k).level = d := six_level w h _ (List.mem_of_getElem? (sx_get w (by omega) hk))
theorem part_ok {S : Sq} {d i j : Nat} (w : S.wf) (h : S.level = d + 2) (hi : i < 3) (hj : j < 3) : (part S i j).wf ∧ (part S i j).level = d + 1 := by
  obtain ⟨w1, l1⟩ := sx_ok w h (show 4 * j + i < 16 by omega)
  obtain ⟨w2, l2⟩ := sx_ok w h (show 4 * j + i + 1 < 16 by omega)
  obtain ⟨w3, l3⟩ := sx_ok w h (show 4 * j + i + 4 < 16 by omega)
  obtain ⟨w4, l4⟩ := sx_ok w h (show 4 * j + i + 5 < 16 by omega)
  exact ⟨⟨w1, w2, w3, w4, by omega, by omega, by omega⟩, by show (sx S (4 * j + i)).level + 1 = d + 1; omega⟩
/-- the sixteen, cell by cell -/
theorem get_six {S : Sq} {d : Nat} (w : S.wf) (h : S.level = d + 2) {i j : Nat} (hi : i < 4) (hj : j < 4) {x y : Int} (x0 : 0 ≤ x) (x1 : x < 2 ^ d) (y0 : 0 ≤ y) (y1 : y < 2 ^ d) : S.get (x + i * 2 ^ d) (y + j * 2 ^ d) = (sx S (4 * j + i)).get x y := by
  obtain ⟨a1, a2, a3, a4, b1, b2, b3, b4, c1, c2, c3, c4, d1, d2, d3, d4, rfl⟩ := Sq.mid_form w (by omega)
  obtain ⟨⟨wa1, wa2, wa3, wa4, ea2, ea3, ea4⟩, ⟨wb1, wb2, wb3, wb4, eb2, eb3, eb4⟩, ⟨wc1, wc2, wc3, wc4, ec2, ec3, ec4⟩, ⟨wd1, wd2, wd3, wd4, ed2, ed3, ed4⟩, l1, l2, l3⟩ := w
  have h' : a1.level + 1 + 1 = d + 2 := h
  have l1' : b1.level + 1 = a1.level + 1 := l1
  have l2' : c1.level + 1 = a1.level + 1 := l2
  have l3' : d1.level + 1 = a1.level + 1 := l3
  have la : a1.level = d := by omega
  have lb : b1.level = d := by omega
  have lc : c1.level = d := by omega
  have ld : d1.level = d := by omega
  have L : (Sq.node a1 a2 a3 a4).level = d + 1 := by show a1.level + 1 = d + 1; omega
  have e2 := Sq.two_succ d
  have hp := Sq.two_pos d
  generalize hH : (2 : Int) ^ d = H at *
  have top : ∀ {u v : Int}, 0 ≤ u → u < 2 * H → 0 ≤ v → v < 2 * H → _ := fun {u v} a b c e => get_nodeJ (A := .node a1 a2 a3 a4) (B := .node b1 b2 b3 b4) (C := .node c1 c2 c3 c4) (D := .node d1 d2 d3 d4) (h := 2 * H) (by rw [L, e2]) a b c e
  have A := get_nodeJ (A := a1) (B := a2) (C := a3) (D := a4) (h := H) (by rw [la, hH]) x0 x1 y0 y1
  have B := get_nodeJ (A := b1) (B := b2) (C := b3) (D := b4) (h := H) (by rw [lb, hH]) x0 x1 y0 y1
  have C := get_nodeJ (A := c1) (B := c2) (C := c3) (D := c4) (h := H) (by rw [lc, hH]) x0 x1 y0 y1
  have D := get_nodeJ (A := d1) (B := d2) (C := d3) (D := d4) (h := H) (by rw [ld, hH]) x0 x1 y0 y1
  have T1 := top (u := x) (v := y) x0 (by omega) y0 (by omega)
  have T2 := top (u := x + H) (v := y) (by omega) (by omega) y0 (by omega)
  have T3 := top (u := x) (v := y + H) x0 (by omega) (by omega) (by omega)
  have T4 := top (u := x + H) (v := y + H) (by omega) (by omega) (by omega) (by omega)
  have q0 : ∀ z : Int, z + ((0 : Nat) : Int) * H = z := fun z => by simp
  have q1 : ∀ z : Int, z + ((1 : Nat) : Int) * H = z + H := fun z => by simp
  have q2 : ∀ z : Int, z + ((2 : Nat) : Int) * H = z + 2 * H := fun z => by simp
  have q3 : ∀ z : Int, z + ((3 : Nat) : Int) * H = z + H + 2 * H := fun z => by
    have : ((3 : Nat) : Int) * H = H + 2 * H := by
      have : ((3 : Nat) : Int) = 1 + 2 := rfl
      rw [this, Int.add_mul, Int.one_mul]
    rw [this]; omega
  match i, j, hi, hj with
  | 0, 0, _, _ => rw [q0, q0, T1.1]; exact A.1
  | 1, 0, _, _ => rw [q1, q0, T2.1]; exact A.2.1
  | 0, 1, _, _ => rw [q0, q1, T3.1]; exact A.2.2.1
  | 1, 1, _, _ => rw [q1, q1, T4.1]; exact A.2.2.2
  | 2, 0, _, _ => rw [q2, q0, T1.2.1]; exact B.1
  | 3, 0, _, _ => rw [q3, q0, T2.2.1]; exact B.2.1
  | 2, 1, _, _ => rw [q2, q1, T3.2.1]; exact B.2.2.1
  | 3, 1, _, _ => rw [q3, q1, T4.2.1]; exact B.2.2.2
  | 0, 2, _, _ => rw [q0, q2, T1.2.2.1]; exact C.1
  | 1, 2, _, _ => rw [q1, q2, T2.2.2.1]; exact C.2.1
  | 0, 3, _, _ => rw [q0, q3, T3.2.2.1]; exact C.2.2.1
  | 1, 3, _, _ => rw [q1, q3, T4.2.2.1]; exact C.2.2.2
  | 2, 2, _, _ => rw [q2, q2, T1.2.2.2]; exact D.1
  | 3, 2, _, _ => rw [q3, q2, T2.2.2.2]; exact D.2.1
  | 2, 3, _, _ => rw [q2, q3, T3.2.2.2]; exact D.2.2.1
  | 3, 3, _, _ => rw [q3, q3, T4.2.2.2]; exact D.2.2.2
theorem part_get {S : Sq} {d i j : Nat} (w : S.wf) (h : S.level = d + 2) (hi : i < 3) (hj : j < 3) {x y : Int} (x0 : 0 ≤ x) (x1 : x < 2 * 2 ^ d) (y0 : 0 ≤ y) (y1 : y < 2 * 2 ^ d) : (part S i j).get x y = S.get (x + i * 2 ^ d) (y + j * 2 ^ d) := by
  have s1 : ∀ (u : Int) (k : Nat), u + 2 ^ d + (k : Int) * 2 ^ d = u + ((k + 1 : Nat) : Int) * 2 ^ d := fun u k => by
    have : ((k + 1 : Nat) : Int) * 2 ^ d = (k : Int) * 2 ^ d + 2 ^ d := by
      rw [Int.natCast_add, Int.add_mul]; simp
    rw [this]; omega
  refine node_get (A := sx S (4 * j + i)) (h := 2 ^ d) (by rw [(sx_ok w h (show 4 * j + i < 16 by omega)).2]) (f := fun x y => S.get (x + i * 2 ^ d) (y + j * 2 ^ d)) ?_ ?_ ?_ ?_ x y x0 x1 y0 y1
  · intro x y a b c e
    exact (get_six w h (by omega) (by omega) a b c e).symm
  · intro x y a b c e
    show _ = S.get (x + 2 ^ d + i * 2 ^ d) (y + j * 2 ^ d)
    rw [s1, get_six w h (by omega) (by omega) a b c e, show 4 * j + (i + 1) = 4 * j + i + 1 by omega]
  · intro x y a b c e
    show _ = S.get (x + i * 2 ^ d) (y + 2 ^ d + j * 2 ^ d)
    rw [s1, get_six w h (by omega) (by omega) a b c e, show 4 * (j + 1) + i = 4 * j + i + 4 by omega]
  · intro x y a b c e
    show _ = S.get (x + 2 ^ d + i * 2 ^ d) (y + 2 ^ d + j * 2 ^ d)
    rw [s1, s1, get_six w h (by omega) (by omega) a b c e, show 4 * (j + 1) + (i + 1) = 4 * j + i + 5 by omega]
theorem meet_ok {A B C D : Sq} {d : Nat} (wa : A.wf) (wb : B.wf) (wc : C.wf) (wd : D.wf) (la : A.level = d + 1) (lb : B.level = d + 1) (lc : C.level = d + 1) (ld : D.level = d + 1) : (meet A B C D).wf ∧ (meet A B C D).level = d + 1 ∧
    ∀ x y, 0 ≤ x → x < 2 * 2 ^ d → 0 ≤ y → y < 2 * 2 ^ d → (meet A B C D).get x y = (Sq.node A B C D).get (x + 2 ^ d) (y + 2 ^ d) := by
  obtain ⟨a1, a2, a3, a4, rfl⟩ := Sq.node_of (S := A) (by omega)
  obtain ⟨b1, b2, b3, b4, rfl⟩ := Sq.node_of (S := B) (by omega)
  obtain ⟨c1, c2, c3, c4, rfl⟩ := Sq.node_of (S := C) (by omega)
  obtain ⟨d1, d2, d3, d4, rfl⟩ := Sq.node_of (S := D) (by omega)
  obtain ⟨wa1, wa2, wa3, wa4, ea2, ea3, ea4⟩ := wa
  obtain ⟨wb1, wb2, wb3, wb4, eb2, eb3, eb4⟩ := wb
  obtain ⟨wc1, wc2, wc3, wc4, ec2, ec3, ec4⟩ := wc
  obtain ⟨wd1, wd2, wd3, wd4, ed2, ed3, ed4⟩ := wd
  have la' : a1.level + 1 = d + 1 := la
  have lb' : b1.level + 1 = d + 1 := lb
  have lc' : c1.level + 1 = d + 1 := lc
  have ld' : d1.level + 1 = d + 1 := ld
  refine ⟨⟨wa4, wb3, wc2, wd1, by omega, by omega, by omega⟩, by show a4.level + 1 = d + 1; omega, ?_⟩
  have e2 := Sq.two_succ d
  have hp := Sq.two_pos d
  have l1 : (2 : Int) ^ a1.level = 2 ^ d := by rw [show a1.level = d by omega]
  have l2 : (2 : Int) ^ b1.level = 2 ^ d := by rw [show b1.level = d by omega]
  have l3 : (2 : Int) ^ c1.level = 2 ^ d := by rw [show c1.level = d by omega]
  have l4 : (2 : Int) ^ d1.level = 2 ^ d := by rw [show d1.level = d by omega]
  have l5 : (2 : Int) ^ a4.level = 2 ^ d := by rw [show a4.level = d by omega]
  have L : (2 : Int) ^ (Sq.node a1 a2 a3 a4).level = 2 * 2 ^ d := by rw [la, e2]
  refine node_get (A := a4) (h := 2 ^ d) l5 (f := fun x y => (Sq.node (.node a1 a2 a3 a4) (.node b1 b2 b3 b4) (.node c1 c2 c3 c4) (.node d1 d2 d3 d4)).get (x + 2 ^ d) (y + 2 ^ d)) ?_ ?_ ?_ ?_
  · intro x y a b c e
    show _ = (Sq.node (.node a1 a2 a3 a4) _ _ _).get (x + 2 ^ d) (y + 2 ^ d)
    rw [(get_nodeJ L (by omega) (by omega) (by omega) (by omega)).1, (get_nodeJ l1 a b c e).2.2.2]
  · intro x y a b c e
    show _ = (Sq.node (.node a1 a2 a3 a4) _ _ _).get (x + 2 ^ d + 2 ^ d) (y + 2 ^ d)
    rw [show x + 2 ^ d + 2 ^ d = x + 2 * 2 ^ d by omega, (get_nodeJ L a (by omega) (by omega) (by omega)).2.1, (get_nodeJ l2 a b c e).2.2.1]
  · intro x y a b c e
    show _ = (Sq.node (.node a1 a2 a3 a4) _ _ _).get (x + 2 ^ d) (y + 2 ^ d + 2 ^ d)
    rw [show y + 2 ^ d + 2 ^ d = y + 2 * 2 ^ d by omega, (get_nodeJ L (by omega) (by omega) c (by omega)).2.2.1, (get_nodeJ l3 a b c e).2.1]
  · intro x y a b c e
    show _ = (Sq.node (.node a1 a2 a3 a4) _ _ _).get (x + 2 ^ d + 2 ^ d) (y + 2 ^ d + 2 ^ d)
    rw [show x + 2 ^ d + 2 ^ d = x + 2 * 2 ^ d by omega, show y + 2 ^ d + 2 ^ d = y + 2 * 2 ^ d by omega, (get_nodeJ L a (by omega) c (by omega)).2.2.2, (get_nodeJ l4 a b c e).1]
theorem step_ok {cs : List Cla} (hw : ∀ c ∈ cs, ClaW c) {S : Sq} (w : S.wf) (h : S.level = 2) : (stepSq cs S).wf ∧ (stepSq cs S).level = 1 ∧ ∀ x y, 0 ≤ x → x < 2 → 0 ≤ y → y < 2 → (stepSq cs S).get x y = itF cs 1 S.get (x + 1) (y + 1) := by
  have lf := six_leaves w h
  obtain ⟨a1, a2, a3, a4, b1, b2, b3, b4, c1, c2, c3, c4, d1, d2, d3, d4, rfl⟩ := Sq.mid_form w (by omega)
  have g : ∀ T ∈ six (.node (.node a1 a2 a3 a4) (.node b1 b2 b3 b4) (.node c1 c2 c3 c4) (.node d1 d2 d3 d4)), ∃ s, T = .leaf s ∧ St s := lf
  simp only [six, List.mem_cons, List.not_mem_nil, or_false, forall_eq_or_imp, forall_eq] at g
  obtain ⟨⟨s0, rfl, h0⟩, ⟨s1, rfl, h1⟩, ⟨s2, rfl, h2⟩, ⟨s3, rfl, h3⟩, ⟨s4, rfl, h4⟩, ⟨s5, rfl, h5⟩, ⟨s6, rfl, h6⟩, ⟨s7, rfl, h7⟩, ⟨s8, rfl, h8⟩, ⟨s9, rfl, h9⟩, ⟨s10, rfl, h10⟩, ⟨s11, rfl, h11⟩, ⟨s12, rfl, h12⟩, ⟨s13, rfl, h13⟩, ⟨s14, rfl, h14⟩, ⟨s15, rfl, h15⟩⟩ := g
  refine ⟨⟨makes_st hw h5 _, makes_st hw h6 _, makes_st hw h9 _, makes_st hw h10 _, rfl, rfl, rfl⟩, rfl, fun x y a b c d => ?_⟩
  obtain rfl | rfl : x = 0 ∨ x = 1 := by omega
  · obtain rfl | rfl : y = 0 ∨ y = 1 := by omega
    · rfl
    · rfl
  · obtain rfl | rfl : y = 0 ∨ y = 1 := by omega
    · rfl
    · rfl
theorem jump_ok {cs : List Cla} (hw : ∀ c ∈ cs, ClaW c) : ∀ (d e : Nat) (S : Sq), S.wf → S.level = d + 2 → e ≤ d → (jumpN cs d e S).wf ∧ (jumpN cs d e S).level = d + 1 ∧ ∀ x y, 0 ≤ x → x < 2 * 2 ^ d → 0 ≤ y → y < 2 * 2 ^ d → (jumpN cs d e S).get x y = itF cs (2 ^ e) S.get (x + 2 ^ d) (y + 2 ^ d)
  | 0, e, S, w, h, he => by
    obtain rfl : e = 0 := by omega
    obtain ⟨a, b, c⟩ := step_ok hw w h
    exact ⟨a, b, fun x y x0 x1 y0 y1 => c x y x0 x1 y0 y1⟩
  | d + 1, e, S, w, h, he => by
    have e2 := Sq.two_succ d
    have hp := Sq.two_pos d
    obtain ⟨e', he'⟩ : ∃ e', e' = (if e = d + 1 then e - 1 else e) := ⟨_, rfl⟩
    have he1 : e' ≤ d := by rw [he']; split <;> omega
    have pw : (2 : Int) ^ e' ≤ 2 ^ d := by
      have := Nat.pow_le_pow_right (show 0 < 2 by decide) he1
      exact_mod_cast this
    have cast2 : ((2 ^ e' : Nat) : Int) = 2 ^ e' := by rw [Int.natCast_pow]; rfl
    generalize hN : (fun i j => jumpN cs d e' (part S i j)) = N
    have NN : ∀ i j, i < 3 → j < 3 → (N i j).wf ∧ (N i j).level = d + 1 ∧ ∀ x y, 0 ≤ x → x < 2 * 2 ^ d → 0 ≤ y → y < 2 * 2 ^ d → (N i j).get x y = itF cs (2 ^ e') S.get (x + 2 ^ d + i * 2 ^ (d + 1)) (y + 2 ^ d + j * 2 ^ (d + 1)) := fun i j hi hj => by
      obtain ⟨pw1, pl⟩ := part_ok w h hi hj
      obtain ⟨a, b, c⟩ := jump_ok hw d e' (part S i j) pw1 pl he1
      rw [← hN]
      refine ⟨a, b, fun x y x0 x1 y0 y1 => ?_⟩
      rw [c x y x0 x1 y0 y1]
      refine itF_loc cs (X := 0) (X' := 2 * 2 ^ (d + 1)) (Y := 0) (Y' := 2 * 2 ^ (d + 1)) (fun u v a b c e => part_get w h hi hj a b c e) _ _ _ ?_ ?_ ?_ ?_ <;> (rw [cast2]; omega)
    have FF : ∀ i j, i < 2 → j < 2 → ∀ x y, 0 ≤ x → x < 2 * 2 ^ (d + 1) → 0 ≤ y → y < 2 * 2 ^ (d + 1) → (Sq.node (N i j) (N (i + 1) j) (N i (j + 1)) (N (i + 1) (j + 1))).get x y = itF cs (2 ^ e') S.get (x + (2 ^ d + i * 2 ^ (d + 1))) (y + (2 ^ d + j * 2 ^ (d + 1))) := fun i j hi hj => by
      have s1 : ∀ (u : Int) (k : Nat), u + 2 ^ (d + 1) + (2 ^ d + (k : Int) * 2 ^ (d + 1)) = u + 2 ^ d + ((k + 1 : Nat) : Int) * 2 ^ (d + 1) := fun u k => by
        have : ((k + 1 : Nat) : Int) * 2 ^ (d + 1) = (k : Int) * 2 ^ (d + 1) + 2 ^ (d + 1) := by
          rw [Int.natCast_add, Int.add_mul]; simp
        rw [this]; omega
      have s0 : ∀ (u : Int) (k : Nat), u + (2 ^ d + (k : Int) * 2 ^ (d + 1)) = u + 2 ^ d + (k : Int) * 2 ^ (d + 1) := fun u k => by omega
      refine node_get (A := N i j) (h := 2 ^ (d + 1)) (by rw [(NN i j (by omega) (by omega)).2.1]) (f := fun x y => itF cs (2 ^ e') S.get (x + (2 ^ d + i * 2 ^ (d + 1))) (y + (2 ^ d + j * 2 ^ (d + 1)))) ?_ ?_ ?_ ?_
      · intro x y a b c z
        rw [(NN i j (by omega) (by omega)).2.2 x y a (by omega) c (by omega)]
        show _ = itF cs (2 ^ e') S.get (x + (2 ^ d + i * 2 ^ (d + 1))) (y + (2 ^ d + j * 2 ^ (d + 1)))
        rw [s0, s0]
      · intro x y a b c z
        rw [(NN (i + 1) j (by omega) (by omega)).2.2 x y a (by omega) c (by omega)]
        show _ = itF cs (2 ^ e') S.get (x + 2 ^ (d + 1) + (2 ^ d + i * 2 ^ (d + 1))) (y + (2 ^ d + j * 2 ^ (d + 1)))
        rw [s1, s0]
      · intro x y a b c z
        rw [(NN i (j + 1) (by omega) (by omega)).2.2 x y a (by omega) c (by omega)]
        show _ = itF cs (2 ^ e') S.get (x + (2 ^ d + i * 2 ^ (d + 1))) (y + 2 ^ (d + 1) + (2 ^ d + j * 2 ^ (d + 1)))
        rw [s1, s0]
      · intro x y a b c z
        rw [(NN (i + 1) (j + 1) (by omega) (by omega)).2.2 x y a (by omega) c (by omega)]
        show _ = itF cs (2 ^ e') S.get (x + 2 ^ (d + 1) + (2 ^ d + i * 2 ^ (d + 1))) (y + 2 ^ (d + 1) + (2 ^ d + j * 2 ^ (d + 1)))
        rw [s1, s1]
    obtain ⟨Fo, hFo⟩ : ∃ Fo : Nat → Nat → Sq, Fo = fun i j => if e = d + 1 then jumpN cs d (e - 1) (.node (N i j) (N (i + 1) j) (N i (j + 1)) (N (i + 1) (j + 1))) else meet (N i j) (N (i + 1) j) (N i (j + 1)) (N (i + 1) (j + 1)) := ⟨_, rfl⟩
    have hJ : jumpN cs (d + 1) e S = .node (Fo 0 0) (Fo 1 0) (Fo 0 1) (Fo 1 1) := by
      rw [hFo, ← hN, he']
      rfl
    have FO : ∀ i j, i < 2 → j < 2 → (Fo i j).wf ∧ (Fo i j).level = d + 1 ∧ ∀ x y, 0 ≤ x → x < 2 * 2 ^ d → 0 ≤ y → y < 2 * 2 ^ d → (Fo i j).get x y = itF cs (2 ^ e) S.get (x + 2 ^ (d + 1) + i * 2 ^ (d + 1)) (y + 2 ^ (d + 1) + j * 2 ^ (d + 1)) := fun i j hi hj => by
      obtain ⟨w1, l1, _⟩ := NN i j (by omega) (by omega)
      obtain ⟨w2, l2, _⟩ := NN (i + 1) j (by omega) (by omega)
      obtain ⟨w3, l3, _⟩ := NN i (j + 1) (by omega) (by omega)
      obtain ⟨w4, l4, _⟩ := NN (i + 1) (j + 1) (by omega) (by omega)
      have f := FF i j hi hj
      rw [hFo]
      by_cases z : e = d + 1
      · have ee : e' = d := by rw [he', if_pos z]; omega
        subst z
        simp only [if_pos]
        obtain ⟨a, b, c⟩ := jump_ok hw d (d + 1 - 1) (.node (N i j) (N (i + 1) j) (N i (j + 1)) (N (i + 1) (j + 1))) ⟨w1, w2, w3, w4, by omega, by omega, by omega⟩ (by show (N i j).level + 1 = d + 2; omega) (by omega)
        refine ⟨a, b, fun x y x0 x1 y0 y1 => ?_⟩
        rw [c x y x0 x1 y0 y1]
        rw [ee] at f cast2
        have k := itF_loc cs (f := (Sq.node (N i j) (N (i + 1) j) (N i (j + 1)) (N (i + 1) (j + 1))).get) (g := itF cs (2 ^ d) S.get) (X := 0) (X' := 2 * 2 ^ (d + 1)) (Y := 0) (Y' := 2 * 2 ^ (d + 1)) (dx := 2 ^ d + i * 2 ^ (d + 1)) (dy := 2 ^ d + j * 2 ^ (d + 1)) f (2 ^ d) (x + 2 ^ d) (y + 2 ^ d) (by rw [cast2]; omega) (by rw [cast2]; omega) (by rw [cast2]; omega) (by rw [cast2]; omega)
        rw [show d + 1 - 1 = d by omega, k, ← itF_add, show 2 ^ d + 2 ^ d = 2 ^ (d + 1) by rw [Nat.pow_succ]; omega]
        rw [show x + 2 ^ d + (2 ^ d + (i : Int) * 2 ^ (d + 1)) = x + 2 ^ (d + 1) + i * 2 ^ (d + 1) by omega, show y + 2 ^ d + (2 ^ d + (j : Int) * 2 ^ (d + 1)) = y + 2 ^ (d + 1) + j * 2 ^ (d + 1) by omega]
      · have ee : e' = e := by rw [he', if_neg z]
        simp only [if_neg z]
        obtain ⟨a, b, c⟩ := meet_ok w1 w2 w3 w4 l1 l2 l3 l4
        refine ⟨a, b, fun x y x0 x1 y0 y1 => ?_⟩
        rw [c x y x0 x1 y0 y1, f _ _ (by omega) (by omega) (by omega) (by omega), ee]
        rw [show x + 2 ^ d + (2 ^ d + (i : Int) * 2 ^ (d + 1)) = x + 2 ^ (d + 1) + i * 2 ^ (d + 1) by omega, show y + 2 ^ d + (2 ^ d + (j : Int) * 2 ^ (d + 1)) = y + 2 ^ (d + 1) + j * 2 ^ (d + 1) by omega]
    rw [hJ]
    obtain ⟨w1, l1, g1⟩ := FO 0 0 (by omega) (by omega)
    obtain ⟨w2, l2, g2⟩ := FO 1 0 (by omega) (by omega)
    obtain ⟨w3, l3, g3⟩ := FO 0 1 (by omega) (by omega)
    obtain ⟨w4, l4, g4⟩ := FO 1 1 (by omega) (by omega)
    refine ⟨⟨w1, w2, w3, w4, by omega, by omega, by omega⟩, by show (Fo 0 0).level + 1 = d + 1 + 1; omega, ?_⟩
    have q0 : ∀ z : Int, z + ((0 : Nat) : Int) * 2 ^ (d + 1) = z := fun z => by simp
    have q1 : ∀ z : Int, z + ((1 : Nat) : Int) * 2 ^ (d + 1) = z + 2 ^ (d + 1) := fun z => by simp
    refine node_get (A := Fo 0 0) (h := 2 ^ (d + 1)) (by rw [l1]) (f := fun x y => itF cs (2 ^ e) S.get (x + 2 ^ (d + 1)) (y + 2 ^ (d + 1))) ?_ ?_ ?_ ?_
    · intro x y a b c z
      rw [g1 x y a (by omega) c (by omega), q0, q0]
    · intro x y a b c z
      rw [g2 x y a (by omega) c (by omega), q0, q1]
    · intro x y a b c z
      rw [g3 x y a (by omega) c (by omega), q0, q1]
    · intro x y a b c z
      rw [g4 x y a (by omega) c (by omega), q1, q1]
end JF

/-! ### jumps of squares of any level, remembered -/
namespace JF
open PySem PySem.Spec PyProof.Rows L2
/-- what is remembered is right -/
def KnG (cs : List Cla) (q : List Sq) (kvs : List (List Key × V)) : Prop := ∀ (n e : Int) v, valV kvs [Sum.inl n, Sum.inl e] = some v → ∃ (n' m d e' : Nat) (S : Sq), n = (n' : Int) ∧ e = (e' : Int) ∧ v = .int (m : Int) ∧ q[n']? = some S ∧ S.level = d + 2 ∧ e' ≤ d ∧ q[m]? = some (jumpN cs d e' S)
theorem KnG.pre {cs : List Cla} {q q' : List Sq} {kvs : List (List Key × V)} (h : KnG cs q kvs) (p : q <+: q') : KnG cs q' kvs := fun n e v z => let ⟨n', m, d, e', S, a, b, c, f, g, i, j⟩ := h n e v z; ⟨n', m, d, e', S, a, b, c, pre_get p f, g, i, pre_get p j⟩
theorem KnG.nil {cs : List Cla} {q : List Sq} : KnG cs q [] := fun n e v z => by cases z
theorem KnG.put {cs : List Cla} {q : List Sq} {kvs : List (List Key × V)} (h : KnG cs q kvs) {n m d e : Nat} {S : Sq} (a : q[n]? = some S) (l : S.level = d + 2) (he : e ≤ d) (b : q[m]? = some (jumpN cs d e S)) : KnG cs q (putK kvs [Sum.inl (n : Int), Sum.inl (e : Int)] (.int (m : Int))) := fun n1 e1 v z => by
  rw [valV_put] at z
  split at z
  · next y =>
    simp only [List.cons.injEq, Sum.inl.injEq, and_true] at y
    cases z
    exact ⟨n, m, d, e, S, y.1, y.2, rfl, a, l, he, b⟩
  · exact h n1 e1 v z
abbrev nats (ms : List Nat) : List V := ms.map fun n : Nat => V.int (n : Int)
def nineAt : List Nat := [0, 1, 2, 4, 5, 6, 8, 9, 10]
def fourAt : List Nat := [0, 1, 3, 4]
theorem OwnO.one {a : GA} {rows : List (Int × Addr)} {H : Hp} {p : Addr} {o : HO} (h : H p = some o) (m : ¬ HO.still o) (n : p ∉ a.muts rows) : OwnO a rows H [(p, o)] :=
  ⟨by simp, fun b u z => by rw [List.mem_singleton] at z; cases z; exact h, fun b u z => by rw [List.mem_singleton] at z; cases z; exact m, fun b u z => by rw [List.mem_singleton] at z; cases z; exact n⟩
theorem snoc_cases {α : Type} {l : List α} {x y : α} {j : Nat} (h : (l ++ [x])[j]? = some y) : l[j]? = some y ∨ (j = l.length ∧ y = x) := by
  rcases Nat.lt_or_ge j l.length with hj | hj
  · rw [List.getElem?_append_left hj] at h
    exact .inl h
  · have hj' : j = l.length := by
      have := (List.getElem?_eq_some_iff.mp h).1
      rw [List.length_append] at this
      simp at this
      omega
    subst hj'
    rw [List.getElem?_append_right (Nat.le_refl _), Nat.sub_self] at h
    cases h
    exact .inr ⟨rfl, rfl⟩
theorem nats_get {ms : List Nat} {k m : Nat} (h : ms[k]? = some m) : atI (nats ms) ((k : Nat) : Int) = some (.int (m : Int)) := atI_nat (map_get _ h)
section
variable {P : Program} {w : World} {K : PySem.W.Frag} {mg : Str → Option Value} {base : Heap}
def sp_nine (C : Addr) : Sp := fun vs H Q _ => ∃ (a : GA) (rows : List (Int × Addr)) (q : List Sq) (n : Nat) (S : Sq), vs = [.ref a.g, .int (n : Int)] ∧ GAt C H a rows q ∧ q[n]? = some S ∧ 2 ≤ S.level ∧ S.level ≤ 60 ∧ q.length + 20 < 16000000 ∧
  ∀ H' q' l (ms : List Nat), GAt C H' a rows q' → q <+: q' → Fr a.m5 H H' → q'.length ≤ q.length + 9 → H l = none → H' l = some (.lst (nats ms)) → l ∉ a.muts rows → ms.length = 9 → (∀ k m : Nat, ms[k]? = some m → q'[m]? = some (part S (k % 3) (k / 3))) → Q (.ref l) H'
theorem mp_nine {C : Addr} : MonP (sp_nine C) := fun vs H Q Q' E h ⟨a, rows, q, n, S, x1, x2, x3, x4, x5, x6, k⟩ => ⟨a, rows, q, n, S, x1, x2, x3, x4, x5, x6, fun H' q' l ms a b c d e f g i j => h _ _ (k H' q' l ms a b c d e f g i j)⟩
theorem ok_nine (T : Env fa fn K mg) : Good P w K mg base CX0 5 ("nine_of", none) ["grove", "square"] (sp_nine (CG K)) := by
  have G_sixteen := ok_sixteen (P := P) (w := w) (base := base) T
  have G_Grove_knit := ok_knit (P := P) (w := w) (base := base) T
  refine good_mk T 44 (d := d_nine_of) (N := ["grove", "square", "some", "parts", "at"]) (ps := ["grove", "square"]) rfl rfl sc_nine_of (fun _ _ _ _ _ _ us hl => match us, hl with | [_, _], _ => rfl) (fun vs H Q E h => ?_) (fun f cdv A outer σ0 H vs Q E hr h => ?_)
  · obtain ⟨a, rows, q, n, S, rfl, _⟩ := h; rfl
  · obtain ⟨a, rows, q, n, S, rfl, G, hn, l2, l60, hq, k⟩ := h
    have wS := G.wf _ (List.mem_of_getElem? hn)
    obtain ⟨d, hd⟩ : ∃ d, S.level = d + 2 := ⟨S.level - 2, by omega⟩
    refine ⟨_, (pss_cons (ps_set (i := 2) sc_nine_of.nd rfl (Or.inl rfl) (pe_cgK K rfl G_sixteen (hr.mono (by decide)) (T.glo 48) (pa_cons (pv 0) (pa_cons (pv 1) pa_nil))))
      (pss_cons (ps_set (i := 3) sc_nine_of.nd rfl (Or.inl rfl) (pe_lst pa_nil))
      (pss_cons (ps_for PassesOwn.never rfl (pi_tupK K rfl (pe_tup (pa_cons pe_int (pa_cons pe_int (pa_cons pe_int (pa_cons pe_int (pa_cons pe_int (pa_cons pe_int (pa_cons pe_int (pa_cons pe_int (pa_cons pe_int pa_nil))))))))))) (pg_name (i := 4) sc_nine_of.nd rfl (Or.inl rfl)) (pss_one (ps_expr (pe_bm PySem.F.plainAttrs_list PySem.F.slot_list_append PySem.F.type_list_append mt_append (pv 3) (pa_cons (pe_mgK K rfl (pv 0) (T.cls 9) (T.meth 13) G_Grove_knit (hr.mono (by decide)) (pa_cons (pe_ix (ix_listK K rfl) (pv 2) (pv 4) (fun _ _ => rfl)) (pa_cons (pe_ix (ix_listK K rfl) (pv 2) (pe_op op_add (pv 4) pe_int) (fun _ _ => rfl)) (pa_cons (pe_ix (ix_listK K rfl) (pv 2) (pe_op op_add (pv 4) pe_int) (fun _ _ => rfl)) (pa_cons (pe_ix (ix_listK K rfl) (pv 2) (pe_op op_add (pv 4) pe_int) (fun _ _ => rfl)) pa_nil))))) pa_nil)))))
      (pss_one (ps_ret (pv 3)))))), ?_⟩
    walk_at "rd"
    refine ⟨a, rows, q, n, S, rfl, G, hn, l2, by omega, fun H1 l ms s1 hl L1 ml hms => ?_⟩
    have G1 := G.same s1
    have O1 : OwnO a rows H1 [(l, .lst (nats ms))] := .one L1 (fun z => z) (fun z => by
      obtain ⟨o, e, _⟩ := G.muts_some z
      rw [hl] at e; cases e)
    have sx_at : ∀ j, j < 16 → ∃ m, ms[j]? = some m ∧ q[m]? = some (sx S j) := fun j hj => ⟨_, at_get (by omega), hms j _ _ (at_get (by omega)) (sx_get wS l2 hj)⟩
    walk_at "rd"
    refine rd_new (hn := by show 0 ≤ sizeLine; decide) fun pk hpk => ?_
    have s2 := same_upd (o := .lst []) hpk
    have O2 := O1.new (o := .lst []) G1 hpk (fun z => z)
    have G2 := G1.same s2
    have s12 := s1.trans s2
    generalize upd H1 pk (.lst []) = H2 at *
    walk_at "rd"
    refine rd_new (hn := by show 9 ≤ sizeLine; decide) fun t ht => ?_
    have s3 := same_upd (o := .tup [V.int 0, V.int 1, V.int 2, V.int 4, V.int 5, V.int 6, V.int 8, V.int 9, V.int 10]) ht
    have T3 : (upd H2 t (.tup [V.int 0, V.int 1, V.int 2, V.int 4, V.int 5, V.int 6, V.int 8, V.int 9, V.int 10])) t = some (.tup (nats nineAt)) := upd_same
    have O3 := O2.same s3
    have G3 := G2.same s3
    have s13 := s12.trans s3
    generalize upd H2 t (.tup [V.int 0, V.int 1, V.int 2, V.int 4, V.int 5, V.int 6, V.int 8, V.int 9, V.int 10]) = H3 at *
    have pm5 : ∀ {b : Addr}, b ∈ a.m5 → b ∈ a.muts rows := fun h => List.mem_append_left _ h
    have tpk : t ∉ pk :: a.m5 := fun z => by
      rcases List.mem_cons.mp z with rfl | z
      · have := O3.ix 0 rfl
        rw [T3] at this; cases this
      · exact G3.tup_out T3 (pm5 z)
    have hpk0 : H pk = none := none_of s1 hpk
    walk_at "rd"
    refine ⟨t, rfl, ⟨_, SqT.of T3⟩, ?_⟩
    refine for_it (walk_tup (xs := nats nineAt)) (fun i σ H' => ∃ (q' : List Sq) (ms' : List Nat) (x4 : Option V), σ = [some (.ref a.g), some (.int (n : Int)), some (.ref l), some (.ref pk), x4] ∧ GAt (CG K) H' a rows q' ∧ q <+: q' ∧ Fr (pk :: a.m5) H3 H' ∧ OwnO a rows H' [(pk, .lst (nats ms')), (l, .lst (nats ms))] ∧ ms'.length = i ∧ q'.length ≤ q.length + i ∧ ∀ k m : Nat, ms'[k]? = some m → q'[m]? = some (part S (k % 3) (k / 3)))
      ⟨q, [], none, rfl, G3, List.prefix_refl _, Fr.refl _ _, O3, rfl, by omega, fun k m e => by simp at e⟩ ?_ ?_ ?_
    · rintro i σ H' _ ⟨q', ms', x4, _, _, _, fr, _⟩
      exact SqT.of (fr _ _ T3 tpk)
    · rintro i v σ Ha Hb hi ⟨q', ms', x4, rfl, Gb, pre, fr, O, mll, qll, hmm⟩ ⟨rfl, hv⟩
      have hi9 : i < 9 := hi
      obtain ⟨at_, rfl, hat⟩ : ∃ at_ : Nat, v = .int (at_ : Int) ∧ at_ = 4 * (i / 3) + i % 3 := by
        match i, hi9, hv with
        | 0, _, hv => exact ⟨0, (Option.some.inj hv).symm, rfl⟩
        | 1, _, hv => exact ⟨1, (Option.some.inj hv).symm, rfl⟩
        | 2, _, hv => exact ⟨2, (Option.some.inj hv).symm, rfl⟩
        | 3, _, hv => exact ⟨4, (Option.some.inj hv).symm, rfl⟩
        | 4, _, hv => exact ⟨5, (Option.some.inj hv).symm, rfl⟩
        | 5, _, hv => exact ⟨6, (Option.some.inj hv).symm, rfl⟩
        | 6, _, hv => exact ⟨8, (Option.some.inj hv).symm, rfl⟩
        | 7, _, hv => exact ⟨9, (Option.some.inj hv).symm, rfl⟩
        | 8, _, hv => exact ⟨10, (Option.some.inj hv).symm, rfl⟩
      have h10 : at_ ≤ 10 := by omega
      obtain ⟨m0, a0, b0⟩ := sx_at at_ (by omega)
      obtain ⟨m1, a1, b1⟩ := sx_at (at_ + 1) (by omega)
      obtain ⟨m2, a2, b2⟩ := sx_at (at_ + 4) (by omega)
      obtain ⟨m3, a3, b3⟩ := sx_at (at_ + 5) (by omega)
      obtain ⟨pw, pl⟩ := part_ok wS hd (show i % 3 < 3 by omega) (show i / 3 < 3 by omega)
      have pe : part S (i % 3) (i / 3) = .node (sx S at_) (sx S (at_ + 1)) (sx S (at_ + 4)) (sx S (at_ + 5)) := by rw [hat]; rfl
      walk_at "rd"
      refine rd_tyL (O.ix 0 rfl) ?_
      walk_at "rd"
      refine rd_methR Gb.ob (by rfl) ?_
      walk_at "rd"
      refine rd_ixL (SqL.of (O.ix 1 rfl)) (nats_get a0) ?_
      walk_at "rd"
      rw [show (at_ : Int) + 1 = ((at_ + 1 : Nat) : Int) by omega]
      refine rd_ixL (SqL.of (O.ix 1 rfl)) (nats_get a1) ?_
      walk_at "rd"
      rw [show (at_ : Int) + 4 = ((at_ + 4 : Nat) : Int) by omega]
      refine rd_ixL (SqL.of (O.ix 1 rfl)) (nats_get a2) ?_
      walk_at "rd"
      rw [show (at_ : Int) + 5 = ((at_ + 5 : Nat) : Int) by omega]
      refine rd_ixL (SqL.of (O.ix 1 rfl)) (nats_get a3) ?_
      walk_at "rd"
      refine ⟨a, rows, q', _, _, _, _, m0, m1, m2, m3, rfl, Gb, pre_get pre b0, pre_get pre b1, pre_get pre b2, pre_get pre b3, by rw [← pe]; exact pw, by rw [(sx_ok wS hd (show at_ < 16 by omega)).2]; omega, by omega, fun H5 q5 m5 G5 pre5 len5 hm5 fr5 => ?_⟩
      have st5 := GStep.of5 G5 pre5 fr5
      have O5 := O.step st5
      have hml : (nats ms').length < sizeLine := by rw [List.length_map]; exact small1000 (by omega)
      walk_at "rd"
      refine rd_append (O5.ix 0 rfl) hml ?_
      have O6 := O5.put 0 rfl (.lst (nats ms' ++ [V.int (m5 : Int)])) (fun z => z)
      have G6 := G5.ownO O5 0 rfl (.lst (nats ms' ++ [V.int (m5 : Int)]))
      walk_at "rd"
      refine ⟨q5, ms' ++ [m5], _, rfl, G6, pre.trans pre5, (fr.trans (fr5.mono fun b h => List.mem_cons_of_mem _ h)).trans fun b o e n => (by rw [upd_ne (fun z => n (by rw [z]; exact List.mem_cons_self))]; exact e), ?_, by rw [List.length_append, mll]; rfl, by omega, fun k m e1 => ?_⟩
      · unfold nats; rw [List.map_append]; exact O6
      · rcases snoc_cases e1 with e1 | ⟨rfl, rfl⟩
        · exact pre_get pre5 (hmm k m e1)
        · rw [mll, hm5, pe]
    rintro σ H9 ⟨q', ms', x4, rfl, G9, pre, fr, O, mll, qll, hmm⟩
    walk_at "rd"
    have e9 : (nats nineAt).length = 9 := rfl
    refine k _ q' pk ms' G9 pre (fun b o e n => fr _ _ (s13 _ _ e) fun z => ?_) (by omega) hpk0 (O.ix 0 rfl) (O.out _ _ List.mem_cons_self) (by omega) hmm
    rcases List.mem_cons.mp z with rfl | z
    · rw [hpk0] at e; cases e
    · exact n z
def sp_fours : Sp := fun vs H Q _ => ∃ (p : Addr) (ms : List Nat), vs = [.ref p] ∧ H p = some (.lst (nats ms)) ∧ ms.length = 9 ∧ ∀ H' l (rs : List Addr), Same H H' → H l = none → H' l = some (.lst (rs.map V.ref)) → rs.length = 4 → (∀ (k : Nat) r, rs[k]? = some r → ∃ m0 m1 m2 m3 : Nat, H' r = some (.tup (nats [m0, m1, m2, m3])) ∧ ms[3 * (k / 2) + k % 2]? = some m0 ∧ ms[3 * (k / 2) + (k % 2 + 1)]? = some m1 ∧ ms[3 * (k / 2 + 1) + k % 2]? = some m2 ∧ ms[3 * (k / 2 + 1) + (k % 2 + 1)]? = some m3) → Q (.ref l) H'
theorem mp_fours : MonP sp_fours := fun vs H Q Q' E h ⟨p, ms, x1, x2, x3, k⟩ => ⟨p, ms, x1, x2, x3, fun H' l rs a b c d e => h _ _ (k H' l rs a b c d e)⟩
theorem ok_fours (T : Env fa fn K mg) : Good P w K mg base CX0 1 ("fours_of", none) ["nine"] sp_fours := by
  refine good_mk T 45 (d := d_fours_of) (N := ["nine", "at"]) (ps := ["nine"]) rfl rfl sc_fours_of (fun _ _ _ _ _ _ us hl => match us, hl with | [_], _ => rfl) (fun vs H Q E h => ?_) (fun f cdv A outer σ0 H vs Q E hr h => ?_)
  · obtain ⟨p, ms, rfl, _⟩ := h; rfl
  · obtain ⟨p, ms, rfl, hp, ml, k⟩ := h
    refine ⟨_, (pss_one (ps_ret (pe_lc (own := [("at", 1)]) (tt := tYes) rfl sc_fours_of.nd (pi_tupK K rfl (pe_tup (pa_cons pe_int (pa_cons pe_int (pa_cons pe_int (pa_cons pe_int pa_nil)))))) (blkOk_by (own := [("at", 1)]) (N := ["nine", "at"]) (sc := defScope st_fours_of) (by decide +kernel)) (fun _ _ _ _ _ => by exact (pg_name (i := 1) sc_fours_of.nd rfl (Or.inl rfl))) (fun _ _ _ _ _ => by exact pts_nil) (fun _ _ _ _ _ => by exact (pe_tup (pa_cons (pe_ix (ix_listK K rfl) (pv 0) (pv 1) (fun _ _ => rfl)) (pa_cons (pe_ix (ix_listK K rfl) (pv 0) (pe_op op_add (pv 1) pe_int) (fun _ _ => rfl)) (pa_cons (pe_ix (ix_listK K rfl) (pv 0) (pe_op op_add (pv 1) pe_int) (fun _ _ => rfl)) (pa_cons (pe_ix (ix_listK K rfl) (pv 0) (pe_op op_add (pv 1) pe_int) (fun _ _ => rfl)) pa_nil))))))))), ?_⟩
    walk_at "rd"
    refine rd_new (hn := by show 4 ≤ sizeLine; decide) fun t ht => ?_
    have s1 := same_upd (o := .tup [V.int 0, V.int 1, V.int 3, V.int 4]) ht
    have T1 : (upd H t (.tup [V.int 0, V.int 1, V.int 3, V.int 4])) t = some (.tup (nats fourAt)) := upd_same
    have P1 := s1 _ _ hp
    generalize upd H t (.tup [V.int 0, V.int 1, V.int 3, V.int 4]) = H1 at *
    refine ⟨t, rfl, ⟨_, SqT.of T1⟩, fun D hD => ?_⟩
    refine lc_it (walk_tup (K := K) (a := t) (xs := nats fourAt)) (fun i H' => Same H1 H' ∧ ∃ rs : List Addr, H' D = some (.lst (rs.map V.ref)) ∧ rs.length = i ∧ ∀ (k : Nat) r, rs[k]? = some r → ∃ m0 m1 m2 m3 : Nat, H' r = some (.tup (nats [m0, m1, m2, m3])) ∧ ms[3 * (k / 2) + k % 2]? = some m0 ∧ ms[3 * (k / 2) + (k % 2 + 1)]? = some m1 ∧ ms[3 * (k / 2 + 1) + k % 2]? = some m2 ∧ ms[3 * (k / 2 + 1) + (k % 2 + 1)]? = some m3) ⟨same_upd hD, [], upd_same, rfl, fun k r e => by simp at e⟩ (fun i H' _ h => SqT.of (h.1 _ _ T1)) ?_ ?_
    · rintro i v Ha Hb hi ⟨s2, rs, LD, rl, hrs⟩ ⟨rfl, hv⟩
      have hi4 : i < 4 := hi
      obtain ⟨at_, rfl, hat⟩ : ∃ at_ : Nat, v = .int (at_ : Int) ∧ at_ = 3 * (i / 2) + i % 2 := by
        match i, hi4, hv with
        | 0, _, hv => exact ⟨0, (Option.some.inj hv).symm, rfl⟩
        | 1, _, hv => exact ⟨1, (Option.some.inj hv).symm, rfl⟩
        | 2, _, hv => exact ⟨3, (Option.some.inj hv).symm, rfl⟩
        | 3, _, hv => exact ⟨4, (Option.some.inj hv).symm, rfl⟩
      have h4 : at_ ≤ 4 := by omega
      have gt : ∀ j, j < 9 → ∃ m, ms[j]? = some m := fun j hj => ⟨_, at_get (by omega)⟩
      obtain ⟨m0, a0⟩ := gt at_ (by omega)
      obtain ⟨m1, a1⟩ := gt (at_ + 1) (by omega)
      obtain ⟨m2, a2⟩ := gt (at_ + 3) (by omega)
      obtain ⟨m3, a3⟩ := gt (at_ + 4) (by omega)
      have Pb := s2 _ _ P1
      walk_at "rd"
      refine ⟨rfl, ?_⟩
      walk_at "rd"
      refine rd_ixL (SqL.of Pb) (nats_get a0) ?_
      walk_at "rd"
      rw [show (at_ : Int) + 1 = ((at_ + 1 : Nat) : Int) by omega]
      refine rd_ixL (SqL.of Pb) (nats_get a1) ?_
      walk_at "rd"
      rw [show (at_ : Int) + 3 = ((at_ + 3 : Nat) : Int) by omega]
      refine rd_ixL (SqL.of Pb) (nats_get a2) ?_
      walk_at "rd"
      rw [show (at_ : Int) + 4 = ((at_ + 4 : Nat) : Int) by omega]
      refine rd_ixL (SqL.of Pb) (nats_get a3) ?_
      walk_at "rd"
      refine rd_new (hn := by show 4 ≤ sizeLine; decide) fun u hu => ?_
      have s3 := same_upd (o := .tup [V.int (m0 : Int), V.int (m1 : Int), V.int (m2 : Int), V.int (m3 : Int)]) hu
      have U3 : (upd Hb u (.tup [V.int (m0 : Int), V.int (m1 : Int), V.int (m2 : Int), V.int (m3 : Int)])) u = some (.tup (nats [m0, m1, m2, m3])) := upd_same
      have LD3 := s3 _ _ LD
      have s23 := s2.trans s3
      generalize upd Hb u (.tup [V.int (m0 : Int), V.int (m1 : Int), V.int (m2 : Int), V.int (m3 : Int)]) = H3 at *
      have tu := Tup.put LD3 (.lst (rs.map V.ref ++ [V.ref u]))
      refine ⟨_, LD3, by rw [List.length_map]; exact small1000 (by omega), Same.put2 s23 hD, rs ++ [u], ?_, by rw [List.length_append, rl]; rfl, fun k r e => ?_⟩
      · rw [upd_same, List.map_append]; rfl
      · rcases snoc_cases e with e | ⟨rfl, rfl⟩
        · obtain ⟨x0, x1, x2, x3, y0, y1⟩ := hrs k r e
          exact ⟨x0, x1, x2, x3, tu _ _ (s3 _ _ y0), y1⟩
        · rw [rl]
          refine ⟨m0, m1, m2, m3, tu _ _ U3, by rw [← hat]; exact a0, ?_, ?_, ?_⟩
          · rw [show 3 * (i / 2) + (i % 2 + 1) = at_ + 1 by omega]; exact a1
          · rw [show 3 * (i / 2 + 1) + i % 2 = at_ + 3 by omega]; exact a2
          · rw [show 3 * (i / 2 + 1) + (i % 2 + 1) = at_ + 4 by omega]; exact a3
    rintro H3 ⟨s3, rs, LD, rl, hrs⟩
    walk_at "rd"
    exact k _ D rs (s1.trans s3) (none_of s1 hD) LD rl hrs
end
end JF

/-! ### reckoned, at any depth -/
namespace JF
open PySem PySem.Spec PyProof.Rows L2
/-- what a jump rests on, within a list of squares with their powers -/
def ClosedJ (cs : List Cla) (P : List (Sq × Nat)) : Prop := ∀ (S : Sq) (d e : Nat), (S, e) ∈ P → S.wf → S.level = d + 1 + 2 → e ≤ d + 1 → (∀ i j, i < 3 → j < 3 → (part S i j, if e = d + 1 then e - 1 else e) ∈ P) ∧
  (e = d + 1 → ∀ i j, i < 2 → j < 2 → (Sq.node (jumpN cs d (e - 1) (part S i j)) (jumpN cs d (e - 1) (part S (i + 1) j)) (jumpN cs d (e - 1) (part S i (j + 1))) (jumpN cs d (e - 1) (part S (i + 1) (j + 1))), e - 1) ∈ P)
/-- what is remembered is right, each key once, and lies in the list -/
structure KnP (cs : List Cla) (P : List (Sq × Nat)) (q : List Sq) (kvs : List (List Key × V)) : Prop where
  nd : (kvs.map Prod.fst).Nodup
  ok : ∀ x ∈ kvs, ∃ (n m d e : Nat) (S : Sq), x = ([Sum.inl (n : Int), Sum.inl (e : Int)], .int (m : Int)) ∧ q[n]? = some S ∧ S.level = d + 2 ∧ e ≤ d ∧ q[m]? = some (jumpN cs d e S) ∧ (S, e) ∈ P
theorem KnP.nil {cs : List Cla} {P : List (Sq × Nat)} {q : List Sq} : KnP cs P q [] := ⟨by simp, fun x h => by cases h⟩
theorem KnP.pre {cs : List Cla} {P : List (Sq × Nat)} {q q' : List Sq} {kvs : List (List Key × V)} (h : KnP cs P q kvs) (p : q <+: q') : KnP cs P q' kvs := ⟨h.nd, fun x hx => let ⟨n, m, d, e, S, a, b, c, f, g, i⟩ := h.ok x hx; ⟨n, m, d, e, S, a, pre_get p b, c, f, pre_get p g, i⟩⟩
theorem KnP.more {cs : List Cla} {P P' : List (Sq × Nat)} {q : List Sq} {kvs : List (List Key × V)} (h : KnP cs P q kvs) (s : ∀ x ∈ P, x ∈ P') : KnP cs P' q kvs := ⟨h.nd, fun x hx => let ⟨n, m, d, e, S, a, b, c, f, g, i⟩ := h.ok x hx; ⟨n, m, d, e, S, a, b, c, f, g, s _ i⟩⟩
theorem valV_memJ {κ : Type} [DecidableEq κ] {kvs : List (κ × V)} {k : κ} {v : V} (h : valV kvs k = some v) : (k, v) ∈ kvs := by
  unfold valV at h
  cases e : kvs.find? (fun p => decide (p.1 = k)) with
  | none => rw [e] at h; cases h
  | some p =>
    rw [e] at h
    cases h
    have h1 := List.find?_some e
    have h2 := List.mem_of_find?_eq_some e
    have : p.1 = k := of_decide_eq_true h1
    rw [← this]
    exact h2
theorem putK_casesJ {κ : Type} [DecidableEq κ] {kvs : List (κ × V)} {k : κ} {x : V} {e : κ × V} (h : e ∈ putK kvs k x) : e ∈ kvs ∨ e = (k, x) := by
  unfold putK at h
  split at h
  · obtain ⟨e', m, z⟩ := List.mem_map.mp h
    by_cases y : e'.1 = k
    · rw [if_pos y] at z
      exact .inr (by rw [← z, y])
    · rw [if_neg y] at z
      exact .inl (z ▸ m)
  · rcases List.mem_append.mp h with m | m
    · exact .inl m
    · exact .inr (List.mem_singleton.mp m)
theorem valV_noneJ {κ : Type} [DecidableEq κ] {kvs : List (κ × V)} {k : κ} (h : valV kvs k = none) : k ∉ kvs.map Prod.fst := fun z => by
  obtain ⟨p, hp, e⟩ := List.mem_map.mp z
  unfold valV at h
  cases e2 : kvs.find? (fun p => decide (p.1 = k)) with
  | none =>
    have := List.find?_eq_none.mp e2 p hp
    exact this (decide_eq_true e)
  | some p => rw [e2] at h; cases h
theorem KnP.put {cs : List Cla} {P : List (Sq × Nat)} {q : List Sq} {kvs : List (List Key × V)} (h : KnP cs P q kvs) {n m d e : Nat} {S : Sq} (a : q[n]? = some S) (l : S.level = d + 2) (he : e ≤ d) (b : q[m]? = some (jumpN cs d e S)) (hP : (S, e) ∈ P) : KnP cs P q (putK kvs [Sum.inl (n : Int), Sum.inl (e : Int)] (.int (m : Int))) := by
  refine ⟨?_, fun x hx => ?_⟩
  · cases ev : valV kvs [Sum.inl (n : Int), Sum.inl (e : Int)] with
    | none =>
      rw [putK_new _ ev, List.map_append, List.nodup_append]
      refine ⟨h.nd, by simp, fun a ha b hb z => ?_⟩
      simp only [List.map_cons, List.map_nil, List.mem_singleton] at hb
      rw [z, hb] at ha
      exact valV_noneJ ev ha
    | some u =>
      unfold putK
      rw [valV_any, ev]
      show ((kvs.map fun kv => if kv.1 = _ then (kv.1, _) else kv).map Prod.fst).Nodup
      rw [List.map_map]
      have em : (Prod.fst ∘ fun kv : List Key × V => if kv.1 = [Sum.inl (n : Int), Sum.inl (e : Int)] then (kv.1, V.int (m : Int)) else kv) = Prod.fst := by
        funext kv
        show (if kv.1 = _ then (kv.1, V.int (m : Int)) else kv).1 = kv.1
        split <;> rfl
      rw [em]; exact h.nd
  · rcases putK_casesJ hx with hx | rfl
    · exact h.ok x hx
    · exact ⟨n, m, d, e, S, rfl, a, l, he, b, hP⟩
theorem length_putN {kvs : List (List Key × V)} {k : List Key} {x : V} (e : valV kvs k = none) : (putK kvs k x).length = kvs.length + 1 := by
  rw [putK_new _ e, List.length_append]; rfl
/-- what is remembered anew is of small squares -/
def NewJ (d : Nat) (q : List Sq) (kvs kvs' : List (List Key × V)) : Prop := ∀ k v, valV kvs' k = some v → valV kvs k = none → ∃ (n e : Nat) (S : Sq), k = [Sum.inl (n : Int), Sum.inl (e : Int)] ∧ q[n]? = some S ∧ S.level ≤ d + 2
theorem NewJ.refl (d : Nat) (q : List Sq) (kvs : List (List Key × V)) : NewJ d q kvs kvs := fun k v h n => by rw [h] at n; cases n
theorem NewJ.mono {d d' : Nat} {q q' : List Sq} {kvs kvs' : List (List Key × V)} (h : NewJ d q kvs kvs') (l : d ≤ d') (p : q <+: q') : NewJ d' q' kvs kvs' := fun k v e n => let ⟨m, x, S, a, b, c⟩ := h k v e n; ⟨m, x, S, a, pre_get p b, by omega⟩
theorem NewJ.trans {d : Nat} {q q' : List Sq} {kvs kvs1 kvs2 : List (List Key × V)} (h : NewJ d q kvs kvs1) (h' : NewJ d q' kvs1 kvs2) (p : q <+: q') : NewJ d q' kvs kvs2 := fun k v e n => by
  cases e1 : valV kvs1 k with
  | none => exact h' k v e e1
  | some u => exact (h.mono (Nat.le_refl _) p) k u e1 n
theorem NewJ.put {d : Nat} {q q' : List Sq} {kvs kvs1 : List (List Key × V)} (h : NewJ d q kvs kvs1) {n e : Nat} {S : Sq} {x : V} (b : q'[n]? = some S) (l : S.level ≤ d + 2) (p : q <+: q') : NewJ d q' kvs (putK kvs1 [Sum.inl (n : Int), Sum.inl (e : Int)] x) := fun k v z nn => by
  rw [valV_put] at z
  split at z
  · next y => exact ⟨n, e, S, y, b, l⟩
  · exact (h.mono (Nat.le_refl _) p) k v z nn
/-- as many keys as pairs in the list at most -/
theorem KnP.len {cs : List Cla} {P : List (Sq × Nat)} {q : List Sq} {kvs : List (List Key × V)} (h : KnP cs P q kvs) (hq : q.Nodup) : kvs.length ≤ P.length := by
  classical
  have key : ∀ k ∈ kvs.map Prod.fst, ∃ (n e : Nat) (S : Sq), k = [Sum.inl (n : Int), Sum.inl (e : Int)] ∧ q[n]? = some S ∧ (S, e) ∈ P := fun k hk => by
    obtain ⟨x, hx, rfl⟩ := List.mem_map.mp hk
    obtain ⟨n, m, d, e, S, rfl, b, _, _, _, i⟩ := h.ok x hx
    exact ⟨n, e, S, rfl, b, i⟩
  let f : List Key → Sq × Nat := fun k => match k with
    | [Sum.inl n, Sum.inl e] => ((q[n.toNat]?).getD (.leaf 0), e.toNat)
    | _ => (.leaf 0, 0)
  have fe : ∀ {n e : Nat} {S : Sq}, q[n]? = some S → f [Sum.inl (n : Int), Sum.inl (e : Int)] = (S, e) := fun {n e S} b => by
    show ((q[(n : Int).toNat]?).getD (.leaf 0), (e : Int).toNat) = (S, e)
    rw [Int.toNat_natCast, Int.toNat_natCast, b]
    rfl
  have nd : ((kvs.map Prod.fst).map f).Nodup := by
    refine List.pairwise_map.mpr (List.Pairwise.imp_of_mem (fun {a b} ha hb ne z => ?_) h.nd)
    obtain ⟨n, e, S, rfl, b1, _⟩ := key a ha
    obtain ⟨n', e', S', rfl, b2, _⟩ := key b hb
    rw [fe b1, fe b2] at z
    simp only [Prod.mk.injEq] at z
    obtain ⟨rfl, rfl⟩ := z
    obtain ⟨l1, e1⟩ := List.getElem?_eq_some_iff.mp b1
    obtain ⟨l2, e2⟩ := List.getElem?_eq_some_iff.mp b2
    have : n = n' := (List.getElem_inj hq).mp (by rw [e1, e2])
    subst this
    exact ne rfl
  have := nodup_sub_len ((kvs.map Prod.fst).map f) P nd fun x hx => by
    obtain ⟨k, hk, rfl⟩ := List.mem_map.mp hx
    obtain ⟨n, e, S, rfl, b, i⟩ := key k hk
    rw [fe b]; exact i
  rw [List.length_map, List.length_map] at this
  exact this
theorem RuleAtN.ne {N : Addr → Prop} {K : PySem.W.Frag} {H : Hp} {v : V} {cs : List Cla} {dk : Addr} {kvs : List (List Key × V)} (h : RuleAtN N K H v cs) (hd : H dk = some (.dT kvs)) : RuleAtN (fun b => N b ∧ b ≠ dk) K H v cs := by
  have n1 : ∀ {b : Addr} {c dx : Addr} {fs : List (Str × V)}, H b = some (.ins c dx fs) → b ≠ dk := fun e z => by rw [z, hd] at e; cases e
  have n2 : ∀ {b : Addr} {xs : List V}, H b = some (.lst xs) → b ≠ dk := fun e z => by rw [z, hd] at e; cases e
  obtain ⟨p, dx, l, ps, e, h1, h2, h3, h4, h5⟩ := h
  refine ⟨p, dx, l, ps, e, h1, h2, ⟨h3, n1 h1⟩, ⟨h4, n2 h2⟩, h5.imp fun v c hc => ?_⟩
  obtain ⟨p, dx, l, ps, e, h1, h2, h3, h4, h5⟩ := hc
  refine ⟨p, dx, l, ps, e, h1, h2, ⟨h3, n1 h1⟩, ⟨h4, n2 h2⟩, h5.imp fun u k hk => ?_⟩
  cases k with
  | amt st ns => obtain ⟨p, dx, l, e, h1, h2, h3, h4⟩ := hk; exact ⟨p, dx, l, e, h1, h2, ⟨h3, n1 h1⟩, h4, n2 h2⟩
  | plc ws => obtain ⟨p, dx, l, e, h1, h2, h3, h4⟩ := hk; exact ⟨p, dx, l, e, h1, h2, ⟨h3, n1 h1⟩, h4, n2 h2⟩
section
variable {P : Program} {w : World} {K : PySem.W.Frag} {mg : Str → Option Value} {base : Heap}
/-- what stands while a Jumps works, seen from a heap behind: the rule, the instance; L: what may be changed -/
structure RB (K : PySem.W.Frag) (a : GA) (rows : List (Int × Addr)) (p dx dk : Addr) (vr : V) (cs : List Cla) (L : List Addr) (H : Hp) : Prop where
  J : HJ K H p dx a.g vr dk
  R : RuleAtN (fun b => b ∉ L ∧ H b ≠ none) K H vr cs
  W : ∀ c ∈ cs, ClaW c
  pL : p ∉ L
  mu : ∀ b ∈ a.muts rows, b ∈ L
  dL : dk ∈ L
  dm : dk ∉ a.muts rows
/-- .. and now -/
structure RS (K : PySem.W.Frag) (Pj : List (Sq × Nat)) (a : GA) (rows : List (Int × Addr)) (dk : Addr) (cs : List Cla) (L : List Addr) (H H' : Hp) (q : List Sq) (kvs : List (List Key × V)) : Prop where
  G : GAt (CG K) H' a rows q
  fr : Fr L H H'
  D : H' dk = some (.dT kvs)
  kn : KnP cs Pj q kvs
variable {Pj : List (Sq × Nat)} {a : GA} {rows : List (Int × Addr)} {p dx dk : Addr} {vr : V} {cs : List Cla} {L : List Addr} {H H' H2 : Hp} {q q2 : List Sq} {kvs kvs2 : List (List Key × V)}
theorem RB.J' (B : RB K a rows p dx dk vr cs L H) : H p = some (.ins (He.ga K "Jumps") dx [("grove", .ref a.g), ("rule", vr), ("known", .ref dk)]) := B.J
theorem RS.J (S : RS K Pj a rows dk cs L H H' q kvs) (B : RB K a rows p dx dk vr cs L H) : H' p = some (.ins (He.ga K "Jumps") dx [("grove", .ref a.g), ("rule", vr), ("known", .ref dk)]) := S.fr _ _ B.J B.pL
theorem RS.HJ (S : RS K Pj a rows dk cs L H H' q kvs) (B : RB K a rows p dx dk vr cs L H) : HJ K H' p dx a.g vr dk := S.fr _ _ B.J B.pL
theorem RS.R (S : RS K Pj a rows dk cs L H H' q kvs) (B : RB K a rows p dx dk vr cs L H) : RuleAtN (fun b => b ∉ L ∧ H b ≠ none) K H' vr cs := B.R.fr S.fr fun b z => z.1
theorem RS.RO (S : RS K Pj a rows dk cs L H H' q kvs) (B : RB K a rows p dx dk vr cs L H) : RuleO K a rows H' vr cs := (S.R B).imp fun b hb z => hb.1 (B.mu b z)
/-- an address that is new joins those that may be changed -/
theorem RB.more (B : RB K a rows p dx dk vr cs L H) {b : Addr} (hb : H b = none) : RB K a rows p dx dk vr cs (b :: L) H :=
  ⟨B.J, B.R.imp fun c hc => ⟨fun z => by
    rcases List.mem_cons.mp z with rfl | z
    · exact hc.2 hb
    · exact hc.1 z, hc.2⟩, B.W, fun z => by
    rcases List.mem_cons.mp z with z | z
    · have := B.J'
      rw [z, hb] at this; cases this
    · exact B.pL z, fun c hc => List.mem_cons_of_mem _ (B.mu c hc), List.mem_cons_of_mem _ B.dL, B.dm⟩
theorem RS.more (S : RS K Pj a rows dk cs L H H' q kvs) (b : Addr) : RS K Pj a rows dk cs (b :: L) H H' q kvs := ⟨S.G, S.fr.mono fun c hc => List.mem_cons_of_mem _ hc, S.D, S.kn⟩
theorem RS.same (S : RS K Pj a rows dk cs L H H' q kvs) (s : Same H' H2) : RS K Pj a rows dk cs L H H2 q kvs := ⟨S.G.same s, S.fr.trans (fr_of s), s _ _ S.D, S.kn⟩
theorem RS.step (S : RS K Pj a rows dk cs L H H' q kvs) (B : RB K a rows p dx dk vr cs L H) (s : GStep (CG K) H' a rows q H2 rows q2) : RS K Pj a rows dk cs L H H2 q2 kvs := ⟨s.gat, S.fr.trans (s.fr.mono B.mu), (s.own S.D B.dm).1, S.kn.pre s.pre⟩
/-- an own list among those that may be changed is changed -/
theorem RS.put (S : RS K Pj a rows dk cs L H H' q kvs) {b : Addr} {o : HO} (hL : b ∈ L) (n : b ≠ dk) (m : ∀ u, H' b = some u → ¬ HO.still u) (out : b ∉ a.muts rows) : RS K Pj a rows dk cs L H (upd H' b o) q kvs :=
  ⟨S.G.upd m out, S.fr.trans fun c u e z => by rw [upd_ne (fun y => z (by rw [y]; exact hL))]; exact e, by rw [upd_ne n.symm]; exact S.D, S.kn⟩
def sp_reck (K : PySem.W.Frag) (d : Nat) : Sp := fun vs H Q _ => ∃ (p dx dk : Addr) (vr : V) (a : GA) (rows : List (Int × Addr)) (q : List Sq) (n e : Nat) (S : Sq) (cs : List Cla) (kvs : List (List Key × V)) (Pj : List (Sq × Nat)), vs = [.ref p, .int (n : Int), .int (e : Int)] ∧
  RB K a rows p dx dk vr cs (dk :: a.muts rows) H ∧ RS K Pj a rows dk cs (dk :: a.muts rows) H H q kvs ∧ q[n]? = some S ∧ S.level = d + 2 ∧ e ≤ d ∧ d ≤ 45 ∧ ClosedJ cs Pj ∧ (S, e) ∈ Pj ∧ q.length + 20 * Pj.length + 20 * d + 100 < 16000000 + 20 * kvs.length ∧ Pj.length < 1000000 ∧
  ∀ H' q' (m : Nat) kvs', RS K Pj a rows dk cs (dk :: a.muts rows) H H' q' kvs' → q <+: q' → q'.length + 20 * kvs.length ≤ q.length + 20 * kvs'.length → kvs.length ≤ kvs'.length → NewJ d q' kvs kvs' → q'[m]? = some (jumpN cs d e S) → Q (.int (m : Int)) H'
theorem mp_reck {d : Nat} : MonP (sp_reck K d) := fun vs H Q Q' E h ⟨p, dx, dk, vr, a, rows, q, n, e, S, cs, kvs, Pj, x1, x2, x3, x4, x5, x6, x7, x8, x9, y1, y2, k⟩ => ⟨p, dx, dk, vr, a, rows, q, n, e, S, cs, kvs, Pj, x1, x2, x3, x4, x5, x6, x7, x8, x9, y1, y2, fun H' q' m kvs' a b c d e f => h _ _ (k H' q' m kvs' a b c d e f)⟩
/-- a jump asked amid another one's work -/
theorem RS.reck {d n e : Nat} {T : Sq} {Q : VK} {E : XK} (S : RS K Pj a rows dk cs L H H' q kvs) (B : RB K a rows p dx dk vr cs L H) (hn : q[n]? = some T) (hl : T.level = d + 2) (he : e ≤ d) (hd : d ≤ 45) (hC : ClosedJ cs Pj) (hP : (T, e) ∈ Pj) (hq : q.length + 20 * Pj.length + 20 * d + 100 < 16000000 + 20 * kvs.length) (hk : Pj.length < 1000000)
    (k : ∀ H2 q2 (m : Nat) kvs2, RS K Pj a rows dk cs L H H2 q2 kvs2 → q <+: q2 → q2.length + 20 * kvs.length ≤ q.length + 20 * kvs2.length → kvs.length ≤ kvs2.length → NewJ d q2 kvs kvs2 → q2[m]? = some (jumpN cs d e T) → Fr (dk :: a.muts rows) H' H2 → Q (.int (m : Int)) H2) : sp_reck K d [.ref p, .int (n : Int), .int (e : Int)] H' Q E := by
  have dmu : ∀ b, b ∈ dk :: a.muts rows → b ∈ L := fun b hb => by
    rcases List.mem_cons.mp hb with rfl | hb
    · exact B.dL
    · exact B.mu b hb
  have R' : RuleAtN (fun b => b ∉ dk :: a.muts rows ∧ H' b ≠ none) K H' vr cs := ((S.R B).exs).imp fun b hb => ⟨fun z => hb.1.1 (dmu b z), hb.2⟩
  refine ⟨p, dx, dk, vr, a, rows, q, n, e, T, cs, kvs, Pj, rfl, ⟨S.HJ B, R', B.W, fun z => B.pL (dmu p z), fun b hb => List.mem_cons_of_mem _ hb, List.mem_cons_self, B.dm⟩, ⟨S.G, Fr.refl _ _, S.D, S.kn⟩, hn, hl, he, hd, hC, hP, hq, hk, fun H2 q2 m kvs2 S2 pre lq lk nj hm => ?_⟩
  exact k H2 q2 m kvs2 ⟨S2.G, S.fr.trans (S2.fr.mono dmu), S2.D, S2.kn⟩ pre lq lk nj hm S2.fr
theorem OwnO.fr1 {l : List (Addr × HO)} (h : OwnO a rows H' l) (f : Fr (dk :: a.muts rows) H' H2) (n : ∀ x ∈ l, x.1 ≠ dk) : OwnO a rows H2 l :=
  ⟨h.nd, fun b o m => f b o (h.at_ b o m) fun z => by
    rcases List.mem_cons.mp z with z | z
    · exact n _ m z
    · exact h.out b o m z, h.mv, h.out⟩
theorem RS.tup (S : RS K Pj a rows dk cs L H H' q kvs) (f : Fr (dk :: a.muts rows) H' H2) : Tup H' H2 := fun b ys e => f b _ e fun z => by
  rcases List.mem_cons.mp z with z | z
  · rw [z, S.D] at e; cases e
  · exact S.G.tup_out e z
theorem RS.fresh {b : Addr} (S : RS K Pj a rows dk cs L H H' q kvs) (x : H' b = none) (hL : b ∉ L) : H b = none := by
  cases e : H b with
  | none => rfl
  | some o => rw [S.fr b o e hL] at x; cases x
theorem no_reck (T : Env fa fn K mg) : Good P w K mg base CX0 1 ("Jumps", some "reckoned") ["self", "square", "e"] (fun _ _ _ _ => False) := by
  refine good_mk T 50 (d := d_Jumps_reckoned) (N := ["self", "square", "e", "level", "made", "twice", "nine", "part", "four", "a", "b", "c", "d"]) (ps := ["self", "square", "e"]) rfl rfl sc_Jumps_reckoned (fun _ _ _ _ _ _ us hl => match us, hl with | [_, _, _], _ => rfl) (fun vs H Q E h => h.elim) (fun f cdv A outer σ0 H vs Q E hr h => h.elim)
theorem key2 {n e : Int} : ([V.int n, V.int e] : List V) = ([Sum.inl n, Sum.inl e] : List Key).map kV := rfl
set_option maxHeartbeats 16000000 in
theorem ok_reck (T : Env fa fn K mg) : ∀ D : Nat, Good P w K mg base CX0 (6 + D) ("Jumps", some "reckoned") ["self", "square", "e"] (sp_reck K D) := by
  have G_nine_of := ok_nine (P := P) (w := w) (base := base) T
  have G_fours_of := ok_fours (P := P) (w := w) (base := base) T
  have G_meeting := ok_meeting (P := P) (w := w) (base := base) T
  have G_Jumps_by_rule := ok_by_rule (P := P) (w := w) (base := base) T
  have G_Grove_level_of := ok_level_of (P := P) (w := w) (base := base) T
  have G_Grove_knit := ok_knit (P := P) (w := w) (base := base) T
  have clJ := T.cls 53
  have na1 := T.noat 92
  have na2 := T.noat 94
  have na3 := T.noat 93
  have hsz := sizeBig
  intro D
  induction D with
  | zero =>
    have G_Jumps_reckoned := no_reck (P := P) (w := w) (base := base) T
    refine good_mk T 50 (d := d_Jumps_reckoned) (N := ["self", "square", "e", "level", "made", "twice", "nine", "part", "four", "a", "b", "c", "d"]) (ps := ["self", "square", "e"]) rfl rfl sc_Jumps_reckoned (fun _ _ _ _ _ _ us hl => match us, hl with | [_, _, _], _ => rfl) (fun vs H Q E h => ?_) (fun f cdv A outer σ0 H vs Q E hr h => ?_)
    · obtain ⟨p, dx, dk, vr, a, rows, q, n, e, S, cs, kvs, Pj, rfl, _⟩ := h; rfl
    · obtain ⟨p, dx, dk, vr, a, rows, q, n, e, S, cs, kvs, Pj, rfl, B, R0, hn, hl, he, hd, hC, hP, hq, hk, k⟩ := h
      obtain rfl : e = 0 := by omega
      have hu := hu_of hr
      have klen := R0.kn.len R0.G.qn
      refine ⟨_, (pss_cons (ps_if (pt_cmp (pc_din hu (pe_tup (pa_cons (pv 1) (pa_cons (pv 2) pa_nil))) (pe_fldK K rfl (pv 0) rfl))) (pss_one (ps_ret (pe_dget hu (pe_fldK K rfl (pv 0) rfl) (pe_tup (pa_cons (pv 1) (pa_cons (pv 2) pa_nil))) (fun _ _ => rfl)))) pss_nil)
      (pss_cons (ps_set (i := 3) sc_Jumps_reckoned.nd rfl (Or.inl rfl) (pe_mgK K rfl (pe_fldK K rfl (pv 0) rfl) (T.cls 9) (T.meth 52) G_Grove_level_of (hr.mono (by decide)) (pa_cons (pv 1) pa_nil)))
      (pss_cons (ps_if (pt_cmpR op_eq (pv 3) pe_int (nomark _)) (pss_one (ps_set (i := 4) sc_Jumps_reckoned.nd rfl (Or.inl rfl) (pe_mgK K rfl (pv 0) (T.cls 53) (T.meth 54) G_Jumps_by_rule (hr.mono (by decide)) (pa_cons (pv 1) pa_nil)))) (pss_cons (ps_set (i := 5) sc_Jumps_reckoned.nd rfl (Or.inl rfl) (pe_callTy call_int1 (by rfl) (T.free 2) (by decide +kernel) (pa_cons (pe_cmpR op_eq (pv 2) (pe_op op_sub (pv 3) pe_int) (nomark _)) pa_nil)))
      (pss_cons (ps_set (i := 6) sc_Jumps_reckoned.nd rfl (Or.inl rfl) (pe_lst pa_nil))
      (pss_cons (ps_for PassesOwn.never rfl (pi_listK K rfl (pe_cgK K rfl G_nine_of (hr.mono (by decide)) (T.glo 55) (pa_cons (pe_fldK K rfl (pv 0) rfl) (pa_cons (pv 1) pa_nil)))) (pg_name (i := 7) sc_Jumps_reckoned.nd rfl (Or.inl rfl)) (pss_one (ps_expr (pe_bm PySem.F.plainAttrs_list PySem.F.slot_list_append PySem.F.type_list_append mt_append (pv 6) (pa_cons (pe_mgK K rfl (pv 0) (T.cls 53) (T.meth 56) G_Jumps_reckoned (hr.mono (by decide)) (pa_cons (pv 7) (pa_cons (pe_op op_sub (pv 2) (pv 5)) pa_nil))) pa_nil)))))
      (pss_cons (ps_set (i := 8) sc_Jumps_reckoned.nd rfl (Or.inl rfl) (pe_lst pa_nil))
      (pss_cons (ps_for PassesOwn.never rfl (pi_listK K rfl (pe_cgK K rfl G_fours_of (hr.mono (by decide)) (T.glo 57) (pa_cons (pv 6) pa_nil))) (pg_tup rfl (pgs_cons (pg_name (i := 9) sc_Jumps_reckoned.nd rfl (Or.inl rfl)) (pgs_cons (pg_name (i := 10) sc_Jumps_reckoned.nd rfl (Or.inl rfl)) (pgs_cons (pg_name (i := 11) sc_Jumps_reckoned.nd rfl (Or.inl rfl)) (pgs_cons (pg_name (i := 12) sc_Jumps_reckoned.nd rfl (Or.inl rfl)) pgs_nil))))) (pss_one (ps_if (pt_cmpR op_eq (pv 5) pe_int (nomark _)) (pss_one (ps_expr (pe_bm PySem.F.plainAttrs_list PySem.F.slot_list_append PySem.F.type_list_append mt_append (pv 8) (pa_cons (pe_mgK K rfl (pv 0) (T.cls 53) (T.meth 56) G_Jumps_reckoned (hr.mono (by decide)) (pa_cons (pe_mgK K rfl (pe_fldK K rfl (pv 0) rfl) (T.cls 9) (T.meth 13) G_Grove_knit (hr.mono (by decide)) (pa_cons (pv 9) (pa_cons (pv 10) (pa_cons (pv 11) (pa_cons (pv 12) pa_nil))))) (pa_cons (pe_op op_sub (pv 2) pe_int) pa_nil))) pa_nil)))) (pss_one (ps_expr (pe_bm PySem.F.plainAttrs_list PySem.F.slot_list_append PySem.F.type_list_append mt_append (pv 8) (pa_cons (pe_cgK K rfl G_meeting (hr.mono (by decide)) (T.glo 58) (pa_cons (pe_fldK K rfl (pv 0) rfl) (pa_cons (pv 9) (pa_cons (pv 10) (pa_cons (pv 11) (pa_cons (pv 12) pa_nil)))))) pa_nil)))))))
      (pss_one (ps_set (i := 4) sc_Jumps_reckoned.nd rfl (Or.inl rfl) (pe_mgK K rfl (pe_fldK K rfl (pv 0) rfl) (T.cls 9) (T.meth 13) G_Grove_knit (hr.mono (by decide)) (pa_cons (pe_ix (ix_listK K rfl) (pv 8) pe_int (fun _ _ => rfl)) (pa_cons (pe_ix (ix_listK K rfl) (pv 8) pe_int (fun _ _ => rfl)) (pa_cons (pe_ix (ix_listK K rfl) (pv 8) pe_int (fun _ _ => rfl)) (pa_cons (pe_ix (ix_listK K rfl) (pv 8) pe_int (fun _ _ => rfl)) pa_nil)))))))))))))
      (pss_cons (ps_dput hu (pe_fldK K rfl (pv 0) rfl) (pe_tup (pa_cons (pv 1) (pa_cons (pv 2) pa_nil))) (pv 4) rfl)
      (pss_one (ps_ret (pv 4))))))), ?_⟩
      have hJ0 := B.J'
      walk_at "rd"
      refine rd_new (hn := by show 2 ≤ sizeLine; decide) fun t ht => ?_
      have s1 := same_upd (o := .tup [V.int (n : Int), V.int ((0 : Nat) : Int)]) ht
      have T1 : (upd H t (.tup [V.int (n : Int), V.int ((0 : Nat) : Int)])) t = some (.tup (([Sum.inl (n : Int), Sum.inl ((0 : Nat) : Int)] : List Key).map kV)) := upd_same
      have R1 := R0.same s1
      generalize upd H t (.tup [V.int (n : Int), V.int ((0 : Nat) : Int)]) = H1 at *
      have hJ1 := R1.J B
      have G1 := R1.G
      walk_at "rd"
      refine ⟨dk, _, rfl, DGet.t (k := [Sum.inl (n : Int), Sum.inl ((0 : Nat) : Int)]) R1.D T1, ?_⟩
      cases hv : valV kvs [Sum.inl (n : Int), Sum.inl ((0 : Nat) : Int)] with
      | some v =>
        obtain ⟨n', m, d', e', S', ee, e3, e4, e5, e6, _⟩ := R1.kn.ok _ (valV_memJ hv)
        simp only [Prod.mk.injEq, List.cons.injEq, Sum.inl.injEq, and_true] at ee
        obtain ⟨⟨e1, e2⟩, rfl⟩ := ee
        have e1' : n = n' := by omega
        have e2' : e' = 0 := by omega
        subst e1' e2'
        rw [hn] at e3
        cases e3
        obtain rfl : d' = 0 := by omega
        walk_at "rd"
        refine iteT ?_
        walk_at "rd"
        refine rd_new (hn := by show 2 ≤ sizeLine; decide) fun t2 ht2 => ?_
        have s2 := same_upd (o := .tup [V.int (n : Int), V.int ((0 : Nat) : Int)]) ht2
        have T2 : (upd H1 t2 (.tup [V.int (n : Int), V.int ((0 : Nat) : Int)])) t2 = some (.tup (([Sum.inl (n : Int), Sum.inl ((0 : Nat) : Int)] : List Key).map kV)) := upd_same
        have R2 := R1.same s2
        generalize upd H1 t2 (.tup [V.int (n : Int), V.int ((0 : Nat) : Int)]) = H2 at *
        have hJ2 := R2.J B
        walk_at "rd"
        refine ⟨dk, .int (m : Int), rfl, by rw [← hv]; exact DGet.t (k := [Sum.inl (n : Int), Sum.inl ((0 : Nat) : Int)]) R2.D T2, ?_⟩
        exact k _ q m kvs R2 (List.prefix_refl _) (by omega) (by omega) (NewJ.refl _ _ _) e6
      | none =>
        walk_at "rd"
        refine iteF ?_
        walk_at "rd"
        refine rd_methR G1.ob (by rfl) ?_
        walk_at "rd"
        refine ⟨a, rows, q, n, S, rfl, G1, hn, by omega, ?_⟩
        rw [hl]
        walk_at "rd"
        refine iteT ?_
        walk_at "rd"
        refine rd_methR hJ1 (by rfl) ?_
        walk_at "rd"
        refine ⟨p, dx, dk, vr, a, rows, q, n, S, cs, rfl, R1.HJ B, G1, R1.RO B, B.W, hn, hl, by omega, fun H2 q2 m st2 len2 hm => ?_⟩
        have R2 := R1.step B st2
        have hJ2 := R2.J B
        walk_at "rd"
        refine rd_new (hn := by show 2 ≤ sizeLine; decide) fun t3 ht3 => ?_
        have s3 := same_upd (o := .tup [V.int (n : Int), V.int ((0 : Nat) : Int)]) ht3
        have T3 : (upd H2 t3 (.tup [V.int (n : Int), V.int ((0 : Nat) : Int)])) t3 = some (.tup (([Sum.inl (n : Int), Sum.inl ((0 : Nat) : Int)] : List Key).map kV)) := upd_same
        have R3 := R2.same s3
        generalize upd H2 t3 (.tup [V.int (n : Int), V.int ((0 : Nat) : Int)]) = H3 at *
        have hJ3 := R3.J B
        walk_at "rd"
        refine ⟨dk, _, rfl, DPut.t (k := [Sum.inl (n : Int), Sum.inl ((0 : Nat) : Int)]) R3.D T3 (by omega), ?_⟩
        have R4 : RS K Pj a rows dk cs (dk :: a.muts rows) H (upd H3 dk (.dT (putK kvs [Sum.inl (n : Int), Sum.inl ((0 : Nat) : Int)] (.int (m : Int))))) q2 (putK kvs [Sum.inl (n : Int), Sum.inl ((0 : Nat) : Int)] (.int (m : Int))) :=
          ⟨R3.G.upd (fun u e => by rw [R3.D] at e; cases e; exact fun z => z) B.dm, R3.fr.trans fun b o e nb => by rw [upd_ne (fun z => nb (by rw [z]; exact List.mem_cons_self))]; exact e, upd_same, R3.kn.put (d := 0) (pre_get st2.pre hn) hl (Nat.le_refl _) hm hP⟩
        walk_at "rd"
        have lN := length_putN (x := V.int (m : Int)) hv
        exact k _ q2 m _ R4 st2.pre (by omega) (by omega) ((NewJ.refl 0 q kvs).put (pre_get st2.pre hn) (by omega) st2.pre) hm
  | succ D ih =>
    have G_Jumps_reckoned := ih
    refine good_mk T 50 (d := d_Jumps_reckoned) (N := ["self", "square", "e", "level", "made", "twice", "nine", "part", "four", "a", "b", "c", "d"]) (ps := ["self", "square", "e"]) rfl rfl sc_Jumps_reckoned (fun _ _ _ _ _ _ us hl => match us, hl with | [_, _, _], _ => rfl) (fun vs H Q E h => ?_) (fun f cdv A outer σ0 H vs Q E hr h => ?_)
    · obtain ⟨p, dx, dk, vr, a, rows, q, n, e, S, cs, kvs, Pj, rfl, _⟩ := h; rfl
    · obtain ⟨p, dx, dk, vr, a, rows, q, n, e, S, cs, kvs, Pj, rfl, B, R0, hn, hl, he, hd, hC, hP, hq, hk, k⟩ := h
      have hu := hu_of hr
      have klen := R0.kn.len R0.G.qn
      have wS := R0.G.wf _ (List.mem_of_getElem? hn)
      refine ⟨_, (pss_cons (ps_if (pt_cmp (pc_din hu (pe_tup (pa_cons (pv 1) (pa_cons (pv 2) pa_nil))) (pe_fldK K rfl (pv 0) rfl))) (pss_one (ps_ret (pe_dget hu (pe_fldK K rfl (pv 0) rfl) (pe_tup (pa_cons (pv 1) (pa_cons (pv 2) pa_nil))) (fun _ _ => rfl)))) pss_nil)
      (pss_cons (ps_set (i := 3) sc_Jumps_reckoned.nd rfl (Or.inl rfl) (pe_mgK K rfl (pe_fldK K rfl (pv 0) rfl) (T.cls 9) (T.meth 52) G_Grove_level_of (hr.mono (by show _ ≤ 6 + D; omega)) (pa_cons (pv 1) pa_nil)))
      (pss_cons (ps_if (pt_cmpR op_eq (pv 3) pe_int (nomark _)) (pss_one (ps_set (i := 4) sc_Jumps_reckoned.nd rfl (Or.inl rfl) (pe_mgK K rfl (pv 0) (T.cls 53) (T.meth 54) G_Jumps_by_rule (hr.mono (by show _ ≤ 6 + D; omega)) (pa_cons (pv 1) pa_nil)))) (pss_cons (ps_set (i := 5) sc_Jumps_reckoned.nd rfl (Or.inl rfl) (pe_callTy call_int1 (by rfl) (T.free 2) (by decide +kernel) (pa_cons (pe_cmpR op_eq (pv 2) (pe_op op_sub (pv 3) pe_int) (nomark _)) pa_nil)))
      (pss_cons (ps_set (i := 6) sc_Jumps_reckoned.nd rfl (Or.inl rfl) (pe_lst pa_nil))
      (pss_cons (ps_for PassesOwn.never rfl (pi_listK K rfl (pe_cgK K rfl G_nine_of (hr.mono (by show _ ≤ 6 + D; omega)) (T.glo 55) (pa_cons (pe_fldK K rfl (pv 0) rfl) (pa_cons (pv 1) pa_nil)))) (pg_name (i := 7) sc_Jumps_reckoned.nd rfl (Or.inl rfl)) (pss_one (ps_expr (pe_bm PySem.F.plainAttrs_list PySem.F.slot_list_append PySem.F.type_list_append mt_append (pv 6) (pa_cons (pe_mgK K rfl (pv 0) (T.cls 53) (T.meth 56) G_Jumps_reckoned (hr.mono (by show _ ≤ 6 + D; omega)) (pa_cons (pv 7) (pa_cons (pe_op op_sub (pv 2) (pv 5)) pa_nil))) pa_nil)))))
      (pss_cons (ps_set (i := 8) sc_Jumps_reckoned.nd rfl (Or.inl rfl) (pe_lst pa_nil))
      (pss_cons (ps_for PassesOwn.never rfl (pi_listK K rfl (pe_cgK K rfl G_fours_of (hr.mono (by show _ ≤ 6 + D; omega)) (T.glo 57) (pa_cons (pv 6) pa_nil))) (pg_tup rfl (pgs_cons (pg_name (i := 9) sc_Jumps_reckoned.nd rfl (Or.inl rfl)) (pgs_cons (pg_name (i := 10) sc_Jumps_reckoned.nd rfl (Or.inl rfl)) (pgs_cons (pg_name (i := 11) sc_Jumps_reckoned.nd rfl (Or.inl rfl)) (pgs_cons (pg_name (i := 12) sc_Jumps_reckoned.nd rfl (Or.inl rfl)) pgs_nil))))) (pss_one (ps_if (pt_cmpR op_eq (pv 5) pe_int (nomark _)) (pss_one (ps_expr (pe_bm PySem.F.plainAttrs_list PySem.F.slot_list_append PySem.F.type_list_append mt_append (pv 8) (pa_cons (pe_mgK K rfl (pv 0) (T.cls 53) (T.meth 56) G_Jumps_reckoned (hr.mono (by show _ ≤ 6 + D; omega)) (pa_cons (pe_mgK K rfl (pe_fldK K rfl (pv 0) rfl) (T.cls 9) (T.meth 13) G_Grove_knit (hr.mono (by show _ ≤ 6 + D; omega)) (pa_cons (pv 9) (pa_cons (pv 10) (pa_cons (pv 11) (pa_cons (pv 12) pa_nil))))) (pa_cons (pe_op op_sub (pv 2) pe_int) pa_nil))) pa_nil)))) (pss_one (ps_expr (pe_bm PySem.F.plainAttrs_list PySem.F.slot_list_append PySem.F.type_list_append mt_append (pv 8) (pa_cons (pe_cgK K rfl G_meeting (hr.mono (by show _ ≤ 6 + D; omega)) (T.glo 58) (pa_cons (pe_fldK K rfl (pv 0) rfl) (pa_cons (pv 9) (pa_cons (pv 10) (pa_cons (pv 11) (pa_cons (pv 12) pa_nil)))))) pa_nil)))))))
      (pss_one (ps_set (i := 4) sc_Jumps_reckoned.nd rfl (Or.inl rfl) (pe_mgK K rfl (pe_fldK K rfl (pv 0) rfl) (T.cls 9) (T.meth 13) G_Grove_knit (hr.mono (by show _ ≤ 6 + D; omega)) (pa_cons (pe_ix (ix_listK K rfl) (pv 8) pe_int (fun _ _ => rfl)) (pa_cons (pe_ix (ix_listK K rfl) (pv 8) pe_int (fun _ _ => rfl)) (pa_cons (pe_ix (ix_listK K rfl) (pv 8) pe_int (fun _ _ => rfl)) (pa_cons (pe_ix (ix_listK K rfl) (pv 8) pe_int (fun _ _ => rfl)) pa_nil)))))))))))))
      (pss_cons (ps_dput hu (pe_fldK K rfl (pv 0) rfl) (pe_tup (pa_cons (pv 1) (pa_cons (pv 2) pa_nil))) (pv 4) rfl)
      (pss_one (ps_ret (pv 4))))))), ?_⟩
      have hJ0 := B.J'
      walk_at "rd"
      refine rd_new (hn := by show 2 ≤ sizeLine; decide) fun t ht => ?_
      have s1 := same_upd (o := .tup [V.int (n : Int), V.int (e : Int)]) ht
      have T1 : (upd H t (.tup [V.int (n : Int), V.int (e : Int)])) t = some (.tup (([Sum.inl (n : Int), Sum.inl (e : Int)] : List Key).map kV)) := upd_same
      have R1 := R0.same s1
      generalize upd H t (.tup [V.int (n : Int), V.int (e : Int)]) = H1 at *
      have hJ1 := R1.J B
      have G1 := R1.G
      walk_at "rd"
      refine ⟨dk, _, rfl, DGet.t (k := [Sum.inl (n : Int), Sum.inl (e : Int)]) R1.D T1, ?_⟩
      cases hv : valV kvs [Sum.inl (n : Int), Sum.inl (e : Int)] with
      | some v =>
        obtain ⟨n', m, d', e', S', ee, e3, e4, e5, e6, _⟩ := R1.kn.ok _ (valV_memJ hv)
        simp only [Prod.mk.injEq, List.cons.injEq, Sum.inl.injEq, and_true] at ee
        obtain ⟨⟨e1, e2⟩, rfl⟩ := ee
        have e1' : n = n' := by omega
        have e2' : e = e' := by omega
        subst e1' e2'
        rw [hn] at e3
        cases e3
        obtain rfl : d' = D + 1 := by omega
        walk_at "rd"
        refine iteT ?_
        walk_at "rd"
        refine rd_new (hn := by show 2 ≤ sizeLine; decide) fun t2 ht2 => ?_
        have s2 := same_upd (o := .tup [V.int (n : Int), V.int (e : Int)]) ht2
        have T2 : (upd H1 t2 (.tup [V.int (n : Int), V.int (e : Int)])) t2 = some (.tup (([Sum.inl (n : Int), Sum.inl (e : Int)] : List Key).map kV)) := upd_same
        have R2 := R1.same s2
        generalize upd H1 t2 (.tup [V.int (n : Int), V.int (e : Int)]) = H2 at *
        have hJ2 := R2.J B
        walk_at "rd"
        refine ⟨dk, .int (m : Int), rfl, by rw [← hv]; exact DGet.t (k := [Sum.inl (n : Int), Sum.inl (e : Int)]) R2.D T2, ?_⟩
        exact k _ q m kvs R2 (List.prefix_refl _) (by omega) (by omega) (NewJ.refl _ _ _) e6
      | none =>
        walk_at "rd"
        refine iteF ?_
        walk_at "rd"
        refine rd_methR G1.ob (by rfl) ?_
        walk_at "rd"
        refine ⟨a, rows, q, n, S, rfl, G1, hn, by omega, ?_⟩
        rw [hl]
        walk_at "rd"
        rw [decide_eq_false (show ¬ (((D + 1 + 2 : Nat)) : Int) = 2 by omega)]
        walk_at "rd"
        obtain ⟨e', he'⟩ : ∃ e', e' = (if e = D + 1 then e - 1 else e) := ⟨_, rfl⟩
        have he1 : e' ≤ D := by rw [he']; split <;> omega
        obtain ⟨tw, htw, etw, etw'⟩ : ∃ tw : Nat, tw = (if e = D + 1 then 1 else 0) ∧ (e : Int) - (tw : Int) = (e' : Int) ∧ (tw = 1 ↔ e = D + 1) := by
          refine ⟨_, rfl, ?_, ?_⟩
          · rw [he']
            by_cases z : e = D + 1
            · rw [if_pos z, if_pos z]; omega
            · rw [if_neg z, if_neg z]; omega
          · by_cases z : e = D + 1
            · rw [if_pos z]; omega
            · rw [if_neg z]; omega
        refine .inr ⟨_, rfl, ?_⟩
        have eif : (if (decide ((e : Int) = ((D + 1 + 2 : Nat) : Int) - 2)) = true then (1 : Int) else 0) = (tw : Int) := by
          rw [htw]
          by_cases z : e = D + 1
          · rw [if_pos z, decide_eq_true (by omega)]; rfl
          · rw [if_neg z, decide_eq_false (by omega)]; rfl
        rw [eif]
        walk_at "rd"
        refine rd_new (hn := by show 0 ≤ sizeLine; decide) fun pk hpk => ?_
        have s2 := same_upd (o := .lst []) hpk
        have hpk0 : H pk = none := none_of s1 hpk
        have O2 : OwnO a rows (upd H1 pk (.lst [])) [(pk, .lst (nats []))] := .one upd_same (fun z => z) (R1.G.new_out hpk)
        have R2 := (R1.more pk).same s2
        have B2 := B.more hpk0
        have pkd : pk ≠ dk := fun z => by rw [z, R1.D] at hpk; cases hpk
        generalize upd H1 pk (.lst []) = H2 at *
        walk_at "rd"
        have hJ2 := R2.J B2
        walk_at "rd"
        refine ⟨a, rows, q, n, S, rfl, R2.G, hn, by omega, by omega, by omega, fun H3 q3 l ms G3 pre3 fr3 len3 hl3 L3 lo3 ml3 hms => ?_⟩
        have st3 := GStep.of5 G3 pre3 fr3
        have R3 := R2.step B2 st3
        have O3 := O2.step st3
        have ld : l ≠ dk := fun z => by rw [z, R3.D] at L3; cases L3
        have lp : l ≠ pk := fun z => by rw [z, O2.ix 0 rfl] at hl3; cases hl3
        have O3' : OwnO a rows H3 [(pk, .lst (nats [])), (l, .lst (nats ms))] := by
          refine ⟨?_, fun b o m => ?_, fun b o m => ?_, fun b o m => ?_⟩
          · simp only [List.map_cons, List.map_nil, List.nodup_cons, List.mem_cons, List.not_mem_nil, or_false, not_false_eq_true, List.nodup_nil, and_true]
            exact fun z => lp z.symm
          all_goals
            simp only [List.mem_cons, List.not_mem_nil, or_false, Prod.mk.injEq] at m
            rcases m with ⟨rfl, rfl⟩ | ⟨rfl, rfl⟩
          · exact O3.ix 0 rfl
          · exact L3
          · exact fun z => z
          · exact fun z => z
          · exact O3.out _ _ List.mem_cons_self
          · exact lo3
        obtain ⟨NN, hNN⟩ : ∃ NN : Nat → Nat → Sq, NN = fun i j => jumpN cs D e' (part S i j) := ⟨_, rfl⟩
        have nok : ∀ i j, i < 3 → j < 3 → (NN i j).wf ∧ (NN i j).level = D + 1 := fun i j hi hj => by
          obtain ⟨pw, pl⟩ := part_ok wS hl hi hj
          obtain ⟨x, y, _⟩ := jump_ok B.W D e' (part S i j) pw pl he1
          rw [hNN]; exact ⟨x, y⟩
        obtain ⟨Fo, hFo⟩ : ∃ Fo : Nat → Nat → Sq, Fo = fun i j => if e = D + 1 then jumpN cs D (e - 1) (.node (NN i j) (NN (i + 1) j) (NN i (j + 1)) (NN (i + 1) (j + 1))) else meet (NN i j) (NN (i + 1) j) (NN i (j + 1)) (NN (i + 1) (j + 1)) := ⟨_, rfl⟩
        have hJN : jumpN cs (D + 1) e S = .node (Fo 0 0) (Fo 1 0) (Fo 0 1) (Fo 1 1) := by
          rw [hFo, hNN, he']; rfl
        rw [hJN] at k
        have pkL : ∀ x ∈ [(pk, HO.lst (nats [])), (l, HO.lst (nats ms))], x.1 ≠ dk := fun x hx => by
          simp only [List.mem_cons, List.not_mem_nil, or_false] at hx
          rcases hx with rfl | rfl
          · exact pkd
          · exact ld
        obtain ⟨cl9, cl4⟩ := hC S D e hP wS hl he
        clear O3 G3 fr3 eif s1 s2 hl3
        walk_at "rd"
        refine ⟨l, rfl, ⟨_, SqL.of L3⟩, ?_⟩
        refine for_it (walk_list (xs := nats ms)) (fun i σ H' => ∃ (q' : List Sq) (kvs' : List (List Key × V)) (ns : List Nat) (x7 : Option V), σ = [some (.ref p), some (.int (n : Int)), some (.int (e : Int)), some (.int ((D + 1 + 2 : Nat) : Int)), none, some (.int (tw : Int)), some (.ref pk), x7, none, none, none, none, none] ∧ RS K Pj a rows dk cs (pk :: dk :: a.muts rows) H H' q' kvs' ∧ q3 <+: q' ∧ OwnO a rows H' [(pk, .lst (nats ns)), (l, .lst (nats ms))] ∧ ns.length = i ∧ q'.length + 20 * kvs.length ≤ q3.length + 20 * kvs'.length ∧ kvs.length ≤ kvs'.length ∧ NewJ D q' kvs kvs' ∧ ∀ k m : Nat, ns[k]? = some m → q'[m]? = some (NN (k % 3) (k / 3)))
          ⟨q3, kvs, [], none, rfl, R3, List.prefix_refl _, O3', rfl, by omega, by omega, NewJ.refl _ _ _, fun k m z => by simp at z⟩ ?_ ?_ ?_
        · rintro i σ H' _ ⟨q', kvs', ns, x7, _, _, _, O, _⟩
          exact SqL.of (O.ix 1 rfl)
        · rintro i v σ Ha Hb hi ⟨q', kvs', ns, x7, rfl, Rb, pre, O, nl, ql, kl, nj, hN⟩ ⟨rfl, hv⟩
          have hi9 : i < 9 := by rw [List.length_map] at hi; omega
          have mi : ms[i]? = some ms[i] := at_get (by omega)
          rw [List.getElem?_map, mi] at hv
          cases hv
          have hm := pre_get pre (hms i _ mi)
          generalize ms[i] = m at *
          have hJb := Rb.J B2
          have pl := (part_ok wS hl (show i % 3 < 3 by omega) (show i / 3 < 3 by omega)).2
          walk_at "rd"
          refine rd_tyL (O.ix 0 rfl) ?_
          walk_at "rd"
          refine rd_methR hJb (by rfl) ?_
          walk_at "rd"
          rw [etw]
          refine Rb.reck B2 hm pl he1 (by omega) hC (by rw [he']; exact cl9 (i % 3) (i / 3) (by omega) (by omega)) (by omega) hk fun H5 q5 m5 kvs5 R5 pre5 lq5 lk5 nj5 hm5 f5 => ?_
          have O5 := O.fr1 f5 fun x hx => by
            simp only [List.mem_cons, List.not_mem_nil, or_false] at hx
            rcases hx with rfl | rfl
            · exact pkd
            · exact ld
          have hml : (nats ns).length < sizeLine := by rw [List.length_map]; exact small1000 (by omega)
          walk_at "rd"
          refine rd_append (O5.ix 0 rfl) hml ?_
          have O6 := O5.put 0 rfl (.lst (nats ns ++ [V.int (m5 : Int)])) (fun z => z)
          have R6 := R5.put (o := .lst (nats ns ++ [V.int (m5 : Int)])) List.mem_cons_self pkd (fun u z => by rw [O5.ix 0 rfl] at z; cases z; exact fun z => z) (O5.out _ _ List.mem_cons_self)
          walk_at "rd"
          refine ⟨q5, kvs5, ns ++ [m5], _, rfl, R6, pre.trans pre5, by unfold nats; rw [List.map_append]; exact O6, by rw [List.length_append, nl]; rfl, by omega, by omega, nj.trans nj5 pre5, fun k m z => ?_⟩
          rcases snoc_cases z with z | ⟨rfl, rfl⟩
          · exact pre_get pre5 (hN k m z)
          · rw [nl, hm5, hNN]
        rintro σ H4 ⟨q4, kvs4, ns, x7, rfl, R4, pre4, O4, nl, ql4, kl4, nj4, hN⟩
        have e9 : (nats ms).length = 9 := by rw [List.length_map]; exact ml3
        rw [e9] at nl
        have hJ4 := R4.J B2
        walk_at "rd"
        refine rd_new (hn := by show 0 ≤ sizeLine; decide) fun pf hpf => ?_
        have s5 := same_upd (o := .lst []) hpf
        have nfp : pf ≠ pk := fun z => by rw [z, O4.ix 0 rfl] at hpf; cases hpf
        have nfd : pf ≠ dk := fun z => by rw [z, R4.D] at hpf; cases hpf
        have nfm := R4.G.new_out hpf
        have pf0 : H pf = none := R4.fresh hpf fun z => by
          rcases List.mem_cons.mp z with z | z
          · exact nfp z
          rcases List.mem_cons.mp z with z | z
          · exact nfd z
          · exact nfm z
        have O5 : OwnO a rows (upd H4 pf (.lst [])) [(pf, .lst (nats [])), (pk, .lst (nats ns)), (l, .lst (nats ms))] := O4.new (o := .lst []) R4.G hpf (fun z => z)
        have R5 := (R4.more pf).same s5
        have B5 := B2.more pf0
        generalize upd H4 pf (.lst []) = H5 at *
        walk_at "rd"
        refine ⟨pk, ns, rfl, O5.ix 1 rfl, by omega, fun H6 l2 rs s6 hl2 L2' rl hrs => ?_⟩
        have R6 := R5.same s6
        have O6 : OwnO a rows H6 [(l2, .lst (rs.map V.ref)), (pf, .lst (nats [])), (pk, .lst (nats ns))] := by
          have o := (O5.same s6)
          refine ⟨?_, fun b u m => ?_, fun b u m => ?_, fun b u m => ?_⟩
          · have nd := o.nd
            simp only [List.map_cons, List.map_nil, List.nodup_cons, List.mem_cons, List.not_mem_nil, or_false, not_false_eq_true, List.nodup_nil, and_true, not_or] at nd ⊢
            refine ⟨⟨fun z => ?_, fun z => ?_⟩, nd.1.1⟩
            · rw [z, O5.ix 0 rfl] at hl2; cases hl2
            · rw [z, O5.ix 1 rfl] at hl2; cases hl2
          all_goals
            simp only [List.mem_cons, List.not_mem_nil, or_false, Prod.mk.injEq] at m
            rcases m with ⟨rfl, rfl⟩ | ⟨rfl, rfl⟩ | ⟨rfl, rfl⟩
          · exact L2'
          · exact o.ix 0 rfl
          · exact o.ix 1 rfl
          · exact fun z => z
          · exact fun z => z
          · exact fun z => z
          · exact R5.G.new_out hl2
          · exact o.out _ _ List.mem_cons_self
          · exact o.out _ _ (List.mem_cons_of_mem _ List.mem_cons_self)
        have l2d : l2 ≠ dk := fun z => by rw [z, R5.D] at hl2; cases hl2
        walk_at "rd"
        refine ⟨l2, rfl, ⟨_, SqL.of L2'⟩, ?_⟩
        refine for_it (walk_list (xs := rs.map V.ref)) (fun i σ H' => ∃ (q' : List Sq) (kvs' : List (List Key × V)) (fs : List Nat) (x9 x10 x11 x12 : Option V), σ = [some (.ref p), some (.int (n : Int)), some (.int (e : Int)), some (.int ((D + 1 + 2 : Nat) : Int)), none, some (.int (tw : Int)), some (.ref pk), x7, some (.ref pf), x9, x10, x11, x12] ∧ RS K Pj a rows dk cs (pf :: pk :: dk :: a.muts rows) H H' q' kvs' ∧ q4 <+: q' ∧ OwnO a rows H' [(l2, .lst (rs.map V.ref)), (pf, .lst (nats fs)), (pk, .lst (nats ns))] ∧ Tup H6 H' ∧ fs.length = i ∧ q'.length + 20 * kvs4.length ≤ q4.length + i + 20 * kvs'.length ∧ kvs4.length ≤ kvs'.length ∧ NewJ D q' kvs kvs' ∧ ∀ k m : Nat, fs[k]? = some m → q'[m]? = some (Fo (k % 2) (k / 2)))
          ⟨q4, kvs4, [], none, none, none, none, rfl, R6, List.prefix_refl _, O6, Tup.refl _, rfl, by omega, by omega, nj4, fun k m z => by simp at z⟩ ?_ ?_ ?_
        · rintro i σ H' _ ⟨q', kvs', fs, _, _, _, _, _, _, _, O, _⟩
          exact SqL.of (O.ix 0 rfl)
        · rintro i v σ Ha Hb hi ⟨q', kvs', fs, x9, x10, x11, x12, rfl, Rb, pre, O, tp, fl, ql, kl, nj, hF⟩ ⟨rfl, hv⟩
          have hi4 : i < 4 := by rw [List.length_map] at hi; omega
          have mi : rs[i]? = some rs[i] := at_get (by omega)
          rw [List.getElem?_map, mi] at hv
          cases hv
          obtain ⟨m0, m1, m2, m3, t0, c0, c1, c2, c3⟩ := hrs i _ mi
          have TT : Hb rs[i] = some (.tup [.int (m0 : Int), .int (m1 : Int), .int (m2 : Int), .int (m3 : Int)]) := tp _ _ t0
          have w0 := pre_get pre (hN _ _ c0)
          have w1 := pre_get pre (hN _ _ c1)
          have w2 := pre_get pre (hN _ _ c2)
          have w3 := pre_get pre (hN _ _ c3)
          rw [show (3 * (i / 2) + i % 2) % 3 = i % 2 by omega, show (3 * (i / 2) + i % 2) / 3 = i / 2 by omega] at w0
          rw [show (3 * (i / 2) + (i % 2 + 1)) % 3 = i % 2 + 1 by omega, show (3 * (i / 2) + (i % 2 + 1)) / 3 = i / 2 by omega] at w1
          rw [show (3 * (i / 2 + 1) + i % 2) % 3 = i % 2 by omega, show (3 * (i / 2 + 1) + i % 2) / 3 = i / 2 + 1 by omega] at w2
          rw [show (3 * (i / 2 + 1) + (i % 2 + 1)) % 3 = i % 2 + 1 by omega, show (3 * (i / 2 + 1) + (i % 2 + 1)) / 3 = i / 2 + 1 by omega] at w3
          have n0 := nok (i % 2) (i / 2) (by omega) (by omega)
          have n1 := nok (i % 2 + 1) (i / 2) (by omega) (by omega)
          have n2 := nok (i % 2) (i / 2 + 1) (by omega) (by omega)
          have n3 := nok (i % 2 + 1) (i / 2 + 1) (by omega) (by omega)
          have eF : Fo (i % 2) (i / 2) = if e = D + 1 then jumpN cs D (e - 1) (.node (NN (i % 2) (i / 2)) (NN (i % 2 + 1) (i / 2)) (NN (i % 2) (i / 2 + 1)) (NN (i % 2 + 1) (i / 2 + 1))) else meet (NN (i % 2) (i / 2)) (NN (i % 2 + 1) (i / 2)) (NN (i % 2) (i / 2 + 1)) (NN (i % 2 + 1) (i / 2 + 1)) := by rw [hFo]
          have mP' : e = D + 1 → (Sq.node (NN (i % 2) (i / 2)) (NN (i % 2 + 1) (i / 2)) (NN (i % 2) (i / 2 + 1)) (NN (i % 2 + 1) (i / 2 + 1)), e - 1) ∈ Pj := fun z => by
            have q1 := cl4 z (i % 2) (i / 2) (by omega) (by omega)
            have ez : e' = e - 1 := by rw [he', if_pos z]
            rw [hNN, ez]
            exact q1
          generalize NN (i % 2) (i / 2) = A at *
          generalize NN (i % 2 + 1) (i / 2) = B' at *
          generalize NN (i % 2) (i / 2 + 1) = C at *
          generalize NN (i % 2 + 1) (i / 2 + 1) = D' at *
          have hJb := Rb.J B5
          have klb := Rb.kn.len Rb.G.qn
          have own_ne : ∀ {fs : List Nat}, ∀ x ∈ [(l2, HO.lst (rs.map V.ref)), (pf, HO.lst (nats fs)), (pk, HO.lst (nats ns))], x.1 ≠ dk := fun x hx => by
            simp only [List.mem_cons, List.not_mem_nil, or_false] at hx
            rcases hx with rfl | rfl | rfl
            · exact l2d
            · exact nfd
            · exact pkd
          have hml : (nats fs).length < sizeLine := by rw [List.length_map]; exact small1000 (by omega)
          have fin : ∀ {H7 : Hp} {q7 : List Sq} {kvs7 : List (List Key × V)} {m7 : Nat}, RS K Pj a rows dk cs (pf :: pk :: dk :: a.muts rows) H H7 q7 kvs7 → q' <+: q7 → OwnO a rows H7 [(l2, .lst (rs.map V.ref)), (pf, .lst (nats fs)), (pk, .lst (nats ns))] → Tup Hb H7 → q7.length + 20 * kvs'.length ≤ q'.length + 1 + 20 * kvs7.length → kvs'.length ≤ kvs7.length → q7[m7]? = some (Fo (i % 2) (i / 2)) →
              RS K Pj a rows dk cs (pf :: pk :: dk :: a.muts rows) H (upd H7 pf (.lst (nats fs ++ [V.int (m7 : Int)]))) q7 kvs7 ∧ OwnO a rows (upd H7 pf (.lst (nats fs ++ [V.int (m7 : Int)]))) [(l2, .lst (rs.map V.ref)), (pf, .lst (nats (fs ++ [m7]))), (pk, .lst (nats ns))] ∧ Tup H6 (upd H7 pf (.lst (nats fs ++ [V.int (m7 : Int)]))) ∧ (fs ++ [m7]).length = i + 1 ∧ q7.length + 20 * kvs4.length ≤ q4.length + (i + 1) + 20 * kvs7.length ∧ kvs4.length ≤ kvs7.length ∧ ∀ k m : Nat, (fs ++ [m7])[k]? = some m → q7[m]? = some (Fo (k % 2) (k / 2)) := fun {H7 q7 kvs7 m7} R7 p7 O7 t7 lq lk hm7 => by
            refine ⟨R7.put List.mem_cons_self nfd (fun u z => by rw [O7.ix 1 rfl] at z; cases z; exact fun z => z) nfm, ?_, (tp.trans t7).trans (O7.tup 1 rfl _), by rw [List.length_append, fl]; rfl, by omega, by omega, fun k m z => ?_⟩
            · have o := O7.put 1 rfl (.lst (nats fs ++ [V.int (m7 : Int)])) (fun z => z)
              unfold nats; rw [List.map_append]; exact o
            · rcases snoc_cases z with z | ⟨rfl, rfl⟩
              · exact pre_get p7 (hF k m z)
              · rw [fl, hm7]
          walk_at "rd"
          by_cases z : e = D + 1
          · have tw1 : tw = 1 := etw'.mpr z
            rw [if_pos z] at eF
            rw [tw1, decide_eq_true (show ((1 : Nat) : Int) = 1 by rfl)]
            walk_at "rd"
            refine rd_tyL (O.ix 1 rfl) ?_
            walk_at "rd"
            refine rd_methR hJb (by rfl) ?_
            walk_at "rd"
            refine rd_methR Rb.G.ob (by rfl) ?_
            walk_at "rd"
            refine ⟨a, rows, q', A, B', C, D', m0, m1, m2, m3, rfl, Rb.G, w0, w1, w2, w3, ⟨n0.1, n1.1, n2.1, n3.1, by omega, by omega, by omega⟩, by omega, by omega, fun H7 q7 m7 G7 pre7 len7 hm7 fr7 => ?_⟩
            have st7 := GStep.of5 G7 pre7 fr7
            have R7 := Rb.step B5 st7
            have O7 := O.step st7
            have t7 := st7.tup Rb.G
            walk_at "rd"
            rw [show (e : Int) - 1 = ((e - 1 : Nat) : Int) by omega]
            have mP := mP' z
            refine R7.reck B5 hm7 (by show A.level + 1 = D + 2; omega) (by omega) (by omega) hC mP (by omega) hk fun H8 q8 m8 kvs8 R8 pre8 lq8 lk8 nj8 hm8 f8 => ?_
            have O8 := O7.fr1 f8 own_ne
            have t8 := t7.trans (R7.tup f8)
            obtain ⟨r1, r2, r3, r4, r5, r6, r7⟩ := fin R8 (pre7.trans pre8) O8 t8 (by omega) (by omega) (by rw [hm8, eF])
            walk_at "rd"
            refine rd_append (O8.ix 1 rfl) hml ?_
            walk_at "rd"
            exact ⟨q8, kvs8, fs ++ [m8], _, _, _, _, rfl, r1, (pre.trans pre7).trans pre8, r2, r3, r4, r5, r6, nj.trans nj8 (pre7.trans pre8), r7⟩
          · have tw0 : tw = 0 := by rw [htw, if_neg z]
            rw [if_neg z] at eF
            rw [tw0, decide_eq_false (show ¬ ((0 : Nat) : Int) = 1 by decide)]
            obtain ⟨mw, ml, _⟩ := meet_ok n0.1 n1.1 n2.1 n3.1 n0.2 n1.2 n2.2 n3.2
            obtain ⟨a1, a2, a3, a4, rfl⟩ := Sq.node_of (S := A) (by omega)
            obtain ⟨b1, b2, b3, b4, rfl⟩ := Sq.node_of (S := B') (by omega)
            obtain ⟨c1', c2', c3', c4', rfl⟩ := Sq.node_of (S := C) (by omega)
            obtain ⟨d1, d2, d3, d4, rfl⟩ := Sq.node_of (S := D') (by omega)
            have ml' : a4.level + 1 = D + 1 := ml
            walk_at "rd"
            refine rd_tyL (O.ix 1 rfl) ?_
            walk_at "rd"
            refine ⟨a, rows, q', m0, m1, m2, m3, _, _, _, _, _, _, _, _, _, _, _, _, _, _, _, _, rfl, Rb.G, w0, w1, w2, w3, mw, by omega, by omega, fun H7 q7 m7 G7 pre7 len7 hm7 fr7 => ?_⟩
            have st7 := GStep.of5 G7 pre7 fr7
            have R7 := Rb.step B5 st7
            have O7 := O.step st7
            have t7 := st7.tup Rb.G
            obtain ⟨r1, r2, r3, r4, r5, r6, r7⟩ := fin R7 pre7 O7 t7 (by omega) (by omega) (by rw [hm7, eF]; rfl)
            walk_at "rd"
            refine rd_append (O7.ix 1 rfl) hml ?_
            walk_at "rd"
            exact ⟨q7, kvs', fs ++ [m7], _, _, _, _, rfl, r1, pre.trans pre7, r2, r3, r4, r5, r6, nj.mono (Nat.le_refl _) pre7, r7⟩
        rintro σ H7 ⟨q7, kvs7, fs, x9, x10, x11, x12, rfl, R7, pre7, O7, tp, fl, ql7, kl7, nj7, hF⟩
        have e4 : (rs.map V.ref).length = 4 := by rw [List.length_map]; exact rl
        rw [e4] at fl ql7
        obtain ⟨f0, f1, f2, f3, rfl⟩ := four_get fl
        have F0 := hF 0 f0 rfl
        have F1 := hF 1 f1 rfl
        have F2 := hF 2 f2 rfl
        have F3 := hF 3 f3 rfl
        obtain ⟨wJ, lJ, _⟩ := jump_ok B.W (D + 1) e S wS hl he
        rw [hJN] at wJ lJ
        have lJ' : (Fo 0 0).level + 1 = D + 1 + 1 := lJ
        have hJ7 := R7.J B5
        have klen7 := R7.kn.len R7.G.qn
        walk_at "rd"
        refine rd_methR R7.G.ob (by rfl) ?_
        walk_at "rd"
        refine rd_ixL (SqL.of (O7.ix 1 rfl)) (atI_nat (j := 0) rfl) ?_
        walk_at "rd"
        refine rd_ixL (SqL.of (O7.ix 1 rfl)) (atI_nat (j := 1) rfl) ?_
        walk_at "rd"
        refine rd_ixL (SqL.of (O7.ix 1 rfl)) (atI_nat (j := 2) rfl) ?_
        walk_at "rd"
        refine rd_ixL (SqL.of (O7.ix 1 rfl)) (atI_nat (j := 3) rfl) ?_
        walk_at "rd"
        refine ⟨a, rows, q7, _, _, _, _, f0, f1, f2, f3, rfl, R7.G, F0, F1, F2, F3, wJ, by show (Fo 0 0).level ≤ 60; omega, by omega, fun H8 q8 m8 G8 pre8 len8 hm8 fr8 => ?_⟩
        have st8 := GStep.of5 G8 pre8 fr8
        have R8 := R7.step B5 st8
        have hJ8 := R8.J B5
        walk_at "rd"
        refine rd_new (hn := by show 2 ≤ sizeLine; decide) fun t3 ht3 => ?_
        have s9 := same_upd (o := .tup [V.int (n : Int), V.int (e : Int)]) ht3
        have T9 : (upd H8 t3 (.tup [V.int (n : Int), V.int (e : Int)])) t3 = some (.tup (([Sum.inl (n : Int), Sum.inl (e : Int)] : List Key).map kV)) := upd_same
        have R9 := R8.same s9
        generalize upd H8 t3 (.tup [V.int (n : Int), V.int (e : Int)]) = H9 at *
        have hJ9 := R9.J B5
        walk_at "rd"
        refine ⟨dk, _, rfl, DPut.t (k := [Sum.inl (n : Int), Sum.inl (e : Int)]) R9.D T9 (by omega), ?_⟩
        have prA := ((pre3.trans pre4).trans pre7).trans pre8
        have hmJ : q8[m8]? = some (jumpN cs (D + 1) e S) := by rw [hJN]; exact hm8
        have frR : Fr (dk :: a.muts rows) H H9 := fun b o eb nb => R9.fr b o eb fun z => by
          rcases List.mem_cons.mp z with rfl | z
          · rw [pf0] at eb; cases eb
          rcases List.mem_cons.mp z with rfl | z
          · rw [hpk0] at eb; cases eb
          · exact nb z
        have RZ : RS K Pj a rows dk cs (dk :: a.muts rows) H (upd H9 dk (.dT (putK kvs7 [Sum.inl (n : Int), Sum.inl (e : Int)] (.int (m8 : Int))))) q8 (putK kvs7 [Sum.inl (n : Int), Sum.inl (e : Int)] (.int (m8 : Int))) :=
          ⟨R9.G.upd (fun u eu => by rw [R9.D] at eu; cases eu; exact fun z => z) B.dm, frR.trans fun b o eb nb => by rw [upd_ne (fun z => nb (by rw [z]; exact List.mem_cons_self))]; exact eb, upd_same, R9.kn.put (d := D + 1) (pre_get prA hn) hl he hmJ hP⟩
        walk_at "rd"
        have none7 : valV kvs7 [Sum.inl (n : Int), Sum.inl (e : Int)] = none := by
          cases ev : valV kvs7 [Sum.inl (n : Int), Sum.inl (e : Int)] with
          | none => rfl
          | some u =>
            obtain ⟨n', e'', S', ek, eq7, lS⟩ := nj7 _ u ev hv
            simp only [List.cons.injEq, Sum.inl.injEq, and_true] at ek
            have en : n = n' := by omega
            subst en
            have hn7 := pre_get ((pre3.trans pre4).trans pre7) hn
            rw [hn7] at eq7
            cases eq7
            omega
        have lk9 := length_putN (x := V.int (m8 : Int)) none7
        exact k _ q8 m8 _ RZ prA (by omega) (by omega) ((nj7.mono (Nat.le_succ _) pre8).put (pre_get prA hn) (by omega) (List.prefix_refl _)) hm8
def sp_check (C : Addr) (K : PySem.W.Frag) : Sp := fun vs H Q _ => ∃ (p dx dk : Addr) (vr : V) (a : GA) (rows : List (Int × Addr)) (q : List Sq) (n e : Nat) (S : Sq), vs = [.ref p, .int (n : Int), .int (e : Int)] ∧ HJ K H p dx a.g vr dk ∧ GAt C H a rows q ∧ q[n]? = some S ∧ e + 2 ≤ S.level ∧ q.length ≤ 16000000 ∧ Q .non H
theorem mp_check {C : Addr} : MonP (sp_check C K) := fun vs H Q Q' E h ⟨p, dx, dk, vr, a, rows, q, n, e, S, x1, x2, x3, x4, x5, x6, k⟩ => ⟨p, dx, dk, vr, a, rows, q, n, e, S, x1, x2, x3, x4, x5, x6, h _ _ k⟩
theorem ok_check (T : Env fa fn K mg) : Good P w K mg base CX0 4 ("Jumps", some "check") ["self", "square", "e"] (sp_check (CG K) K) := by
  have G_Grove_level_of := ok_level_of (P := P) (w := w) (base := base) T
  have G_is_whole := ok_is_whole (P := P) (w := w) (base := base) T
  refine good_mk T 53 (d := d_Jumps_check) (N := ["self", "square", "e", "level"]) (ps := ["self", "square", "e"]) rfl rfl sc_Jumps_check (fun _ _ _ _ _ _ us hl => match us, hl with | [_, _, _], _ => rfl) (fun vs H Q E h => ?_) (fun f cdv A outer σ0 H vs Q E hr h => ?_)
  · obtain ⟨p, dx, dk, vr, a, rows, q, n, e, S, rfl, _⟩ := h; rfl
  · obtain ⟨p, dx, dk, vr, a, rows, q, n, e, S, rfl, hJ, G, hn, he, hq, k⟩ := h
    have hJ' : H p = some (.ins (He.ga K "Jumps") dx [("grove", .ref a.g), ("rule", vr), ("known", .ref dk)]) := hJ
    have clJ := T.cls 53
    have na1 := T.noat 92
    refine ⟨_, (pss_cons (ps_set (i := 3) sc_Jumps_check.nd rfl (Or.inl rfl) (pe_mgK K rfl (pe_fldK K rfl (pv 0) rfl) (T.cls 9) (T.meth 52) G_Grove_level_of (hr.mono (by decide)) (pa_cons (pv 1) pa_nil)))
      (pss_cons (ps_if (pt_cmpR op_lt (pv 3) pe_int (nomark _)) pss_never pss_nil)
      (pss_one (ps_if (PW.pt (pw_or (pt_not (pt_val (pe_cgK K rfl G_is_whole (hr.mono (by decide)) (T.glo 7) (pa_cons (pv 2) pa_nil)))) (pw_or1 (pt_not (pt_chain op_le op_le pe_int (pv 2) (pe_op op_sub (pv 3) pe_int)))))) pss_never pss_nil)))), ?_⟩
    walk_at "rd"
    refine rd_methR G.ob (by rfl) ?_
    walk_at "rd"
    refine ⟨a, rows, q, n, S, rfl, G, hn, hq, ?_⟩
    walk_at "rd"
    rw [decide_eq_false (show ¬ ((S.level : Nat) : Int) < 2 by omega)]
    walk_at "rd"
    refine ⟨_, rfl, .inl ⟨_, rfl⟩, ?_⟩
    walk_at "rd"
    refine iteF ?_
    walk_at "rd"
    rw [decide_eq_true (show (0 : Int) ≤ (e : Int) by omega)]
    walk_at "rd"
    rw [decide_eq_true (show (e : Int) ≤ (S.level : Int) - 2 by omega)]
    walk_at "rd"
    exact k
theorem ok_after (T : Env fa fn K mg) (D : Nat) : Good P w K mg base CX0 (6 + D + 1) ("Jumps", some "after") ["self", "square", "e"] (sp_reck K D) := by
  have G_Jumps_check := ok_check (P := P) (w := w) (base := base) T
  have G_Jumps_reckoned := ok_reck (P := P) (w := w) (base := base) T D
  refine good_mk T 54 (d := d_Jumps_after) (N := ["self", "square", "e"]) (ps := ["self", "square", "e"]) rfl rfl sc_Jumps_after (fun _ _ _ _ _ _ us hl => match us, hl with | [_, _, _], _ => rfl) (fun vs H Q E h => ?_) (fun f cdv A outer σ0 H vs Q E hr h => ?_)
  · obtain ⟨p, dx, dk, vr, a, rows, q, n, e, S, cs, kvs, Pj, rfl, _⟩ := h; rfl
  · obtain ⟨p, dx, dk, vr, a, rows, q, n, e, S, cs, kvs, Pj, rfl, B, R0, hn, hl, he, hd, hC, hP, hq, hk, k⟩ := h
    have hJ0 := B.J'
    refine ⟨_, (pss_cons (ps_expr (pe_mgK K rfl (pv 0) (T.cls 53) (T.meth 63) G_Jumps_check (hr.mono (by show _ ≤ 6 + D; omega)) (pa_cons (pv 1) (pa_cons (pv 2) pa_nil))))
      (pss_one (ps_ret (pe_mgK K rfl (pv 0) (T.cls 53) (T.meth 56) G_Jumps_reckoned (hr.mono (by show _ ≤ 6 + D; omega)) (pa_cons (pv 1) (pa_cons (pv 2) pa_nil)))))), ?_⟩
    walk_at "rd"
    refine rd_methR hJ0 (by rfl) ?_
    walk_at "rd"
    refine ⟨p, dx, dk, vr, a, rows, q, n, e, S, rfl, B.J, R0.G, hn, by omega, by have := R0.kn.len R0.G.qn; omega, ?_⟩
    walk_at "rd"
    refine rd_methR hJ0 (by rfl) ?_
    walk_at "rd"
    exact ⟨p, dx, dk, vr, a, rows, q, n, e, S, cs, kvs, Pj, rfl, B, R0, hn, hl, he, hd, hC, hP, hq, hk, k⟩
end
end JF

/-! ### solid squares of states that stay, jumped -/
namespace JF
open PySem PySem.Spec PyProof.Rows L2
theorem get_nodeE {A B C D : Sq} (w : (Sq.node A B C D).wf) {x y : Int} (x0 : 0 ≤ x) (x1 : x < 2 ^ A.level) (y0 : 0 ≤ y) (y1 : y < 2 ^ A.level) :
    (Sq.node A B C D).get x y = A.get x y ∧ (Sq.node A B C D).get (x + 2 ^ A.level) y = B.get x y ∧ (Sq.node A B C D).get x (y + 2 ^ A.level) = C.get x y ∧ (Sq.node A B C D).get (x + 2 ^ A.level) (y + 2 ^ A.level) = D.get x y := by
  obtain ⟨h, e⟩ : ∃ h : Int, h = 2 ^ A.level := ⟨_, rfl⟩
  have eq : ∀ u v : Int, (Sq.node A B C D).get u v = (if v < h then (if u < h then A.get u v else B.get (u - h) v) else (if u < h then C.get u (v - h) else D.get (u - h) (v - h))) := fun u v => by rw [e]; rfl
  rw [← e] at x1 y1 ⊢
  have e1 : x + h - h = x := by omega
  have e2 : y + h - h = y := by omega
  refine ⟨?_, ?_, ?_, ?_⟩
  · rw [eq, if_pos y1, if_pos x1]
  · rw [eq, if_pos y1, if_neg (by omega), e1]
  · rw [eq, if_neg (by omega), if_pos x1, e2]
  · rw [eq, if_neg (by omega), if_neg (by omega), e1, e2]
theorem sq_extE : ∀ {S T : Sq}, S.wf → T.wf → S.level = T.level → (∀ x y : Int, 0 ≤ x → x < 2 ^ S.level → 0 ≤ y → y < 2 ^ S.level → S.get x y = T.get x y) → S = T
  | .leaf s, .leaf t, _, _, _, h => by
    have e : s = t := h 0 0 (by decide) (by show (0 : Int) < 1; decide) (by decide) (by show (0 : Int) < 1; decide)
    rw [e]
  | .leaf s, .node a b c d, _, _, e, _ => by cases e
  | .node a b c d, .leaf t, _, _, e, _ => by cases e
  | .node a b c d, .node a' b' c' d', w, w', e, h => by
    obtain ⟨wa, wb, wc, wd, e1, e2, e3⟩ := id w
    obtain ⟨wa', wb', wc', wd', f1, f2, f3⟩ := id w'
    have el : a.level = a'.level := by
      have z : a.level + 1 = a'.level + 1 := e
      omega
    have g := fun {u v : Int} (u0 : 0 ≤ u) (u1 : u < 2 ^ a.level) (v0 : 0 ≤ v) (v1 : v < 2 ^ a.level) => get_nodeE w u0 u1 v0 v1
    have g' := fun {u v : Int} (u0 : 0 ≤ u) (u1 : u < 2 ^ a'.level) (v0 : 0 ≤ v) (v1 : v < 2 ^ a'.level) => get_nodeE w' u0 u1 v0 v1
    rw [← el] at g'
    have e2p : (2 : Int) ^ (Sq.node a b c d).level = 2 * 2 ^ a.level := Sq.two_succ _
    rw [e2p] at h
    have hp := Sq.two_pos a.level
    have ha : a = a' := sq_extE wa wa' el fun x y x0 x1 y0 y1 => by
      rw [← (g x0 x1 y0 y1).1, ← (g' x0 x1 y0 y1).1]
      exact h x y x0 (by omega) y0 (by omega)
    have hb : b = b' := sq_extE wb wb' (by omega) fun x y x0 x1 y0 y1 => by
      rw [e1] at x1 y1
      rw [← (g x0 x1 y0 y1).2.1, ← (g' x0 x1 y0 y1).2.1]
      exact h (x + 2 ^ a.level) y (by omega) (by omega) y0 (by omega)
    have hc : c = c' := sq_extE wc wc' (by omega) fun x y x0 x1 y0 y1 => by
      rw [e2] at x1 y1
      rw [← (g x0 x1 y0 y1).2.2.1, ← (g' x0 x1 y0 y1).2.2.1]
      exact h x (y + 2 ^ a.level) x0 (by omega) (by omega) (by omega)
    have hd : d = d' := sq_extE wd wd' (by omega) fun x y x0 x1 y0 y1 => by
      rw [e3] at x1 y1
      rw [← (g x0 x1 y0 y1).2.2.2, ← (g' x0 x1 y0 y1).2.2.2]
      exact h (x + 2 ^ a.level) (y + 2 ^ a.level) (by omega) (by omega) (by omega) (by omega)
    rw [ha, hb, hc, hd]
section
variable {cs : List Cla} {v : Int}
theorem part_evenJ (hv : St v) (d : Nat) {i j : Nat} (hi : i < 3) (hj : j < 3) : part (Sq.even (d + 2) v) i j = Sq.even (d + 1) v := by
  have w : (Sq.even (d + 2) v).wf := Sq.wf_even hv.1 hv.2 _
  have l : (Sq.even (d + 2) v).level = d + 2 := Sq.level_even _ _
  obtain ⟨w1, l1⟩ := part_ok w l hi hj
  have e2 : (2 : Int) ^ (d + 1) = 2 * 2 ^ d := Sq.two_succ d
  refine sq_extE w1 (Sq.wf_even hv.1 hv.2 _) (by rw [l1, Sq.level_even]) fun x y a b c e => ?_
  rw [l1, e2] at b e
  rw [part_get w l hi hj a b c e, Sq.get_even, Sq.get_even]
theorem jump_even (hw : ∀ c ∈ cs, ClaW c) (hv : St v) (stay : ∀ n, itF cs n (fun _ _ => v) = fun _ _ => v) (d e : Nat) (he : e ≤ d) : jumpN cs d e (Sq.even (d + 2) v) = Sq.even (d + 1) v := by
  have w : (Sq.even (d + 2) v).wf := Sq.wf_even hv.1 hv.2 _
  have l : (Sq.even (d + 2) v).level = d + 2 := Sq.level_even _ _
  obtain ⟨w1, l1, g⟩ := jump_ok hw d e _ w l he
  have e2 : (2 : Int) ^ (d + 1) = 2 * 2 ^ d := Sq.two_succ d
  refine sq_extE w1 (Sq.wf_even hv.1 hv.2 _) (by rw [l1, Sq.level_even]) fun x y a b c z => ?_
  rw [l1, e2] at b z
  have eg : (Sq.even (d + 2) v).get = fun _ _ => v := by funext x y; exact Sq.get_even v _ x y
  rw [g x y a b c z, eg, stay, Sq.get_even]
def covE (vs : List Int) : List (Sq × Nat) := (List.range 12).flatMap fun l => (List.range 12).flatMap fun e => vs.map fun v => (Sq.even l v, e)
theorem covE_mem {vs : List Int} {S : Sq} {e : Nat} : (S, e) ∈ covE vs ↔ ∃ l v, l < 12 ∧ e < 12 ∧ v ∈ vs ∧ S = Sq.even l v := by
  unfold covE
  simp only [List.mem_flatMap, List.mem_range, List.mem_map, Prod.mk.injEq]
  constructor
  · rintro ⟨l, hl, e', he, v, hv, rfl, rfl⟩
    exact ⟨l, v, hl, he, hv, rfl⟩
  · rintro ⟨l, v, hl, he, hv, rfl⟩
    exact ⟨l, hl, e, he, v, hv, rfl, rfl⟩
theorem flat_lenE {α β : Type} {f : α → List β} {b : Nat} : ∀ l : List α, (∀ x ∈ l, (f x).length ≤ b) → (l.flatMap f).length ≤ l.length * b
  | [], _ => by simp
  | x :: l, h => by
    rw [List.flatMap_cons, List.length_append, List.length_cons, Nat.add_mul, Nat.one_mul]
    have := flat_lenE l fun y hy => h y (List.mem_cons_of_mem _ hy)
    have := h x List.mem_cons_self
    omega
theorem covE_len (vs : List Int) : (covE vs).length ≤ 12 * (12 * vs.length) := by
  have h := flat_lenE (f := fun l => (List.range 12).flatMap fun e => vs.map fun v => (Sq.even l v, e)) (b := 12 * vs.length) (List.range 12) fun l _ => by
    have := flat_lenE (f := fun e => vs.map fun v => (Sq.even l v, e)) (b := vs.length) (List.range 12) fun e _ => by rw [List.length_map]; exact Nat.le_refl _
    rw [List.length_range] at this
    exact this
  rw [List.length_range] at h
  exact h
theorem covE_closed {vs : List Int} (hw : ∀ c ∈ cs, ClaW c) (hs : ∀ v ∈ vs, St v) (stay : ∀ v ∈ vs, ∀ n, itF cs n (fun _ _ => v) = fun _ _ => v) : ClosedJ cs (covE vs) := by
  intro S d e hP w hl he
  obtain ⟨l, v, l12, e12, hv, rfl⟩ := covE_mem.mp hP
  rw [Sq.level_even] at hl
  subst hl
  refine ⟨fun i j hi hj => ?_, fun hed i j hi hj => ?_⟩
  · rw [part_evenJ (hs v hv) (d + 1) hi hj]
    exact covE_mem.mpr ⟨d + 1 + 1, v, by omega, by split <;> omega, hv, rfl⟩
  · rw [part_evenJ (hs v hv) (d + 1) (by omega) (by omega), part_evenJ (hs v hv) (d + 1) (by omega) (by omega), part_evenJ (hs v hv) (d + 1) (by omega) (by omega), part_evenJ (hs v hv) (d + 1) (by omega) (by omega)]
    rw [jump_even hw (hs v hv) (stay v hv) d (e - 1) (by omega)]
    exact covE_mem.mpr ⟨d + 1 + 1, v, by omega, by omega, hv, rfl⟩
end
/-! #### a rule by which s comes of nothing beside k others -/
def beR (s k : Int) : List Cla := [⟨some 0, [.amt s [k]], s⟩]
theorem beR_stay {s k : Int} (s1 : 1 ≤ s) (k1 : 1 ≤ k) {v : Int} (hv : v = 0 ∨ v = s) : ∀ n, itF (beR s k) n (fun _ _ => v) = fun _ _ => v
  | 0 => rfl
  | n + 1 => by
    funext x y
    show stepF (beR s k) (itF (beR s k) n fun _ _ => v) x y = v
    rw [beR_stay s1 k1 hv n]
    show ruleMakes (beR s k) v [v, v, v, v, v, v, v, v] = v
    have nf : (⟨some 0, [.amt s [k]], s⟩ : Cla).fits v [v, v, v, v, v, v, v, v] = false := by
      rcases hv with rfl | rfl
      · have h0 : ([0, 0, 0, 0, 0, 0, 0, 0] : List Int).count s = 0 := List.count_eq_zero.mpr (by simp; omega)
        simp only [Cla.fits, Cond.holds, List.all_cons, List.all_nil, Bool.and_true, Bool.and_eq_false_iff]
        right
        simp only [h0]
        simp
        omega
      · have : wishOk (some 0) v = false := by
          show decide ((0 : Int) = v) = false
          exact decide_eq_false (by omega)
        simp only [Cla.fits, this, Bool.false_and]
    show (match firstFit v [v, v, v, v, v, v, v, v] [⟨some 0, [.amt s [k]], s⟩] with | none => v | some i => _) = v
    unfold firstFit
    rw [nf]
    rfl
end JF

/-! ### a Jumps beside its grove (as in Leaps, where no field is jumped) -/
namespace JF
open PySem PySem.Spec PyProof.Rows L2
/-- what is no one's but the asker's is kept -/
def Kp (L L' : List Addr) (H H' : Hp) : Prop := ∀ b o, H b = some o → b ∉ L → H' b = some o ∧ b ∉ L'
theorem Kp.trans {L L1 L2 : List Addr} {H H1 H2 : Hp} (x : Kp L L1 H H1) (y : Kp L1 L2 H1 H2) : Kp L L2 H H2 := fun b o e n => let ⟨a, c⟩ := x b o e n; y b o a c
theorem Kp.same {L : List Addr} {H H' : Hp} (s : Same H H') : Kp L L H H' := fun b o e n => ⟨s b o e, n⟩
theorem Kp.fr {L : List Addr} {H H' : Hp} (f : Fr L H H') : Kp L L H H' := fun b o e n => ⟨f b o e n, n⟩
theorem RuleAtN.kp {K : PySem.W.Frag} {L L' : List Addr} {H H' : Hp} {v : V} {cs : List Cla} (h : RuleAtN (fun b => b ∉ L) K H v cs) (s : Kp L L' H H') : RuleAtN (fun b => b ∉ L') K H' v cs := by
  obtain ⟨p, dx, l, ps, e, h1, h2, h3, h4, h5⟩ := h
  refine ⟨p, dx, l, ps, e, (s _ _ h1 h3).1, (s _ _ h2 h4).1, (s _ _ h1 h3).2, (s _ _ h2 h4).2, h5.imp fun v c hc => ?_⟩
  obtain ⟨p, dx, l, ps, e, h1, h2, h3, h4, h5⟩ := hc
  refine ⟨p, dx, l, ps, e, (s _ _ h1 h3).1, (s _ _ h2 h4).1, (s _ _ h1 h3).2, (s _ _ h2 h4).2, h5.imp fun u k hk => ?_⟩
  cases k with
  | amt st ns => obtain ⟨p, dx, l, e, h1, h2, h3, h4⟩ := hk; exact ⟨p, dx, l, e, (s _ _ h1 h3).1, (s _ _ h2 h4).1, (s _ _ h1 h3).2, (s _ _ h2 h4).2⟩
  | plc ws => obtain ⟨p, dx, l, e, h1, h2, h3, h4⟩ := hk; exact ⟨p, dx, l, e, (s _ _ h1 h3).1, (s _ _ h2 h4).1, (s _ _ h1 h3).2, (s _ _ h2 h4).2⟩
/-- a Jumps beside its grove -/
structure JW (K : PySem.W.Frag) (a : GA) (rows : List (Int × Addr)) (p dx dk : Addr) (vr : V) (cs : List Cla) (Pj : List (Sq × Nat)) (H : Hp) (q : List Sq) (kvs : List (List Key × V)) : Prop where
  G : GAt (CG K) H a rows q
  J : HJ K H p dx a.g vr dk
  R : RuleAtN (fun b => b ∉ dk :: a.muts rows) K H vr cs
  W : ∀ c ∈ cs, ClaW c
  D : H dk = some (.dT kvs)
  dm : dk ∉ a.muts rows
  kn : KnP cs Pj q kvs
/-- .. goes on -/
structure JS (a : GA) (dk : Addr) (rows : List (Int × Addr)) (q : List Sq) (H : Hp) (rows' : List (Int × Addr)) (q' : List Sq) (H' : Hp) : Prop where
  pre : q <+: q'
  kp : Kp (dk :: a.muts rows) (dk :: a.muts rows') H H'
section
variable {P : Program} {w : World} {K : PySem.W.Frag} {mg : Str → Option Value} {base : Heap}
variable {Pj : List (Sq × Nat)} {a : GA} {rows r1 r2 : List (Int × Addr)} {p dx dk : Addr} {vr : V} {cs : List Cla} {H H1 H2 : Hp} {q q1 q2 : List Sq} {kvs kvs2 : List (List Key × V)}
theorem JS.refl (a : GA) (dk : Addr) (rows : List (Int × Addr)) (q : List Sq) (H : Hp) : JS a dk rows q H rows q H := ⟨List.prefix_refl _, fun _ _ e n => ⟨e, n⟩⟩
theorem JS.trans (x : JS a dk rows q H r1 q1 H1) (y : JS a dk r1 q1 H1 r2 q2 H2) : JS a dk rows q H r2 q2 H2 := ⟨x.pre.trans y.pre, x.kp.trans y.kp⟩
theorem JW.pout (h : JW K a rows p dx dk vr cs Pj H q kvs) : p ∉ dk :: a.muts rows := fun z => by
  have hJ : H p = some (.ins (He.ga K "Jumps") dx [("grove", .ref a.g), ("rule", vr), ("known", .ref dk)]) := h.J
  rcases List.mem_cons.mp z with z | z
  · rw [z, h.D] at hJ; cases hJ
  · exact h.G.ins_out hJ z
theorem JW.J' (h : JW K a rows p dx dk vr cs Pj H q kvs) : H p = some (.ins (He.ga K "Jumps") dx [("grove", .ref a.g), ("rule", vr), ("known", .ref dk)]) := h.J
theorem kp_step (s : GStep (CG K) H a rows q H1 r1 q1) (D : H dk = some (.dT kvs)) (dm : dk ∉ a.muts rows) : Kp (dk :: a.muts rows) (dk :: a.muts r1) H H1 := fun b o e n => by
  have n1 : b ∉ a.muts rows := fun z => n (List.mem_cons_of_mem _ z)
  obtain ⟨x, y⟩ := s.own e n1
  refine ⟨x, fun z => ?_⟩
  rcases List.mem_cons.mp z with z | z
  · exact n (z ▸ List.mem_cons_self)
  · exact y z
theorem JW.step (h : JW K a rows p dx dk vr cs Pj H q kvs) (s : GStep (CG K) H a rows q H1 r1 q1) : JW K a r1 p dx dk vr cs Pj H1 q1 kvs ∧ JS a dk rows q H r1 q1 H1 := by
  have kp := kp_step s h.D h.dm
  have d := s.own h.D h.dm
  exact ⟨⟨s.gat, (kp _ _ h.J h.pout).1, h.R.kp kp, h.W, d.1, d.2, h.kn.pre s.pre⟩, ⟨s.pre, kp⟩⟩
theorem JW.same (h : JW K a rows p dx dk vr cs Pj H q kvs) (s : Same H H1) : JW K a rows p dx dk vr cs Pj H1 q kvs := ⟨h.G.same s, s _ _ h.J, h.R.kp (Kp.same s), h.W, s _ _ h.D, h.dm, h.kn⟩
theorem JS.same (s : Same H H1) : JS a dk rows q H rows q H1 := ⟨List.prefix_refl _, Kp.same s⟩
/-- an own object is changed -/
theorem JW.put (h : JW K a rows p dx dk vr cs Pj H q kvs) {b : Addr} {o u : HO} (e : H b = some u) (m : ¬ HO.still u) (out : b ∉ dk :: a.muts rows) (nR : RuleAtN (fun b' => b' ∉ b :: dk :: a.muts rows) K H vr cs) : JW K a rows p dx dk vr cs Pj (upd H b o) q kvs := by
  have hJ := h.J'
  have k : ∀ c v, H c = some v → c ≠ b → (upd H b o) c = some v := fun c v z n => by rw [upd_ne n]; exact z
  refine ⟨h.G.upd (fun v z => by rw [e] at z; cases z; exact m) (fun z => out (List.mem_cons_of_mem _ z)), k _ _ hJ (fun z => ?_), ?_, h.W, k _ _ h.D (fun z => out (z ▸ List.mem_cons_self)), h.dm, h.kn⟩
  · rw [z, e] at hJ; cases hJ; exact m trivial
  · exact nR.kp fun c v z n => ⟨k c v z fun y => n (y ▸ List.mem_cons_self), fun y => n (List.mem_cons_of_mem _ y)⟩
theorem RuleAtN.and {N M : Addr → Prop} {K : PySem.W.Frag} {H : Hp} {v : V} {cs : List Cla} (h : RuleAtN N K H v cs) (m : ∀ b o, H b = some o → N b → M b) : RuleAtN M K H v cs := by
  obtain ⟨p, dx, l, ps, e, h1, h2, h3, h4, h5⟩ := h
  refine ⟨p, dx, l, ps, e, h1, h2, m _ _ h1 h3, m _ _ h2 h4, h5.imp fun v c hc => ?_⟩
  obtain ⟨p, dx, l, ps, e, h1, h2, h3, h4, h5⟩ := hc
  refine ⟨p, dx, l, ps, e, h1, h2, m _ _ h1 h3, m _ _ h2 h4, h5.imp fun u k hk => ?_⟩
  cases k with
  | amt st ns => obtain ⟨p, dx, l, e, h1, h2, h3, h4⟩ := hk; exact ⟨p, dx, l, e, h1, h2, m _ _ h1 h3, m _ _ h2 h4⟩
  | plc ws => obtain ⟨p, dx, l, e, h1, h2, h3, h4⟩ := hk; exact ⟨p, dx, l, e, h1, h2, m _ _ h1 h3, m _ _ h2 h4⟩
/-- a jump of a square -/
theorem JW.reck {d n e : Nat} {S : Sq} {Q : VK} {E : XK} (h : JW K a rows p dx dk vr cs Pj H q kvs) (hn : q[n]? = some S) (hl : S.level = d + 2) (he : e ≤ d) (hd : d ≤ 45) (hC : ClosedJ cs Pj) (hP : (S, e) ∈ Pj) (hq : q.length + 20 * Pj.length + 1000 < 16000000 + 20 * kvs.length) (hk : Pj.length < 1000000)
    (k : ∀ H' q' (m : Nat) kvs', JW K a rows p dx dk vr cs Pj H' q' kvs' → JS a dk rows q H rows q' H' → q'.length + 20 * kvs.length ≤ q.length + 20 * kvs'.length → kvs.length ≤ kvs'.length → q'[m]? = some (jumpN cs d e S) → Q (.int (m : Int)) H') : sp_reck K d [.ref p, .int (n : Int), .int (e : Int)] H Q E := by
  have R' : RuleAtN (fun b => b ∉ dk :: a.muts rows ∧ H b ≠ none) K H vr cs := h.R.and fun b o e n => ⟨n, by rw [e]; exact fun z => by cases z⟩
  refine ⟨p, dx, dk, vr, a, rows, q, n, e, S, cs, kvs, Pj, rfl, ⟨h.J, R', h.W, h.pout, fun b hb => List.mem_cons_of_mem _ hb, List.mem_cons_self, h.dm⟩, ⟨h.G, Fr.refl _ _, h.D, h.kn⟩, hn, hl, he, hd, hC, hP, by omega, hk, fun H' q' m kvs' S2 pre lq lk nj hm => ?_⟩
  exact k H' q' m kvs' ⟨S2.G, S2.fr _ _ h.J h.pout, h.R.kp (Kp.fr S2.fr), h.W, S2.D, h.dm, S2.kn⟩ ⟨pre, Kp.fr S2.fr⟩ lq lk hm
abbrev sp_reckG (K : PySem.W.Frag) : Sp := fun vs H Q E => ∃ d, d ≤ 45 ∧ sp_reck K d vs H Q E
theorem mp_reckG : MonP (sp_reckG K) := fun vs H Q Q' E h ⟨d, hd, z⟩ => ⟨d, hd, mp_reck vs H Q Q' E h z⟩
theorem goodX {P : Program} {w : World} {K : PySem.W.Frag} {mg : Str → Option Value} {base : Heap} {CX : CXT} {k n : Nat} {p : Str × Option Str} {ps : List Str} {sp : Nat → Sp} (G : ∀ d, d ≤ n → Good P w K mg base CX k p ps (sp d)) : Good P w K mg base CX k p ps (fun vs H Q E => ∃ d, d ≤ n ∧ sp d vs H Q E) := by
  obtain ⟨fd, F, b, kp, l1⟩ := G 0 (Nat.zero_le _)
  have all : ∀ d, d ≤ n → FnOk P w K mg base CX k (He.fAd K p) fd ps (sp d) := fun d hd => by
    obtain ⟨fd2, F2, _, _, l2⟩ := G d hd
    cases l1.eq l2
    exact F2
  exact ⟨fd, ⟨fun vs H Q E ⟨d, hd, h⟩ => (all d hd).len vs H Q E h, fun A outer s H args us vs Q E hr he hb hv ⟨d, hd, h⟩ => (all d hd).run A outer s H args us vs Q E hr he hb hv h⟩, b, kp, l1⟩
theorem ok_afterG (T : Env fa fn K mg) : Good P w K mg base CX0 52 ("Jumps", some "after") ["self", "square", "e"] (sp_reckG K) := goodX fun d hd => (ok_after (P := P) (w := w) (base := base) T d).mono (by omega)
end
end JF

/-! ### defs within defs, handed on to another def -/
namespace JF
open PySem PySem.Spec PyProof.Rows L2 NdefX LamX
section
variable {X : Cx} {pins : List (Addr × Obj)} {σ : L2.St} {H : Hp} {s : Shared}
/-- an address of the base, or of a cell of the running frame -/
def InC (X : Cx) (b : Addr) : Prop := X.base.get? b ≠ none ∨ ∃ y, X.env.cells.lookup y = some b
open Classical in
/-- the base and the running frame's cells -/
noncomputable def baseC (X : Cx) (h : Heap) : Heap := PySem.W.hideAll h ((List.range h.objs.size).filter fun b => decide (¬ InC X b))
open Classical in
theorem baseC_get {h : Heap} {b : Addr} {o : Obj} (e : h.get? b = some o) (n : InC X b) : (baseC X h).get? b = some o :=
  PySem.W.hideAll_get _ e fun hm => of_decide_eq_true (List.mem_filter.mp hm).2 n
open Classical in
theorem of_baseC {h : Heap} {b : Addr} {o : Obj} (e : (baseC X h).get? b = some o) : h.get? b = some o ∧ InC X b := by
  have e' := PySem.W.of_hideAll _ e
  refine ⟨e', Classical.byContradiction fun n => ?_⟩
  have z : (baseC X h).get? b = none := PySem.W.hideAll_none _ (List.mem_filter.mpr ⟨List.mem_range.mpr (Heap.lt_size e'), decide_eq_true n⟩)
  rw [e] at z
  cases z
theorem env0C (I : Inv X pins σ H s) (hfn : ∀ y, X.fn y = true) : Env0 X.prog X.w X.K X.mg (baseC X s.heap) X.A X.stack s H := by
  have k : ∀ b o, X.base.get? b = some o → (baseC X s.heap).get? b = some o := fun b o e => baseC_get (I.bk b o e) (.inl (by rw [e]; simp))
  refine ⟨I.ok.frames, ?_, ?_, ?_, ?_, I.stkFree, I.hok, I.bare⟩
  · obtain ⟨k1, k2, ⟨mb, k3, k4⟩, k5⟩ := I.ok.mod
    exact ⟨k1.keeps k, k2.keeps k, ⟨mb, k3.keeps k, k4⟩, k5.keeps k⟩
  · intro b o e
    obtain ⟨e', n⟩ := of_baseC e
    refine ⟨e', ?_⟩
    rcases n with n | ⟨y, n⟩
    · cases z : X.base.get? b with
      | none => exact absurd z n
      | some o' => exact (I.bs b o' z).2
    · exact I.freeC y b n
  · exact Nat.le_of_eq (PySem.W.hideAll_size _ _)
  · refine funFrames_none I.stack fun L hL => ?_
    cases z : (baseC X s.heap).get? L with
    | none => rfl
    | some o =>
      obtain ⟨e', n⟩ := of_baseC z
      rcases n with n | ⟨y, n⟩
      · exact absurd (I.stack.mem hL).1 n
      · rcases List.mem_cons.mp (I.stkSub L hL) with hl | hl
        · obtain ⟨m, ⟨o2, es, ep, e2, d2, _⟩, _⟩ := I.loc
          obtain ⟨v, o3, e3, d3⟩ := I.cell y L n
          rw [hl, e2] at e3
          cases e3
          rw [d2] at d3
          cases d3
        · have c1 := I.ok.cab y L (hfn y) n
          obtain ⟨o3, e3, _⟩ := (I.ok.funs.mem hl).2
          have := Heap.lt_size e3
          exact absurd (Nat.lt_of_lt_of_le this c1) (Nat.lt_irrefl _)
end
/-- a made function keeps a promise wherever the base is -/
def FnV (P : Program) (w : World) (K : PySem.W.Frag) (mg : Str → Option Value) (base : Heap) (CX : CXT) (k : Nat) (f : Addr) (F : NF) (sp : Sp) : Prop :=
  ∀ (A : Around) (outer : List PySem.Env) (s : Shared) (H : Hp) (us : List Value) (vs : List V) (Q : VK) (E : XK), Room k A → Env0 P w K mg base A outer s H → H f = some (FnO f F) → H F.c = some (CodeO F.c F.qual) → Vals vs us → sp vs H Q E →
    codeAny (model P w) A (.call (.ref f) ⟨us, []⟩) (CR CX outer P w H s Q E) s
/-- the cells that a function captured lie in the base -/
structure CellsB (base : Heap) (cl : List (Str × Addr)) (fr : List Str) (ws : List (Option V)) : Prop where
  len : ws.length = fr.length
  all : ∀ y c, cl.lookup y = some c → ∃ v, base.IsCell c v
  inj : ∀ x y c, cl.lookup x = some c → cl.lookup y = some c → x = y
  has : ∀ (i : Nat) (y : Str), fr[i]? = some y → ∃ c, cl.lookup y = some c ∧ ∀ v, ws[i]? = some (some v) → ∃ u, L2.RelV v u ∧ base.IsCell c (some u)
section
variable {P : Program} {w : World} {K : PySem.W.Frag} {mg : Str → Option Value} {base : Heap} {cl : List (Str × Addr)} {fr : List Str} {ws : List (Option V)} {CX : CXT} {k j : Nat} {f : Addr} {F : NF} {ps : List Str}
theorem CellsB.at {A : Around} {outer : List PySem.Env} {s : Shared} {H : Hp} (C : CellsB base cl fr ws) (e0 : Env0 P w K mg base A outer s H) : CellsAt cl fr ws s.heap H :=
  ⟨C.len, fun y c e => let ⟨v, o, h1, h2⟩ := C.all y c e; ⟨(e0.bs c o h1).2, v, o, (e0.bs c o h1).1, h2⟩, C.inj, fun i y e => let ⟨c, h1, h2⟩ := C.has i y e; ⟨c, h1, fun v ev => let ⟨u, r, o, h3, h4⟩ := h2 v ev; ⟨u, r, o, (e0.bs c o h3).1, h4⟩⟩⟩
theorem fnV_of {sp : List (Option V) → Sp} (N : NOk P w K mg base CX k f F ps fr sp) (C : CellsB base F.cl fr ws) : FnV P w K mg base CX k f F (sp ws) :=
  fun A outer s H us vs Q E hr e0 h1 h2 r q => N.run A outer s H us vs ws Q E hr e0 h1 h2 (C.at e0) r q
theorem FnV.imp {sp sp' : Sp} (V : FnV P w K mg base CX k f F sp) (h : ∀ vs H Q E, sp' vs H Q E → sp vs H Q E) : FnV P w K mg base CX k f F sp' := fun A outer s H us vs Q E hr e0 h1 h2 r q => V A outer s H us vs Q E hr e0 h1 h2 r (h _ _ _ _ q)
theorem FnV.mono {sp : Sp} (V : FnV P w K mg base CX j f F sp) (h : j ≤ k) : FnV P w K mg base CX k f F sp := fun A outer s H us vs Q E hr => V A outer s H us vs Q E (hr.mono h)
end
section
variable {X : Cx} {pins : List (Addr × Obj)} {σ : L2.St} {H : Hp} {s : Shared} {cl : List (Str × Addr)} {fr : List Str} {js : List Nat}
theorem cellsB (I : Inv X pins σ H s) (c : Caps X cl fr js) : CellsB (baseC X s.heap) cl fr (js.map (slotAt σ)) := by
  have C := cells_of I c
  have up : ∀ y a v, cl.lookup y = some a → s.heap.IsCell a v → (baseC X s.heap).IsCell a v := fun y a v e ⟨o, h1, h2⟩ => ⟨o, baseC_get h1 (.inr ⟨y, c.sub y a e⟩), h2⟩
  exact ⟨C.len, fun y a e => let ⟨_, v, h⟩ := C.all y a e; ⟨v, up y a v e h⟩, C.inj, fun i y e => let ⟨a, h1, h2⟩ := C.has i y e; ⟨a, h1, fun v ev => let ⟨u, r, h3⟩ := h2 v ev; ⟨u, r, up y a _ h1 h3⟩⟩⟩
end
/-- f(..), f a name that holds the made function F -/
def tCallV (i : Nat) (f : Addr) (F : NF) (sp : Sp) (E : XK) (t : TA) : TE := fun σ H Q => σ[i]? = some (some (.ref f)) ∧ H f = some (FnO f F) ∧ t σ H fun vs H1 => H1 f = some (FnO f F) ∧ H1 F.c = some (CodeO F.c F.qual) ∧ sp vs H1 Q E
/-- f(..), f a def of the module that is handed functions made here -/
def tCallC (X : Cx) (k : Nat) (p : Str × Option Str) (ps : List Str) (E : XK) (t : TA) : TE := fun σ H Q => t σ H fun vs H1 => ∃ sp, (∀ base', X.Ok → (∀ cl fr js, Caps X cl fr js → CellsB base' cl fr (js.map (slotAt σ))) → Good X.prog X.w X.K X.mg base' CX0 k p ps sp) ∧ sp vs H1 Q E
section
variable {X : Cx} {k : Nat} {x : Str} {ps : List Str} {i : Nat} {f : Addr} {F : NF} {sp : Sp} {t : TA} {e : Expr} {es : List Expr} {p pos : Pos}
theorem pe_cgV (V : FnV X.prog X.w X.K X.mg X.base CX0 k f F sp) (hr : Room k X.A) (hN : X.N[i]? = some x) (hv : Vis X.env.scope x) (ha : PA X (e :: es) t)
    (hd : (x == ("__debug__" : Str)) = false := by decide) (hcd : (x == ("__classdict__" : Str)) = false := by decide)
    (he : starEach (e :: es) X.env = (false, eval e X.env) :: starEach es X.env := by rfl) (hpl : (backTo pos (starEach es X.env)).any (·.1) = false := by rfl) :
    PE X (.Call (.Name x p) (e :: es) [] pos) (tCallV i f F sp E0 t) := by
  refine ⟨fun pins s σ H Q I h => ?_⟩
  obtain ⟨hs, hf, ht⟩ := h
  refine wpAny_Call_Name_kw (thn ((pe_var (pos := p) hN hv hd hcd).run pins s σ H (fun v H1 => v = .ref f ∧ H1 = H) I ⟨.ref f, hs, rfl, rfl⟩) fun u s1 ⟨v, H1, I1, r1, q1⟩ => ?_)
  obtain ⟨ev, eH⟩ := q1
  subst ev
  rw [eH] at I1
  obtain rfl : u = Value.ref f := r1
  refine PySem.W.callWith_F (first := []) (fnAt_of I1 hf) (thn (ha.run pos pins s1 σ H _ I1 ht) fun us s2 ⟨vs, H2, I2, r, h1, h2, q⟩ => ⟨fnAt_of I2 h1, ?_⟩) he hpl
  show wpAny _ _ (call (.ref f) us) _ _ _
  refine wpAny_call (codeAny_mono (V X.A X.stack s2 H2 us vs Q E0 hr I2.env0 h1 h2 r q) fun r s' hq => ?_)
  cases r with
  | error e => exact (pass0 : Passes CX0 X E0) pins σ H2 s2 e s' I2 hq
  | ok fl =>
    cases fl with
    | ret u => exact I2.after hq
    | next => exact False.elim hq
    | brk => exact False.elim hq
    | cont => exact False.elim hq
theorem pe_cgC {sp0 : Sp} (G0 : Good X.prog X.w X.K X.mg X.base CX0 k (x, none) ps sp0) (hr : Room k X.A) (hfn : ∀ y, X.fn y = true) (hm : X.mg x = some (.ref (He.ga X.K x))) (ha : PA X (e :: es) t) (hg : Gl X x := by rfl)
    (hdb : (x == ("__debug__" : Str)) = false := by decide) (he : starEach (e :: es) X.env = (false, eval e X.env) :: starEach es X.env := by rfl) (hpl : (backTo pos (starEach es X.env)).any (·.1) = false := by rfl) :
    PE X (.Call (.Name x p) (e :: es) [] pos) (tCallC X k (x, none) ps E0 t) := by
  obtain ⟨fd, F0, b, kp, lk⟩ := G0
  refine ⟨fun pins s σ H Q I h => ?_⟩
  refine wpAny_Call_Name_kw (ld_glob I hg hm ?_ hdb)
  refine PySem.W.callWith_K (h₀ := X.base) I.ok.mod.kin kp (thn (ha.run pos pins s σ H _ I h) fun us s1 ⟨vs, H1, I1, r, q⟩ => ⟨I1.kIn, ?_⟩) he hpl
  obtain ⟨sp, hG, q⟩ := q
  obtain ⟨fd2, F, b2, kp2, lk2⟩ := hG (baseC X s1.heap) I1.ok fun cl fr js c => cellsB I1 c
  cases lk.eq lk2
  have hl : us.length = ps.length := by rw [← r.length]; exact F.len _ _ _ _ q
  have hb := b s1 us I1.kIn (by rw [List.append_nil]; exact hl)
  rw [List.append_nil] at hb
  refine wpAny_call (codeAny_mono (F.run X.A X.stack s1 H1 ⟨us, []⟩ us vs Q E0 hr (env0C I1 hfn) hb r q) fun r s' hq => ?_)
  cases r with
  | error e => exact (pass0 : Passes CX0 X E0) pins σ H1 s1 e s' I1 hq
  | ok fl =>
    cases fl with
    | ret u => exact I1.after hq
    | next => exact False.elim hq
    | brk => exact False.elim hq
    | cont => exact False.elim hq
end
/-! a def whose code object's place is asked for -/
section
variable {P : Program} {w : World} {K : PySem.W.Frag} {mg : Str → Option Value} {base : Heap} {fa : List He.Fa} {fn : List He.DefD}
theorem good_mkC (T : Env fa fn K mg) (i : Nat) {d : He.DefD} {k : Nat} {N ps : List Str} {sp : Sp} {x qual : Str} {st : Stmt} {at_ : Str × Option Str} (hi : fn[i]? = some d) (hd : d = ⟨at_, x, qual, defArgs st, defBody st, defScope st, [], []⟩) (S : FnScope N ps (defScope st))
    (hb : ∀ (kV doc pm : Value) (an : Option Addr) (cdv ct : Value) (us : List Value), us.length = ps.length → bindArgs (PySem.W.fnOf x qual (defArgs st) (defBody st) (defScope st) .none kV doc pm an cdv ct) ⟨us, []⟩ = pure (ps.zip us))
    (len : ∀ vs H Q E, sp vs H Q E → vs.length = ps.length)
    (hbody : ∀ (f : Addr) (A : Around) (outer : List PySem.Env) (s : Shared) (H : Hp) (vs : List V) (Q : VK) (E : XK), Room k (A.deeper (envOfC qual (defScope st) s.heap.objs.size f (.ref (He.codeOf K at_)))) → sp vs H Q E →
      ∃ t, PSs (cxOf CX0 P w K mg base N qual (defScope st) f (.ref (He.codeOf K at_)) A outer s H E).nox (defBody st) t ∧ t { nx := fun _ H' => Q .non H', rt := Q } (start N vs) H) : Good P w K mg base CX0 (k + 1) at_ ps sp := by
  subst hd
  obtain ⟨fd, F⟩ := T.c.def_ i hi
  have FA := fdAt_of (p := at_) F
  refine ⟨fd, ?_, FunD.bindsN F hb, F.kp, FA⟩
  obtain ⟨oc, od, dV, kV, doc, pm, an, cdv, ct, osl, rfl, lk, hcd, h1, h2⟩ := F.ex
  obtain ⟨c, rfl⟩ := He.codeIn_ref hcd
  have ec : He.codeOf K at_ = c := He.codeOf_eq lk rfl
  refine fn_of lk hcd S len fun A outer s H vs Q E hr h => ?_
  obtain ⟨t, h1, h2⟩ := hbody _ A outer s H vs Q E (by rw [ec]; exact hr) h
  rw [ec] at h1
  exact ⟨t, h1.nox, h2⟩
end
/-! ### a law with tables of code objects -/
/-- the law's row, by a frame that is told with the heap -/
theorem walk_ofTE {l : PySem.W.OpenLaw} {n k : Nat} {q : Program} {loose : List Str} {XP : (Str → Option Value) → Heap → Prop} {YP : World → Heap → Prop} {d : DefRec} {CX : CXT} {x : Str}
    (hn : l.most = some n) (hn2 : n ≤ sizeLine) (hdf : d.params.defaults = []) (hr : Room k callerA)
    (F : ∀ (w : World) (mg : Str → Option Value) (fa : Addr) (h : Heap), YP w h → h.Ns mainGlobals mg → mg d.name = some (.ref fa) → ∃ K : PySem.W.Frag, K.In h ∧ LamX.LawAtS l w K CX k n x mg fa h)
    (hCX : ∀ (H : Hp) (s : Shared) (e : Value) (s' : Shared), CX [] H s (fun _ _ _ => False) e s' → False) :
    PySem.W.WalkO q loose XP YP l.row.toRowW d [] (fun f vs => PySem.call f vs) := by
  refine Att.attach_callB hn hdf fun w s₀ s₁ mg mb fa o pm cd doc a vs ns G Y ho hd hcd hmg hobj hints hlen hbits hg => ?_
  obtain ⟨K, KX, fd, cs, sp, hT, nT, C, hb, hsp, hF⟩ := F w mg fa _ Y G.T.g hmg
  exact LamX.law_callTs KX G.T.g G.T.b G.T.builtins G.T.nolimit hg hT nT C G.T.bmain hobj hints (Nat.le_trans hlen hn2) hr hF hb (fun H hH hS => hsp H a ns hlen hbits hH hS) fun H e s' => hCX H s₁ e s'
end JF

/-! ### groves beside tables of code objects -/
namespace JF
open PySem PySem.Spec PyProof.Rows L2 LamX
theorem GAt.tbl_out {C : Addr} {H : Hp} {a : GA} {rows : List (Int × Addr)} {q : List Sq} (G : GAt C H a rows q) {b : Addr} {ps : Array Value} (h : H b = some (.tbl ps)) : b ∉ a.muts rows := by
  obtain ⟨tups, mk, spt, D⟩ := G.da
  intro z
  unfold GA.muts GA.m5 at z
  simp only [List.cons_append, List.nil_append, List.mem_cons, List.mem_map] at z
  rcases z with rfl | rfl | rfl | rfl | rfl | rfl | ⟨sa, hm, rfl⟩
  · rw [D.hn] at h; cases h
  · rw [D.hm] at h; cases h
  · rw [D.hl] at h; cases h
  · rw [D.hv] at h; cases h
  · rw [D.hs] at h; cases h
  · rw [G.pl] at h; cases h
  · obtain ⟨ns, e, _⟩ := G.ro sa.1 sa.2 hm
    rw [e] at h; cases h
theorem GAt.ext_out {C : Addr} {H : Hp} {a : GA} {rows : List (Int × Addr)} {q : List Sq} (G : GAt C H a rows q) {b : Addr} {φ : Heap → Prop} (h : H b = some (.ext φ)) : b ∉ a.muts rows := by
  obtain ⟨tups, mk, spt, D⟩ := G.da
  intro z
  unfold GA.muts GA.m5 at z
  simp only [List.cons_append, List.nil_append, List.mem_cons, List.mem_map] at z
  rcases z with rfl | rfl | rfl | rfl | rfl | rfl | ⟨sa, hm, rfl⟩
  · rw [D.hn] at h; cases h
  · rw [D.hm] at h; cases h
  · rw [D.hl] at h; cases h
  · rw [D.hv] at h; cases h
  · rw [D.hs] at h; cases h
  · rw [G.pl] at h; cases h
  · obtain ⟨ns, e, _⟩ := G.ro sa.1 sa.2 hm
    rw [e] at h; cases h
theorem GAt.extN {C : Addr} {H H1 : Hp} {a : GA} {rows : List (Int × Addr)} {q : List Sq} (G : GAt C H a rows q) (x : ExtN H H1) : GAt C H1 a rows q :=
  G.keep fun b o e z => x b o e fun ps y => by
    subst y
    rcases z with z | z
    · exact z
    · exact G.tbl_out e z
theorem tabsL_fr {T : List (Addr × Str)} {H H' : Hp} (t : Tabs T H) (k : ∀ b o, H b = some o → ((∃ ps, o = .tbl ps) ∨ ∃ φ, o = .ext φ) → H' b = some o) : Tabs T H' := fun p hp => by
  obtain ⟨ps, h1, h2, h3⟩ := t p hp
  refine ⟨ps, k _ _ h1 (.inl ⟨_, rfl⟩), h2, fun pos cv hc => ?_⟩
  obtain ⟨c, e1, e2⟩ := h3 pos cv hc
  exact ⟨c, e1, k _ _ e2 (.inr ⟨_, rfl⟩)⟩
theorem tabsL_same {T : List (Addr × Str)} {H H1 : Hp} (t : Tabs T H) (s : Same H H1) : Tabs T H1 := tabsL_fr t fun b o e _ => s b o e
theorem tabsL_step {T : List (Addr × Str)} {C : Addr} {H H1 : Hp} {a : GA} {rows r1 : List (Int × Addr)} {q q1 : List Sq} (t : Tabs T H) (G : GAt C H a rows q) (x : GStep C H a rows q H1 r1 q1) : Tabs T H1 :=
  tabsL_fr t fun b o e h => x.fr b o e (by
    rcases h with ⟨ps, rfl⟩ | ⟨φ, rfl⟩
    · exact G.tbl_out e
    · exact G.ext_out e)
end JF

/-! ### a lambda without parameters, handed to a def with one argument more -/
namespace JF
open PySem PySem.Spec PyProof.Rows L2 LamX
/-- the context of the lambda's body; what it lets out -/
abbrev lamN (X : Cx) (A : Around) (outer : List PySem.Env) (s : Shared) (H : Hp) (E : XK) (scope : Scope) (f c' : Addr) : Cx :=
  (lamCx X A outer s H E scope f c').tr [] (fun e s' => wpAny (model X.prog X.w) (A.deeper (lamEnv X scope s.heap.objs.size f c')) (leaving (lamEnv X scope s.heap.objs.size f c') e) (fun _ s'' => L2N.CX X.prog X.w outer H s E e s'') (fun e' s'' => L2N.CX X.prog X.w outer H s E e' s'') s')
theorem lamN_takes {X : Cx} {A : Around} {outer : List PySem.Env} {s : Shared} {H : Hp} {E : XK} {scope : Scope} {f c' : Addr} : L2N.Takes (lamN X A outer s H E scope f c') (fun cls d _ H' => E cls d H') := L2N.takes_of rfl rfl rfl rfl
abbrev actCx (CXg : CXT) (X : Cx) (Ng : List Str) (qg : Str) (sg : Scope) (g : Addr) (cdg : Value) (A : Around) (outer : List PySem.Env) (s : Shared) (H : Hp) (Eg : XK) : Cx := cxOf CXg X.prog X.w X.K X.mg X.base Ng qg sg g cdg A outer s H Eg
section
variable {X : Cx} {pins : List (Addr × Obj)} {σ : L2.St} {H : Hp} {s : Shared}
/-- a(), where a is the lambda -/
theorem pe_actN {CXg : CXT} {Eg : XK} {Ng : List Str} {qg : Str} {sg : Scope} {g f c' : Addr} {cdg pm ctv : Value} {params : Arguments} {body : Expr} {scope : Scope} {k i : Nat} {a : Str} {pn : List (Addr × Obj)} {xe : Value → Shared → Prop} {W : WX} {tb : XK → TE} {p1 p2 : Pos}
    (I : Inv X pins σ H s) (L : LamS X.env.scope scope) (hf : s.heap.get? f = some (PySem.W.kla_obj "<lambda>" (X.env.qual ++ "<lambda>") params body scope (cloFrom X.env.cells scope.names []) pm c' ctv)) (hfn : H f = none) (hfr : f ∉ frs X.stack)
    (hbind : bindArgs (PySem.W.kla_fn "<lambda>" (X.env.qual ++ "<lambda>") params body scope (cloFrom X.env.cells scope.names []) pm (.ref c') ctv) ⟨[], []⟩ = pure [])
    (tk : L2N.Takes ((actCx CXg X Ng qg sg g cdg X.A X.stack s H Eg).tr pn xe) W) (hr : Room (k + 1) (X.A.deeper (envOfC qg sg s.heap.objs.size g cdg)))
    (hbody : ∀ (A : Around) (outer : List PySem.Env) (s : Shared) (H : Hp) (E : XK), Room k (A.deeper (lamEnv X scope s.heap.objs.size f c')) → PE (lamN X A outer s H E scope f c') body (tb E))
    (hN : Ng[i]? = some a) (hv : Vis sg a) (hd : (a == ("__debug__" : Str)) = false) (hcd : (a == ("__classdict__" : Str)) = false) :
    PE ((actCx CXg X Ng qg sg g cdg X.A X.stack s H Eg).tr pn xe) (.Call (.Name a p1) [] [] p2)
      (fun σZ HZ Q => σZ[i]? = some (some (.ref f)) ∧ HZ c' = some (CodeO c' (X.env.qual ++ "<lambda>")) ∧ tb (fun cls d H' => W cls d σZ H') σ HZ Q) := by
  refine ⟨fun qins t σZ HZ Q J h => ?_⟩
  obtain ⟨slot, code, run⟩ := h
  refine wpAny_Call_Name_kw (thn ((pe_var (pos := p1) (i := i) hN hv hd hcd).run qins t σZ HZ (fun v G => v = .ref f ∧ G = HZ) J ⟨.ref f, slot, rfl, rfl⟩) fun u t1 got => ?_)
  obtain ⟨v, G, J1, ru, ev, eG⟩ := got
  subst ev eG
  obtain rfl : u = Value.ref f := ru
  have there : t1.heap.get? f = some (PySem.W.kla_obj "<lambda>" (X.env.qual ++ "<lambda>") params body scope (cloFrom X.env.cells scope.names []) pm c' ctv) := J1.base.keep f _ hf hfn hfr (fun z => nomatch (show f ∈ ([] : List Addr) from z))
  refine PySem.W.callWith_F0 ⟨_, _, _, _, there⟩ ?_
  obtain ⟨⟨oc, vs, nm, o1, o2, o3⟩, _, _⟩ := J1.hok c' _ code
  have kept : Un (frs X.stack) [] H G s.heap t1.heap := J1.base
  refine wpAny_call (codeAny_mono (R := CR (L2N.CX X.prog X.w) (envOfC qg sg s.heap.objs.size g cdg :: X.stack) X.prog X.w G t1 Q (fun cls d H' => W cls d σZ H')) (PySem.W.kla_callFunE hr.depth there rfl L.co L.gen rfl ⟨c', oc, vs, nm, rfl, o1, o2, o3⟩ ?_) fun r t2 fin => ?_)
  · show wpAny _ _ (bindArgs _ ⟨[], []⟩) _ _ _
    rw [hbind]
    refine wpAny_pure (wpAny_newFunctionEnv (fun y hy => (L.own y hy).2) (fun y hy => absurd hy (by simp)) (fun h₁ ns sb => ⟨J1.nolimit.fresh _ sb, ?_⟩) L.kind)
    have more : ∀ b o, t1.heap.get? b = some o → h₁.get? b = some o := fun b o e => sb.extBut b o (Nat.ne_of_lt (Heap.lt_size e)) (Heap.get?_push_of_some _ e)
    have start : Inv (lamN X (X.A.deeper (envOfC qg sg s.heap.objs.size g cdg)) (envOfC qg sg s.heap.objs.size g cdg :: X.stack) t1 G (fun cls d H' => W cls d σZ H') scope f c') [] σ G { t1 with heap := h₁, toks := t1.toks + ([] : List (Str × Value)).length } :=
      (lam_start2 (E := fun cls d H' => W cls d σZ H') (c' := c') (f := f) I L J1.env0 hr.hd kept ns more).toTry _
    refine PySem.W.kla_codeExpr (wpAny_mono ((hbody _ _ t1 G _ (hr.deeper _)).run [] _ _ G Q start run) (fun v t3 ans => ?_) fun e t3 ans => ans)
    obtain ⟨x, H3, J3, rv, q3⟩ := ans
    exact ⟨x, H3, J3.os, J3.bare, J3.base, J3.hok, rv, q3⟩
  · cases r with
    | error e => exact L2N.passAt tk σZ qins G t1 e t2 J1 fin
    | ok fl =>
      cases fl with
      | ret u => exact J1.after fin
      | next => exact fin.elim
      | brk => exact fin.elim
      | cont => exact fin.elim
end
/-! #### the def that gets it -/
/-- an argument whose evaluation leaves all as it is -/
def Steady (X : Cx) (e : Expr) (te : L2.St → V → Prop) : Prop := ∀ (pins : List (Addr × Obj)) (s : Shared) (σ : L2.St) (H : Hp) (v : V), Inv X pins σ H s → te σ v → ∀ (Q : Value → Shared → Prop) (E : Value → Shared → Prop), (∀ u tk, RelV v u → Q u { s with toks := tk }) → wpAny (model X.prog X.w) X.A (eval e X.env) Q E s
theorem steady_int {X : Cx} {i : Int} {j : Nat} {pos : Pos} : Steady X (.Constant (.int i) j pos) (fun _ v => v = .int i) := fun pins s σ H v I h Q E k => by
  subst h
  exact wpAny_Constant_int (k _ _ ⟨_, rfl⟩)
theorem steady_var {X : Cx} {i : Nat} {x : Str} {pos : Pos} (hN : X.N[i]? = some x) (hv : Vis X.env.scope x) (hd : (x == ("__debug__" : Str)) = false := by decide) (hcd : (x == ("__classdict__" : Str)) = false := by decide) : Steady X (.Name x pos) (fun σ v => σ[i]? = some (some v)) := fun pins s σ H v I h Q E k => by
  obtain ⟨m, hn, hl⟩ := I.loc
  obtain ⟨u, r, l⟩ := hl i x v hN h hv
  have fin : Q u s := k u s.toks r
  rcases l with ⟨hk, hm⟩ | ⟨hk, c, hc, hcell⟩
  · exact wpAny_Name (wpAny_loadName_local I.ok.kind hk hn hm fin) hd
  · rcases hk with hk | hk
    · exact wpAny_Name (wpAny_loadName_cell I.ok.kind hk hc hcell fin) hd
    · exact wpAny_Name (wpAny_loadName_free I.ok.kind hk hc hcell fin hcd) hd
/-- the def's promise: TT tells what it makes of the lambda's reading -/
def GoodL (P : Program) (w : World) (K : PySem.W.Frag) (mg : Str → Option Value) (base : Heap) (k : Nat) (x : Str) (a b : Str) (TT : V → (XK → Hp → VK → Prop) → Hp → VK → Prop) : Prop :=
  ∃ (N : List Str) (qual : Str) (params : Arguments) (body : List Stmt) (scope : Scope) (dV kV doc pm cdv ct oc : Value) (an od : Option Addr) (osl : Array (Option Value)), K.lookup (He.fAd K (x, none)) = some ⟨oc, od, .func (PySem.W.fnOf x qual params body scope dV kV doc pm an cdv ct), osl⟩ ∧ PySem.W.codeIn K cdv qual = true ∧ FnScope N [a, b] scope ∧ N[0]? = some a ∧ Vis scope a ∧
    L2.Binds K (PySem.W.fnOf x qual params body scope dV kV doc pm an cdv ct) [a, b] [] ∧ PySem.W.keepIn K (.ref (He.fAd K (x, none))) = true ∧
    ∀ (A : Around) (outer : List PySem.Env) (s : Shared) (H : Hp) (Q : VK) (v2 : V) (f c' : Addr) (q : Str) (tl : XK → Hp → VK → Prop), Room k (A.deeper (envOfC qual scope s.heap.objs.size (He.fAd K (x, none)) cdv)) →
      (∀ (W : WX) (pn : List (Addr × Obj)) (xe : Value → Shared → Prop) (p1 p2 : Pos), L2N.Takes ((cxOf CX0 P w K mg base N qual scope (He.fAd K (x, none)) cdv A outer s H E0).tr pn xe) W → PE ((cxOf CX0 P w K mg base N qual scope (He.fAd K (x, none)) cdv A outer s H E0).tr pn xe) (.Call (.Name a p1) [] [] p2) (fun σZ HZ Q => σZ[0]? = some (some (.ref f)) ∧ HZ c' = some (CodeO c' q) ∧ tl (fun cls d H' => W cls d σZ H') HZ Q)) →
      H c' = some (CodeO c' q) → TT v2 tl H Q → ∃ t, PSs (cxOf CX0 P w K mg base N qual scope (He.fAd K (x, none)) cdv A outer s H E0).nox body t ∧ t { nx := fun _ H' => Q .non H', rt := Q } (L2.start N [.ref f, v2]) H
def tLam2 (T : List (Addr × Str)) (TT : V → (XK → Hp → VK → Prop) → Hp → VK → Prop) (t : XK → TE) (te : L2.St → V → Prop) : TE := fun σ H Q => Tabs T H ∧ ∃ v2, te σ v2 ∧ ∀ H1, ExtN H H1 → Tabs T H1 → TT v2 (fun E H' Q' => t E σ H' Q') H1 Q
section
variable {X : Cx}
/-- x(lambda: body, e2) -/
theorem pe_lam2 (K : PySem.W.Frag) (hK : X.K = K) {T : List (Addr × Str)} {TT : V → (XK → Hp → VK → Prop) → Hp → VK → Prop} {x a b : Str} {c P : Addr} {k : Nat} {params : Arguments} {body e2 : Expr} {scope : Scope} {t : XK → TE} {te : L2.St → V → Prop} {p lpos pos : Pos}
    (G : GoodL X.prog X.w K X.mg X.base k x a b TT) (hg : Gl X x) (hm : X.mg x = some (.ref (He.ga K x))) (h2 : Steady X e2 te) (TB : TabB X.base X.mg c P) (hcode : X.env.code = .ref c) (hmT : (P, X.env.qual ++ "<lambda>") ∈ T) (hu : ∀ p ∈ T, p.1 = P → p.2 = X.env.qual ++ "<lambda>") (hr : Room (k + 1) X.A) (hk1 : 1 ≤ k) (L : LamS X.env.scope scope) (hdef : defaultsOf params X.env = ([], []))
    (hbind : ∀ (q : Str) (cl : List (Str × Addr)) (pm cv ctv : Value), bindArgs (PySem.W.kla_fn "<lambda>" q params body scope cl pm cv ctv) ⟨[], []⟩ = pure [])
    (hbody : ∀ (A : Around) (outer : List PySem.Env) (s : Shared) (H : Hp) (E : XK) (f c' : Addr), Room (k - 1) (A.deeper (lamEnv X scope s.heap.objs.size f c')) → PE (lamN X A outer s H E scope f c') body (t E))
    (hdb : (x == ("__debug__" : Str)) = false := by decide) (hd : (a == ("__debug__" : Str)) = false := by decide) (hcd : (a == ("__classdict__" : Str)) = false := by decide)
    (hs1 : starEach [.Lambda params body scope lpos, e2] X.env = (false, eval (.Lambda params body scope lpos) X.env) :: starEach [e2] X.env := by rfl) (hs2 : starEach [e2] X.env = (false, eval e2 X.env) :: starEach [] X.env := by rfl) (hpl : (backTo pos (starEach [e2] X.env)).any (·.1) = false := by rfl) :
    PE X (.Call (.Name x p) [.Lambda params body scope lpos, e2] [] pos) (tLam2 T TT t te) := by
  subst hK
  obtain ⟨N, qual, ps, bd, sc, dV, kV, doc, pm, cdv, ct, oc, an, od, osl, lk, hcd', Sg, hN0, hva, hb, hkp, hG⟩ := G
  refine ⟨fun pins s σ H Q I h => ?_⟩
  obtain ⟨hT, v2, hv2, h⟩ := h
  refine wpAny_Call_Name_kw (ld_glob I hg hm ?_ hdb)
  refine PySem.W.callWith_K (h₀ := X.base) I.ok.mod.kin hkp ?_ hs1 hpl
  refine args_cons (lam_make2 I TB hcode hmT hu hT hdef (L.has I.ok) fun f c' pm' ctv H1 s' I1 eN T1 hf hfn hfr hco => ?_) hs1
  refine args_cons (h2 pins s' σ H1 v2 I1 hv2 _ _ fun u tk ru => args_nil ?_) hs2
  have I2 : Inv X pins σ H1 { s' with toks := tk } := I1.tok tk
  refine ⟨I2.kIn, ?_⟩
  refine wpAny_call (codeAny_mono (R := CR CX0 X.stack X.prog X.w H1 { s' with toks := tk } Q E0) (run_ofS (k := k) (N := N) (ps := [a, b]) (us := [.ref f, u]) (vs := [.ref f, v2]) lk hcd' Sg hr I2.env0 (hb _ [.ref f, u] I2.kIn rfl) (.cons rfl (.cons ru .nil)) rfl fun hr' => ?_) fun r t2 fin => ?_)
  · obtain ⟨k', rfl⟩ : ∃ k', k = k' + 1 := ⟨k - 1, by omega⟩
    obtain ⟨t', ht', hq'⟩ := hG X.A X.stack { s' with toks := tk } H1 Q v2 f c' (X.env.qual ++ "<lambda>") (fun E H' Q' => t E σ H' Q') hr' (fun W pn xe p1 p2 tk' => pe_actN (k := k') (i := 0) (CXg := CX0) (Eg := E0) I2 L hf hfn hfr (hbind _ _ _ _ _) tk' hr' (fun A outer s H E hr2 => hbody A outer s H E f c' hr2) hN0 hva hd hcd) hco (h H1 eN T1)
    exact ⟨t', ht'.nox, hq'⟩
  · cases r with
    | error e => exact (show False from fin).elim
    | ok fl =>
      cases fl with
      | ret u => exact I2.after fin
      | next => exact fin.elim
      | brk => exact fin.elim
      | cont => exact fin.elim
end
section
variable {P : Program} {w : World} {K : PySem.W.Frag} {mg : Str → Option Value} {base : Heap} {fa : List He.Fa} {fn : List He.DefD}
theorem goodL_mk (T : Env fa fn K mg) (i : Nat) {d : He.DefD} {k : Nat} {N : List Str} {a b x qual : Str} {st : Stmt} {TT : V → (XK → Hp → VK → Prop) → Hp → VK → Prop} (hi : fn[i]? = some d) (hd : d = ⟨(x, none), x, qual, defArgs st, defBody st, defScope st, [], []⟩) (S : FnScope N [a, b] (defScope st))
    (hb : ∀ (kV doc pm : Value) (an : Option Addr) (cdv ct : Value) (us : List Value), us.length = [a, b].length → bindArgs (PySem.W.fnOf x qual (defArgs st) (defBody st) (defScope st) .none kV doc pm an cdv ct) ⟨us, []⟩ = pure ([a, b].zip us))
    (hN0 : N[0]? = some a) (hva : Vis (defScope st) a)
    (hbody : ∀ (cdv : Value) (A : Around) (outer : List PySem.Env) (s : Shared) (H : Hp) (Q : VK) (v2 : V) (f c' : Addr) (q : Str) (tl : XK → Hp → VK → Prop), Room k (A.deeper (envOfC qual (defScope st) s.heap.objs.size (He.fAd K (x, none)) cdv)) →
      (∀ (W : WX) (pn : List (Addr × Obj)) (xe : Value → Shared → Prop) (p1 p2 : Pos), L2N.Takes ((cxOf CX0 P w K mg base N qual (defScope st) (He.fAd K (x, none)) cdv A outer s H E0).tr pn xe) W → PE ((cxOf CX0 P w K mg base N qual (defScope st) (He.fAd K (x, none)) cdv A outer s H E0).tr pn xe) (.Call (.Name a p1) [] [] p2) (fun σZ HZ Q => σZ[0]? = some (some (.ref f)) ∧ HZ c' = some (CodeO c' q) ∧ tl (fun cls d H' => W cls d σZ H') HZ Q)) →
      H c' = some (CodeO c' q) → TT v2 tl H Q → ∃ t, PSs (cxOf CX0 P w K mg base N qual (defScope st) (He.fAd K (x, none)) cdv A outer s H E0).nox (defBody st) t ∧ t { nx := fun _ H' => Q .non H', rt := Q } (L2.start N [.ref f, v2]) H) : GoodL P w K mg base k x a b TT := by
  subst hd
  obtain ⟨fd, F⟩ := T.c.def_ i hi
  have bn := FunD.bindsN F hb
  have kp := F.kp
  obtain ⟨oc, od, dV, kV, doc, pm, an, cdv, ct, osl, rfl, lk, hcd, _, _⟩ := F.ex
  exact ⟨N, qual, _, _, _, _, _, doc, pm, cdv, ct, oc, an, od, osl, lk, hcd, S, hN0, hva, bn, kp, fun A outer s H Q v2 f c' q tl hr act hc h => hbody cdv A outer s H Q v2 f c' q tl hr act hc h⟩
end
end JF

/-! ### a list comprehension within an except clause -/
namespace JF
open PySem PySem.Spec PyProof PyProof.Rows L2 L2H
abbrev bkC (X : Cx) (p : Addr × Obj) (s : Shared) (H : Hp) (scope : Scope) (ce : PySem.Env) (fp : List Addr) : Cx := (X.blk s H scope ce fp).tr [p] (fun _ _ => False)
section
variable {X : Cx}
theorem bk_pin {p : Addr × Obj} {s3 s : Shared} {H3 H : Hp} {scope : Scope} {ce : PySem.Env} {fp : List Addr} {σ : L2.St} (B : Inv (X.blk s3 H3 scope ce fp) [] σ H s) (e : s.heap.get? p.1 = some p.2) (n : H p.1 = none) (l : p.1 ≠ ce.locals) (f : p.1 ∉ frs X.stack) (c : ∀ v, p.2.data ≠ .cell v) : Inv (bkC X p s3 H3 scope ce fp) [] σ H s :=
  (B.pins_of (pins' := [p]) fun q hq => by obtain rfl := List.mem_singleton.mp hq; exact ⟨e, n, l, f, c⟩).toTry _
theorem bk_fp {p : Addr × Obj} {s3 s : Shared} {H3 H H' : Hp} {scope : Scope} {ce : PySem.Env} {fp : List Addr} {σ : L2.St} (B : Inv (bkC X p s3 H3 scope ce fp) [] σ H s) (np : p.1 ∉ fp) (hn : ∀ b ∈ fp, H' b = none) : ∀ b ∈ fp, FpOk (bkC X p s3 H3 scope ce fp) [] H' b := fun b hb =>
  ⟨hn b hb, (B.ok.exf b hb).1, B.ok.exfs b hb, .inl hb, (B.ok.exf b hb).2, fun r hr => by
    have e : r = p := List.mem_singleton.mp (by simpa using hr)
    exact fun z => np (by rw [← e, z]; exact hb)⟩
/-- the loop itself, the block begun -/
theorem lcH_loop {p : Addr × Obj} {σ : L2.St} {s3 s4 : Shared} {H3 : Hp} {elt tg iter : Expr} {scope : Scope} {vs : List Nat} {pos : Pos} {ce : PySem.Env} {g : TG} {te : TE} {J : It} {fp : List Addr} {ia D : Addr} {tn : Nat → Heap → Prop} {W : Nat → Nat → Hp → Prop} {m0 : Nat} {Q : VK}
    (hot : Hot1 X.A p) (np : p.1 ∉ fp) (T : TurnH X.prog X.w X.K tg J fp ia tn) (ht : PG (bkC X p s3 H3 scope ce fp) tg g) (he : PE (bkC X p s3 H3 scope ce fp) elt te)
    (I4 : Inv (bkC X p s3 H3 scope ce fp) [] (wipe σ vs) H3 s4) (st4 : tn 0 s4.heap) (fr4 : ∀ b ∈ fp, H3 b = none) (w0 : W 0 m0 H3)
    (turn : ∀ i m H, W i m H → (J.stop i H ∧ Q (.ref D) H) ∨ (J.go i H ∧ ∃ Nx : Hp → Prop, (∀ H', Nx H' → ∃ m', m' < m ∧ W (i + 1) m' H') ∧ ∀ x H', J.yld i H x H' → g x (wipe σ vs) H' fun σ2 H2 => wipe σ2 vs = wipe σ vs ∧ tYes σ2 H2 fun b H3 =>
      if b = true then te σ2 H3 fun y H4 => ∃ acc, H4 D = some (.lst acc) ∧ acc.length < sizeLine ∧ Nx (upd H4 D (.lst (acc ++ [y]))) else Nx H3))
    {R : Result → Shared → Prop} (fin : ∀ H5 s6, Inv (bkC X p s3 H3 scope ce fp) [] (wipe σ vs) H5 s6 → Q (.ref D) H5 → R (.ok .next) s6) :
    codeAny (model X.prog X.w) X.A (.compLoop (.ListComp elt [⟨tg, iter, [], 0⟩] scope pos) 0 (.ref ia) (.ref D) ce) R s4 := by
  have hotB : HotC (bkC X p s3 H3 scope ce fp) := ⟨p, hot, List.mem_singleton.mpr rfl⟩
  refine compLoop_any (fun n s' => ∃ i H', Inv (bkC X p s3 H3 scope ce fp) [] (wipe σ vs) H' s' ∧ tn i s'.heap ∧ (∀ b ∈ fp, H' b = none) ∧ W i n H') (fun n s5 hn => ?_) m0 ⟨0, H3, I4, st4, fr4, w0⟩
  obtain ⟨i, H5, I5, st5, n5, w5⟩ := hn
  rcases turn i n H5 w5 with ⟨stop, qq⟩ | ⟨go, Nx, hNx, step⟩
  · refine thnF (T.done (bkC X p s3 H3 scope ce fp) rfl rfl rfl hotB i [] s5 _ H5 (fun _ _ => False) I5 (bk_fp I5 np n5) st5 stop) fun r s6 h6 => ?_
    obtain ⟨rfl, I6⟩ := h6
    exact fin H5 s6 I6 qq
  · refine thnF (T.item (bkC X p s3 H3 scope ce fp) rfl rfl rfl hotB i [] s5 _ H5 (fun _ _ => False) I5 (bk_fp I5 np n5) st5 go) fun r s6 h6 => ?_
    obtain ⟨u, rfl, h6⟩ := h6
    refine thnF h6 fun _ s7 h7 => ?_
    obtain ⟨x, H7, I7, r7, y7, st7, n7⟩ := h7
    have P7 := I7.pinned (bk_fp I7 np n7) (T.obj _ _ st7)
    refine thnF (ht.run _ s7 _ H7 x u _ P7 r7 (step x H7 y7)) fun _ s8 h8 => ?_
    obtain ⟨σ8, H8, I8, w8, q8⟩ := h8
    refine thnF ((pts_nil (X := bkC X p s3 H3 scope ce fp)).run _ s8 σ8 H8 _ I8 q8) fun b s9 h9 => ?_
    obtain ⟨H9, I9, q9⟩ := h9
    have back : ∀ {s' : Shared} {H' : Hp}, Inv (bkC X p s3 H3 scope ce fp) ([] ++ pinsAt fp s7.heap) σ8 H' s' → Nx H' → ∃ m, m < n ∧ ∃ i H', Inv (bkC X p s3 H3 scope ce fp) [] (wipe σ vs) H' s' ∧ tn i s'.heap ∧ (∀ b ∈ fp, H' b = none) ∧ W i m H' := fun {s' H'} I' nx => by
      obtain ⟨m', lt, w'⟩ := hNx H' nx
      have still : ∀ b ∈ fp, ∀ o, s7.heap.get? b = some o → s'.heap.get? b = some o ∧ H' b = none := fun b hb o e =>
        let z := I'.pin (b, o) (List.mem_append_right _ (List.mem_append_right _ (mem_pinsAt hb e)))
        ⟨z.1, z.2.1⟩
      refine ⟨m', lt, i + 1, H', I'.unpinned.weak (by rw [← w8, wipe_length]) (fun j v e => by rw [← w8] at e; exact (wipe_some e).1), T.keep _ _ _ st7 fun b hb o e => (still b hb o e).1, fun b hb => ?_, w'⟩
      obtain ⟨o, e, _⟩ := T.obj _ _ st7 b hb
      exact (still b hb o e).2
    cases b with
    | false => exact back I9 (by simpa using q9)
    | true =>
      have q9' := by simpa only [if_true] using q9
      simp only [if_true]
      refine thnF (he.run _ s9 σ8 H9 _ I9 q9') fun z s10 h10 => ?_
      obtain ⟨yv, H10, I10, r10, acc, hD, sz, nx⟩ := h10
      exact app_ok (X := bkC X p s3 H3 scope ce fp) I10 hD sz r10 fun s11 I11 => back I11 nx
theorem pe_lcH {elt tg iter : Expr} {scope : Scope} {own : List (Str × Nat)} {pos : Pos} {wi : TI} {g : TG} {te : TE} (hot : HotC X) (nd : X.N.Nodup) (it : PIH X tg iter wi) (bo : BlkOk X.N X.env.scope scope own)
    (ht : ∀ (p : Addr × Obj) (s : Shared) (H : Hp) (C : Addr) (cl : List (Str × Addr)) (fp : List Addr), PG (bkC X p s H scope (compEnvC scope cl C X.env) fp) tg g)
    (he : ∀ (p : Addr × Obj) (s : Shared) (H : Hp) (C : Addr) (cl : List (Str × Addr)) (fp : List Addr), PE (bkC X p s H scope (compEnvC scope cl C X.env) fp) elt te)
    (fold : ∀ x, foldedSetIterable iter X.env x = pure x := by intro _; rfl) : PE X (.ListComp elt [⟨tg, iter, [], 0⟩] scope pos) (tLc wi g tYes te (own.map (·.2))) := by
  refine ⟨fun pins s σ H Q I h => ?_⟩
  obtain ⟨p, hp1, hpn⟩ := hot
  have clo := closure_ok (scope := scope) (env := X.env) fun y my fr => (bo.free y my fr).elim (fun k => I.ok.has _ (.inl k)) fun k => I.ok.has _ (.inr k)
  rw [eval_ListComp]
  refine wpAny_comprehension_free (use := none) rfl fold clo bo.kind (fun y my l => by rw [bo.uniq y my, l]) (thn (it.run pins s σ H _ I h) fun v s1 h1 => thn h1 fun itv s2 h2 => ?_)
  obtain ⟨ia, fp, tn, J, H2, rfl, I2, T, st2, f2, q⟩ := h2
  refine wpAny_newObj_type (newEnv_comp ?_) (by show 0 ≤ sizeLine; decide)
  have hn2 : H2 s2.heap.objs.size = none := I2.hok.fresh (Nat.le_refl _)
  obtain ⟨W, ⟨m0, w0⟩, turn⟩ := q _ hn2
  have I3 : Inv X pins σ (upd H2 s2.heap.objs.size (.lst [])) { s2 with heap := s2.heap.push { cls := .type "list", data := .seq ([] : List Value).toArray } } := I2.laid (t' := s2.toks) (fun b o e => Heap.get?_push_of_some _ e) (Nat.le_refl _) ⟨Nat.zero_le _, [], 0, .nil, Heap.get?_push_size _ rfl⟩
  have lt2 : ∀ b ∈ fp, b < s2.heap.objs.size := fun b hb => let ⟨o, e, _⟩ := T.obj _ _ st2 b hb; Heap.lt_size e
  have f3 : ∀ b ∈ fp, FpOk X pins (upd H2 s2.heap.objs.size (.lst [])) b ∧ b < (s2.heap.push { cls := .type "list", data := .seq ([] : List Value).toArray }).objs.size := fun b hb =>
    ⟨⟨by rw [upd_ne (Nat.ne_of_lt (lt2 b hb))]; exact (f2 b hb).1, (f2 b hb).2⟩, by rw [Heap.size_push]; exact Nat.lt_succ_of_lt (lt2 b hb)⟩
  have st3 : tn 0 (s2.heap.push { cls := .type "list", data := .seq ([] : List Value).toArray }) := T.keep _ _ _ st2 fun b _ o e => Heap.get?_push_of_some _ e
  generalize upd H2 s2.heap.objs.size (.lst []) = H3 at I3 f3 w0
  generalize s2.heap.objs.size = D at turn ⊢
  generalize hs3 : ({ s2 with heap := s2.heap.push { cls := .type "list", data := .seq ([] : List Value).toArray } } : Shared) = s3 at I3 ⊢
  have st3 : tn 0 s3.heap := by rw [← hs3]; exact st3
  have f3 : ∀ b ∈ fp, FpOk X pins H3 b ∧ b < s3.heap.objs.size := by rw [← hs3]; exact f3
  have B := block_start I3 bo nd f3
  have st4 : tn 0 (pushCells (s3.heap.push { cls := .type "dict", data := .dict #[] }) scope.names) := T.keep _ _ _ st3 fun b _ o e => pushCells_keeps _ _ _ _ (Heap.get?_push_of_some _ e)
  have pn3 := I3.pin p (List.mem_append_left _ hpn)
  have P := bk_pin (p := p) B (pushCells_keeps _ _ _ _ (Heap.get?_push_of_some _ pn3.1)) pn3.2.1 (Nat.ne_of_lt (Heap.lt_size pn3.1)) (fun m => (List.mem_cons.mp (I3.stkSub p.1 m)).elim pn3.2.2.1 pn3.2.2.2.1) pn3.2.2.2.2
  have npf : p.1 ∉ fp := fun m => (f3 p.1 m).1.2.2.2.2.2 p (List.mem_append_left _ hpn) rfl
  have loop := lcH_loop (pos := pos) (iter := iter) hp1 npf T (ht p s3 H3 s3.heap.objs.size (cellsFrom (s3.heap.objs.size + 1) scope.names (cloFrom X.env.cells scope.names [])) fp) (he p s3 H3 s3.heap.objs.size (cellsFrom (s3.heap.objs.size + 1) scope.names (cloFrom X.env.cells scope.names [])) fp) P st4 (fun b hb => (f3 b hb).1.1) w0 turn
    (R := compPost (model X.prog X.w) X.A X.xe none (EP X pins σ Q) (.ref D) s3.heap.objs.size) (fun H5 s6 I6 q5 => by
      have I7 : Inv X pins σ H5 s6 := I3.call' (ch := fp) I6.os I6.base I6.hok I6.bare fun b hb => ⟨(f3 b hb).1.2.2.2.1, (f3 b hb).1.2.1, (f3 b hb).1.2.2.2.2.1, (f3 b hb).1.2.2.2.2.2⟩
      obtain ⟨m, ns, _⟩ := I6.loc
      refine ⟨m, ns, fun h'' sb => ?_⟩
      obtain ⟨g0, g1, g2, g3, g4, g5⟩ := I3.fpOk (H' := H5) (Nat.le_refl s3.heap.objs.size) I6.free
      exact ⟨.ref D, H5, I7.turned (t' := s6.toks) (fun b o hb e => (sb.2 b hb).trans e) g0 g1 g3 g4 g5, rfl, q5⟩)
  exact codeAny_compStart_list loop (T.self X.A 0 _ _ _ st4 loop)
end
end JF

/-! ### what is no number of a square is refused -/
namespace JF
open PySem PySem.Spec PyProof.Rows L2
theorem good_orX {P : Program} {w : World} {K : PySem.W.Frag} {mg : Str → Option Value} {base : Heap} {CX : CXT} {k : Nat} {p : Str × Option Str} {ps : List Str} {sp1 sp2 : Sp} (G1 : Good P w K mg base CX k p ps sp1) (G2 : Good P w K mg base CX k p ps sp2) : Good P w K mg base CX k p ps (fun vs H Q E => sp1 vs H Q E ∨ sp2 vs H Q E) := by
  obtain ⟨fd, F1, b, kp, l1⟩ := G1
  obtain ⟨fd2, F2, _, _, l2⟩ := G2
  cases l1.eq l2
  exact ⟨fd, ⟨fun vs H Q E h => h.elim (F1.len vs H Q E) (F2.len vs H Q E), fun A outer s H args us vs Q E hr he hb hv h => h.elim (F1.run A outer s H args us vs Q E hr he hb hv) (F2.run A outer s H args us vs Q E hr he hb hv)⟩, b, kp, l1⟩
/-- what may be handed in as a number -/
def KindT (H : Hp) (x : V) : Prop := ((∃ i, x = .int i) ∨ (∃ b, x = .bl b) ∨ (∃ z, x = .str z) ∨ x = .non) ∨ ∃ a xs, x = .ref a ∧ H a = some (.tup xs)
theorem KindT.tups {H H' : Hp} {x : V} (h : KindT H x) (s : ∀ b xs, H b = some (.tup xs) → H' b = some (.tup xs)) : KindT H' x := h.imp id fun ⟨a, xs, e, h⟩ => ⟨a, xs, e, s _ _ h⟩
/-- no whole number from 0 to most -/
def BadN (most : Int) (x : V) : Prop := wholeV x = false ∨ ∃ i, x = .int i ∧ (i < 0 ∨ most < i)
section
variable {P : Program} {w : World} {K : PySem.W.Frag} {mg : Str → Option Value} {base : Heap}
def sp_wholeTup : Sp := fun vs H Q _ => ∃ a xs, vs = [V.ref a] ∧ H a = some (.tup xs) ∧ Q (.bl false) H
theorem ok_wholeTup (T : Env fa fn K mg) : Good P w K mg base CX0 1 ("is_whole", none) ["thing"] sp_wholeTup := by
  refine good_mk T 1 (d := d_is_whole) (N := ["thing"]) (ps := ["thing"]) rfl rfl sc_is_whole (fun _ _ _ _ _ _ us hl => match us, hl with | [_], _ => rfl) (fun vs H Q E h => ?_) (fun f cdv A outer s H vs Q E hr h => ?_)
  · obtain ⟨a, xs, rfl, _⟩ := h; rfl
  · obtain ⟨a, xs, rfl, ha, k⟩ := h
    refine ⟨_, (pss_one (ps_ret (pe_and (pe_callB (call_isiK K rfl) (by rfl) (T.free 1) (by decide +kernel) (pa_cons (pv 0) (pa_cons (pe_bltn (v := V.ty "int") rfl (T.free 2) (by decide +kernel) rfl) pa_nil))) (pe_one (pe_not (pe_callB (call_isiK K rfl) (by rfl) (T.free 1) (by decide +kernel) (pa_cons (pv 0) (pa_cons (pe_bltn (v := V.ty "bool") rfl (T.free 0) (by decide +kernel) rfl) pa_nil)))))))), ?_⟩
    walk_at "rd"
    refine isi_ty (.base (.tup ha)) (by decide +kernel : kitB "tuple" "int" = some false) ?_
    walk_at "rd"
    exact k
def sp_wholeT : Sp := fun vs H Q _ => ∃ x, vs = [x] ∧ KindT H x ∧ Q (.bl (wholeV x)) H
theorem ok_wholeT (T : Env fa fn K mg) : Good P w K mg base CX0 1 ("is_whole", none) ["thing"] sp_wholeT := by
  obtain ⟨fd, F, b, kp, l1⟩ := good_orX (ok_is_whole (P := P) (w := w) (base := base) T) (ok_wholeTup (P := P) (w := w) (base := base) T)
  have key : ∀ vs H Q E, sp_wholeT vs H Q E → (sp_is_whole vs H Q E ∨ sp_wholeTup vs H Q E) := fun vs H Q E ⟨x, e, hk, q⟩ => by
    rcases hk with hk | ⟨a, xs, rfl, ha⟩
    · exact .inl ⟨x, e, hk, q⟩
    · exact .inr ⟨a, xs, e, ha, q⟩
  exact ⟨fd, ⟨fun vs H Q E h => F.len vs H Q E (key vs H Q E h), fun A outer s H args us vs Q E hr he hb hv h => F.run A outer s H args us vs Q E hr he hb hv (key vs H Q E h)⟩, b, kp, l1⟩
def sp_askedX (K : PySem.W.Frag) : Sp := fun vs H _ E => ∃ (a : GA) (rows : List (Int × Addr)) (q : List Sq) (x : V), vs = [.ref a.g, x] ∧ GAt (CG K) H a rows q ∧ KindT H x ∧ BadN 999999999 x ∧ E (.ref (He.ga K "NoSquare")) none H
theorem okX_asked (T : Env fa fn K mg) : Good P w K mg base (L2N.CX P w) 2 ("Grove", some "asked") ["self", "square"] (sp_askedX K) := by
  have G_is_whole := ok_wholeT (P := P) (w := w) (base := base) T
  refine good_mkX T 10 (d := d_Grove_asked) (N := ["self", "square"]) (ps := ["self", "square"]) rfl rfl sc_Grove_asked (fun _ _ _ _ _ _ us hl => match us, hl with | [_, _], _ => rfl) (fun vs H Q E h => ?_) (fun f cdv A outer s H vs Q E hr h => ?_)
  · obtain ⟨a, rows, q, x, rfl, _⟩ := h; rfl
  · obtain ⟨a, rows, q, x, rfl, G, hk, hb, k⟩ := h
    refine ⟨_, (pss_cons (ps_if (PW.pt (pw_or (pt_not (pt_val (pe_cgK K rfl G_is_whole (hr.mono (by decide)) (T.glo 7) (pa_cons (pv 1) pa_nil)))) (pw_or1 (pt_not (pt_chain op_le op_lt pe_int (pv 1) (pe_gint (T.int 14) rfl)))))) (pss_one (ps_raiseT K rfl (T.exf (List.mem_of_getElem? (i := 0) rfl)) (T.glo 15) rfl (L2N.takes_of rfl rfl rfl rfl) rfl)) pss_nil)
      (pss_one (ps_ret (pe_ix (ix_listK K rfl) (pe_fldK K rfl (pv 0) rfl) (pv 1) (fun _ _ => rfl))))), ?_⟩
    walk_at "rd"
    refine ⟨x, rfl, hk, ?_⟩
    walk_at "rd"
    rcases hb with hb | ⟨i, rfl, hi⟩
    · rw [hb]
      walk_at "rd"
      exact rd_raise k
    · refine iteF ?_
      walk_at "rd"
      by_cases h0 : 0 ≤ i
      · rw [decide_eq_true h0]
        walk_at "rd"
        rw [decide_eq_false (show ¬ i < 1000000000 by omega)]
        walk_at "rd"
        exact rd_raise k
      · rw [decide_eq_false h0]
        walk_at "rd"
        exact rd_raise k
theorem okX_level_of (T : Env fa fn K mg) : Good P w K mg base (L2N.CX P w) 3 ("Grove", some "level_of") ["self", "square"] (sp_askedX K) := by
  have GX_Grove_asked := okX_asked (P := P) (w := w) (base := base) T
  refine good_mkX T 14 (d := d_Grove_level_of) (N := ["self", "square"]) (ps := ["self", "square"]) rfl rfl sc_Grove_level_of (fun _ _ _ _ _ _ us hl => match us, hl with | [_, _], _ => rfl) (fun vs H Q E h => ?_) (fun f cdv A outer s H vs Q E hr h => ?_)
  · obtain ⟨a, rows, q, x, rfl, _⟩ := h; rfl
  · have h0 := h
    obtain ⟨a, rows, q, x, rfl, G, _⟩ := h
    refine ⟨_, (pss_one (ps_ret (pe_mgX K rfl (L2N.takes_of rfl rfl rfl rfl) (pv 0) (T.cls 9) (T.meth 20) GX_Grove_asked (hr.mono (by decide)) (pa_cons (pv 1) pa_nil)))), ?_⟩
    walk_at "rd"
    refine rd_methX ?_
    walk_at "rd"
    refine rd_methR G.ob (by rfl) ?_
    walk_at "rd"
    exact h0
end
end JF

/-! ### helpers of the laws: _law_same -/
namespace JF
open PySem PySem.Spec PyProof.Rows L2
section
variable {P : Program} {w : World} {K : PySem.W.Frag} {mg : Str → Option Value} {base : Heap}
theorem ok_same (T : Env fa fn K mg) : Good P w K mg base CX0 1 ("_law_same", none) ["_law_found", "_law_due"] sp_same := by
  refine good_mk T 57 (d := d_w_same) (N := ["_law_found", "_law_due"]) (ps := ["_law_found", "_law_due"]) rfl rfl sc_w_same (fun _ _ _ _ _ _ us hl => match us, hl with | [_, _], _ => rfl) (fun vs H Q E h => ?_) (fun f cdv A outer s H vs Q E hr h => ?_)
  · obtain ⟨i, d, rfl, _⟩ := h; rfl
  · obtain ⟨i, d, rfl, q⟩ := h
    refine ⟨_, (pss_one (ps_ret (pe_and (pe_callB (call_isiK K rfl) (by rfl) (T.free 1) (by decide +kernel) (pa_cons (pv 0) (pa_cons (pe_bltn (v := V.ty "int") rfl (T.free 2) (by decide +kernel) rfl) pa_nil))) (pe_and (pe_not (pe_callB (call_isiK K rfl) (by rfl) (T.free 1) (by decide +kernel) (pa_cons (pv 0) (pa_cons (pe_bltn (v := V.ty "bool") rfl (T.free 0) (by decide +kernel) rfl) pa_nil)))) (pe_one (pe_cmpR op_eq (pv 0) (pv 1) (nomark _))))))), ?_⟩
    walk_at "rd"
    refine rd_isiI ?_
    walk_at "rd"
    refine rd_isiB ?_
    walk_at "rd"
    exact q
end
end JF

/-! ### jumps refused -/
namespace JF
open PySem PySem.Spec PyProof.Rows L2
theorem RuleAtN.extN {K : PySem.W.Frag} {N : Addr → Prop} {H H' : Hp} {v : V} {cs : List Cla} (h : RuleAtN N K H v cs) (s : LamX.ExtN H H') : RuleAtN N K H' v cs := by
  have e : ∀ {b o}, H b = some o → (∀ ps, o ≠ .tbl ps) → H' b = some o := fun {b o} => s b o
  obtain ⟨p, dx, l, ps, e0, h1, h2, h3, h4, h5⟩ := h
  refine ⟨p, dx, l, ps, e0, e h1 (fun _ z => by cases z), e h2 (fun _ z => by cases z), h3, h4, h5.imp fun v c hc => ?_⟩
  obtain ⟨p, dx, l, ps, e0, h1, h2, h3, h4, h5⟩ := hc
  refine ⟨p, dx, l, ps, e0, e h1 (fun _ z => by cases z), e h2 (fun _ z => by cases z), h3, h4, h5.imp fun u k hk => ?_⟩
  cases k with
  | amt st ns => obtain ⟨p, dx, l, e0, h1, h2, h3, h4⟩ := hk; exact ⟨p, dx, l, e0, e h1 (fun _ z => by cases z), e h2 (fun _ z => by cases z), h3, h4⟩
  | plc ws => obtain ⟨p, dx, l, e0, h1, h2, h3, h4⟩ := hk; exact ⟨p, dx, l, e0, e h1 (fun _ z => by cases z), e h2 (fun _ z => by cases z), h3, h4⟩
theorem JW.extN {K : PySem.W.Frag} {Pj : List (Sq × Nat)} {a : GA} {rows : List (Int × Addr)} {p dx dk : Addr} {vr : V} {cs : List Cla} {H H1 : Hp} {q : List Sq} {kvs : List (List Key × V)} (h : JW K a rows p dx dk vr cs Pj H q kvs) (s : LamX.ExtN H H1) : JW K a rows p dx dk vr cs Pj H1 q kvs :=
  ⟨h.G.extN s, s _ _ h.J' (fun _ z => by cases z), h.R.extN s, h.W, s _ _ h.D (fun _ z => by cases z), h.dm, h.kn⟩
theorem JW.tabs {K : PySem.W.Frag} {Pj : List (Sq × Nat)} {a : GA} {rows r1 : List (Int × Addr)} {p dx dk : Addr} {vr : V} {cs : List Cla} {H H1 : Hp} {q q1 : List Sq} {kvs : List (List Key × V)} {T : List (Addr × Str)} (h : JW K a rows p dx dk vr cs Pj H q kvs) (s : JS a dk rows q H r1 q1 H1) (t : LamX.Tabs T H) : LamX.Tabs T H1 :=
  tabsL_fr t fun b o e x => (s.kp b o e fun z => by
    rcases List.mem_cons.mp z with z | z
    · rw [z, h.D] at e
      cases e
      rcases x with ⟨ps, x⟩ | ⟨φ, x⟩ <;> cases x
    · rcases x with ⟨ps, rfl⟩ | ⟨φ, rfl⟩
      · exact h.G.tbl_out e z
      · exact h.G.ext_out e z).1
/-- the refusal that is due -/
inductive DueC (K : PySem.W.Frag) (H : Hp) (q : List Sq) : V → V → Str → Prop where
  | sq {x e : V} : KindT H x → BadN 999999999 x → DueC K H q x e "NoSquare"
  | lv {n : Nat} {S : Sq} {e : V} : q[n]? = some S → S.level < 2 → DueC K H q (.int (n : Int)) e "NoLevel"
  | st {n : Nat} {S : Sq} {e : V} : q[n]? = some S → 2 ≤ S.level → KindT H e → BadN ((S.level : Int) - 2) e → DueC K H q (.int (n : Int)) e "NoSteps"
section
variable {P : Program} {w : World} {K : PySem.W.Frag} {mg : Str → Option Value} {base : Heap}
def sp_checkX (K : PySem.W.Frag) : Sp := fun vs H _ E => ∃ (p dx dk : Addr) (vr : V) (a : GA) (rows : List (Int × Addr)) (q : List Sq) (x e : V) (cls : Str), vs = [.ref p, x, e] ∧ HJ K H p dx a.g vr dk ∧ GAt (CG K) H a rows q ∧ q.length ≤ 16000000 ∧ DueC K H q x e cls ∧ E (.ref (He.ga K cls)) none H
theorem okX_check (T : Env fa fn K mg) : Good P w K mg base (L2N.CX P w) 4 ("Jumps", some "check") ["self", "square", "e"] (sp_checkX K) := by
  have G_Grove_level_of := ok_level_of (P := P) (w := w) (base := base) T
  have GX_Grove_level_of := okX_level_of (P := P) (w := w) (base := base) T
  have G_is_whole := ok_wholeT (P := P) (w := w) (base := base) T
  refine good_mkX T 53 (d := d_Jumps_check) (N := ["self", "square", "e", "level"]) (ps := ["self", "square", "e"]) rfl rfl sc_Jumps_check (fun _ _ _ _ _ _ us hl => match us, hl with | [_, _, _], _ => rfl) (fun vs H Q E h => ?_) (fun f cdv A outer s H vs Q E hr h => ?_)
  · obtain ⟨p, dx, dk, vr, a, rows, q, x, e, cls, rfl, _⟩ := h; rfl
  · obtain ⟨p, dx, dk, vr, a, rows, q, x, e, cls, rfl, hJ, G, hq, hd, k⟩ := h
    have hJ' : H p = some (.ins (He.ga K "Jumps") dx [("grove", .ref a.g), ("rule", vr), ("known", .ref dk)]) := hJ
    have clJ := T.cls 53
    have na1 := T.noat 92
    refine ⟨_, (pss_cons (ps_set (i := 3) sc_Jumps_check.nd rfl (Or.inl rfl) (pe_or (pe_mgX K rfl (L2N.takes_of rfl rfl rfl rfl) (pe_fldK K rfl (pv 0) rfl) (T.cls 9) (T.meth 52) GX_Grove_level_of (hr.mono (by decide)) (pa_cons (pv 1) pa_nil)) (pe_mgK K rfl (pe_fldK K rfl (pv 0) rfl) (T.cls 9) (T.meth 52) G_Grove_level_of (hr.mono (by decide)) (pa_cons (pv 1) pa_nil))))
      (pss_cons (ps_if (pt_cmpR op_lt (pv 3) pe_int (nomark _)) (pss_one (ps_raiseT K rfl (T.exf (List.mem_of_getElem? (i := 1) rfl)) (T.glo 61) rfl (L2N.takes_of rfl rfl rfl rfl) rfl)) pss_nil)
      (pss_one (ps_if (PW.pt (pw_or (pt_not (pt_val (pe_cgK K rfl G_is_whole (hr.mono (by decide)) (T.glo 7) (pa_cons (pv 2) pa_nil)))) (pw_or1 (pt_not (pt_chain op_le op_le pe_int (pv 2) (pe_op op_sub (pv 3) pe_int)))))) (pss_one (ps_raiseT K rfl (T.exf (List.mem_of_getElem? (i := 2) rfl)) (T.glo 62) rfl (L2N.takes_of rfl rfl rfl rfl) rfl)) pss_nil)))), ?_⟩
    cases hd with
    | sq hk hb =>
      walk_at "rd"
      refine .inl ?_
      refine rd_methX ?_
      walk_at "rd"
      refine rd_methR G.ob (by rfl) ?_
      walk_at "rd"
      exact ⟨a, rows, q, x, rfl, G, hk, hb, k⟩
    | @lv n S e hn hl =>
      walk_at "rd"
      refine .inr ?_
      walk_at "rd"
      refine rd_methR G.ob (by rfl) ?_
      walk_at "rd"
      refine ⟨a, rows, q, n, S, rfl, G, hn, hq, ?_⟩
      walk_at "rd"
      rw [decide_eq_true (show ((S.level : Nat) : Int) < 2 by omega)]
      walk_at "rd"
      exact rd_raise k
    | @st n S e hn hl hk hb =>
      walk_at "rd"
      refine .inr ?_
      walk_at "rd"
      refine rd_methR G.ob (by rfl) ?_
      walk_at "rd"
      refine ⟨a, rows, q, n, S, rfl, G, hn, hq, ?_⟩
      walk_at "rd"
      rw [decide_eq_false (show ¬ ((S.level : Nat) : Int) < 2 by omega)]
      walk_at "rd"
      refine ⟨e, rfl, hk, ?_⟩
      walk_at "rd"
      rcases hb with hb | ⟨i, rfl, hi⟩
      · rw [hb]
        walk_at "rd"
        exact rd_raise k
      · refine iteF ?_
        walk_at "rd"
        by_cases h0 : 0 ≤ i
        · rw [decide_eq_true h0]
          walk_at "rd"
          rw [decide_eq_false (show ¬ i ≤ (S.level : Int) - 2 by omega)]
          walk_at "rd"
          exact rd_raise k
        · rw [decide_eq_false h0]
          walk_at "rd"
          exact rd_raise k
theorem okX_after (T : Env fa fn K mg) : Good P w K mg base (L2N.CX P w) 5 ("Jumps", some "after") ["self", "square", "e"] (sp_checkX K) := by
  have GX_Jumps_check := okX_check (P := P) (w := w) (base := base) T
  refine good_mkX T 54 (d := d_Jumps_after) (N := ["self", "square", "e"]) (ps := ["self", "square", "e"]) rfl rfl sc_Jumps_after (fun _ _ _ _ _ _ us hl => match us, hl with | [_, _, _], _ => rfl) (fun vs H Q E h => ?_) (fun f cdv A outer s H vs Q E hr h => ?_)
  · obtain ⟨p, dx, dk, vr, a, rows, q, x, e, cls, rfl, _⟩ := h; rfl
  · have h0 := h
    obtain ⟨p, dx, dk, vr, a, rows, q, x, e, cls, rfl, hJ, _⟩ := h
    have hJ' : H p = some (.ins (He.ga K "Jumps") dx [("grove", .ref a.g), ("rule", vr), ("known", .ref dk)]) := hJ
    refine ⟨_, (pss_cons (ps_expr (pe_mgX K rfl (L2N.takes_of rfl rfl rfl rfl) (pv 0) (T.cls 53) (T.meth 63) GX_Jumps_check (hr.mono (by decide)) (pa_cons (pv 1) (pa_cons (pv 2) pa_nil))))
      pss_never), ?_⟩
    walk_at "rd"
    refine rd_methX ?_
    walk_at "rd"
    refine rd_methR hJ' (by rfl) ?_
    walk_at "rd"
    exact h0
theorem okX_reasons (T : Env fa fn K mg) : Good P w K mg base (L2N.CX P w) 5 ("Jumps", some "reasons") ["self", "square", "e"] (sp_checkX K) := by
  have GX_Jumps_check := okX_check (P := P) (w := w) (base := base) T
  refine good_mkX T 55 (d := d_Jumps_reasons) (N := ["self", "square", "e", "told", "one", "low"]) (ps := ["self", "square", "e"]) rfl rfl sc_Jumps_reasons (fun _ _ _ _ _ _ us hl => match us, hl with | [_, _, _], _ => rfl) (fun vs H Q E h => ?_) (fun f cdv A outer s H vs Q E hr h => ?_)
  · obtain ⟨p, dx, dk, vr, a, rows, q, x, e, cls, rfl, _⟩ := h; rfl
  · have h0 := h
    obtain ⟨p, dx, dk, vr, a, rows, q, x, e, cls, rfl, hJ, _⟩ := h
    have hJ' : H p = some (.ins (He.ga K "Jumps") dx [("grove", .ref a.g), ("rule", vr), ("known", .ref dk)]) := hJ
    refine ⟨_, (pss_cons (ps_expr (pe_mgX K rfl (L2N.takes_of rfl rfl rfl rfl) (pv 0) (T.cls 53) (T.meth 63) GX_Jumps_check (hr.mono (by decide)) (pa_cons (pv 1) (pa_cons (pv 2) pa_nil))))
      pss_never), ?_⟩
    walk_at "rd"
    refine rd_methX ?_
    walk_at "rd"
    refine rd_methR hJ' (by rfl) ?_
    walk_at "rd"
    exact h0
end
end JF

/-! ### law k50: jumps refused -/
namespace JF
open PySem PySem.Spec PyProof.Rows L2 LamX
section
variable {P : Program} {w : World} {K : PySem.W.Frag} {mg : Str → Option Value} {base : Heap}
theorem Same.putE {H H' : Hp} {D : Addr} {o : HO} (s : Same H H') (h : H D = none) : Same H (upd H' D o) := fun b u e => by rw [upd_ne (ne_of_none e h)]; exact s b u e
def bsN (n : Int) (i : Nat) : List Bool := (List.range i).map fun k : Nat => decide (n = (k : Int))
theorem bsN_len (n : Int) (i : Nat) : (bsN n i).length = i := by unfold bsN; rw [List.length_map, List.length_range]
theorem bsN_succ (n : Int) (i : Nat) : bsN n (i + 1) = bsN n i ++ [decide (n = (i : Int))] := by unfold bsN; rw [List.range_succ, List.map_append]; rfl
theorem dp_bools {H : Hp} {bs : List Bool} : DpAll K H (bs.map V.bl) (bs.map PyData.bool) := by
  induction bs with
  | nil => exact .nil
  | cons n r ih => exact .cons (.bl n) ih
theorem rd_eqDB {H : Hp} {Q : VK} {p p' : Addr} {bs cs : List Bool} (h1 : SqL K H p (bs.map V.bl)) (h2 : SqL K H p' (cs.map V.bl)) (e : (SeqAt.shaped (.list (bs.map PyData.bool)) && SeqAt.shaped (.list (cs.map PyData.bool)) && PyData.eqv (.list (bs.map PyData.bool)) (.list (cs.map PyData.bool))) = true) (q : Q (.bl true) H) : rEqD K (.ref p) (.ref p') H Q := by
  simp only [Bool.and_eq_true] at e
  refine ⟨_, _, .lst h1 dp_bools, .lst h2 dp_bools, e.1.1, e.1.2, ?_⟩
  rw [e.2]
  exact q
/-- the classes, by their numbers -/
def refC : List (Str × Int) := [("NoSquare", 0), ("NoLevel", 1), ("NoSteps", 2)]
def TTref (K : PySem.W.Frag) : V → (XK → Hp → VK → Prop) → Hp → VK → Prop := fun v2 tl H Q => ∃ x n, (x, n) ∈ refC ∧ v2 = .int n ∧ ∃ R : Hp → Prop, (∀ (E' : XK) (Q' : VK), (∀ H', R H' → E' (.ref (He.ga K x)) none H') → tl E' H Q') ∧ ∀ H' H'', R H' → Same H' H'' → Q (.bl true) H''
set_option maxHeartbeats 8000000 in
theorem okL_refused (T : Env fa fn K mg) (kk : Nat) : GoodL P w K mg base kk "_law_refused" "_law_deed" "_law_due" (TTref K) := by
  refine goodL_mk T 58 (d := d_w_refused) (N := ["_law_deed", "_law_due", "_law_e", "_law_kinds", "_law_k"]) rfl rfl sc_w_refused (fun _ _ _ _ _ _ us hl => match us, hl with | [_, _], _ => rfl) rfl (Or.inl rfl) (fun cdv A outer s H Q v2 f c' q tl hr act hc h => ?_)
  obtain ⟨x, n, hx, rfl, R, ht, k⟩ := h
  have hu := Nat.lt_of_le_of_lt (Nat.add_le_add_left (by decide : 1 ≤ 200) _) hr.un
  refine ⟨_, (pss_cons (ps_tryA K rfl (i := 2) rfl rfl sc_w_refused.nd rfl rfl ⟨rfl, by decide, .inl (T.glo 66)⟩ takes0N (fun W pn xe tk pw => (pss_one (ps_expr (act W pn xe _ _ tk))))
      (fun a oe cls d pn hz hf => (pss_cons (ps_set (i := 3) sc_w_refused.nd rfl (Or.inl rfl) (pe_lst (pa_cons (pe_callB (call_isP K rfl List.mem_cons_self (L2N.Zn.zc hz) hf) (by rfl) (T.free 1) (by decide +kernel) (pa_cons (pv 2) (pa_cons (pe_grefK K rfl (T.glo 15) rfl) pa_nil))) (pa_cons (pe_callB (call_isP K rfl List.mem_cons_self (L2N.Zn.zc hz) hf) (by rfl) (T.free 1) (by decide +kernel) (pa_cons (pv 2) (pa_cons (pe_grefK K rfl (T.glo 61) rfl) pa_nil))) (pa_cons (pe_callB (call_isP K rfl List.mem_cons_self (L2N.Zn.zc hz) hf) (by rfl) (T.free 1) (by decide +kernel) (pa_cons (pv 2) (pa_cons (pe_grefK K rfl (T.glo 62) rfl) pa_nil))) (pa_cons (pe_callB (call_isP K rfl List.mem_cons_self (L2N.Zn.zc hz) hf) (by rfl) (T.free 1) (by decide +kernel) (pa_cons (pv 2) (pa_cons (pe_grefK K rfl (T.glo 64) rfl) pa_nil))) pa_nil))))))
      (pss_one (ps_ret (pe_and (pe_callB (call_isP K rfl List.mem_cons_self (L2N.Zn.zc hz) hf) (by rfl) (T.free 1) (by decide +kernel) (pa_cons (pv 2) (pa_cons (pe_bltn (v := V.ty "ValueError") rfl (T.free 65) (by decide +kernel) rfl) pa_nil))) (pe_one (pe_cmpR (op_eqDK K rfl hr.units) (pv 3) (pe_lcH (own := [("_law_k", 4)]) ⟨_, hot_of rfl hz hf, List.mem_cons_self⟩ sc_w_refused.nd (L2H.pi_range1H (by rfl) (T.free 47) (pa_cons pe_int pa_nil)) (blkOk_by (own := [("_law_k", 4)]) (N := ["_law_deed", "_law_due", "_law_e", "_law_kinds", "_law_k"]) (sc := defScope st_w_refused) (by decide +kernel)) (fun _ _ _ _ _ _ => by exact (pg_name (i := 4) sc_w_refused.nd rfl (Or.inl rfl))) (fun _ _ _ _ _ _ => by exact (pe_cmpR op_eq (pv 1) (pv 4) (nomark _)))) (nomark _)))))))))
      (pss_one (ps_ret pe_bl))), ?_⟩
  walk_at "rd"
  refine rd_tryA ?_
  walk_at "rd"
  refine ⟨rfl, hc, ht _ _ (fun H1 hR => ?_)⟩
  have k1 : ∀ H'', Same H1 H'' → Q (.bl true) H'' := fun H'' s => k H1 H'' hR s
  simp only [refC, List.mem_cons, Prod.mk.injEq, List.not_mem_nil, or_false] at hx
  rcases hx with ⟨rfl, rfl⟩ | ⟨rfl, rfl⟩ | ⟨rfl, rfl⟩
  · have ec := (T.exf (List.mem_of_getElem? (i := 0) rfl)).ec
    refine wAs_yes (T.exm (List.mem_of_getElem? (i := 0) rfl)) fun b hb => ?_
    walk_at "rd"
    refine rd_isX ec (T.exk (List.mem_of_getElem? (i := 1) rfl)) ?_
    walk_at "rd"
    refine rd_isX ec (T.exk (List.mem_of_getElem? (i := 2) rfl)) ?_
    walk_at "rd"
    refine rd_isX ec (T.exk (List.mem_of_getElem? (i := 3) rfl)) ?_
    walk_at "rd"
    refine rd_isX ec (T.exk (List.mem_of_getElem? (i := 4) rfl)) ?_
    walk_at "rd"
    refine rd_new (hn := by show 4 ≤ sizeLine; decide) fun p1 hp1 => ?_
    have s1 := same_upd (o := HO.lst [V.bl true, .bl false, .bl false, .bl false]) hp1
    have L1 : (upd H1 p1 (HO.lst [V.bl true, .bl false, .bl false, .bl false])) p1 = some (.lst ([true, false, false, false].map V.bl)) := upd_same
    generalize upd H1 p1 (HO.lst [V.bl true, .bl false, .bl false, .bl false]) = H2 at s1 L1 ⊢
    walk_at "rd"
    refine rd_isXT ec (T.exk (List.mem_of_getElem? (i := 5) rfl)) ?_
    walk_at "rd"
    refine ⟨4, rfl, by decide, by decide, fun D hD => ?_⟩
    refine lc_it (walk_r0 (n := 4)) (fun i H' => Same H2 H' ∧ H' D = some (.lst ((bsN 0 i).map V.bl))) ⟨same_upd hD, upd_same⟩ (fun _ _ _ _ => trivial) ?_ ?_
    · rintro i v Ha Hb hi ⟨s2, LD⟩ ⟨rfl, rfl⟩
      walk_at "rd"
      refine ⟨rfl, ?_⟩
      walk_at "rd"
      refine ⟨_, LD, by rw [List.length_map, bsN_len]; exact small1000 (by omega), Same.putE s2 hD, ?_⟩
      rw [upd_same, bsN_succ, List.map_append]
      rfl
    · rintro H3 ⟨s3, LD⟩
      refine rd_eqDB (SqL.of (s3 _ _ L1)) (SqL.of LD) (by decide +kernel) ?_
      exact k1 _ (s1.trans s3)
  · have ec := (T.exf (List.mem_of_getElem? (i := 1) rfl)).ec
    refine wAs_yes (T.exm (List.mem_of_getElem? (i := 6) rfl)) fun b hb => ?_
    walk_at "rd"
    refine rd_isX ec (T.exk (List.mem_of_getElem? (i := 7) rfl)) ?_
    walk_at "rd"
    refine rd_isX ec (T.exk (List.mem_of_getElem? (i := 8) rfl)) ?_
    walk_at "rd"
    refine rd_isX ec (T.exk (List.mem_of_getElem? (i := 9) rfl)) ?_
    walk_at "rd"
    refine rd_isX ec (T.exk (List.mem_of_getElem? (i := 10) rfl)) ?_
    walk_at "rd"
    refine rd_new (hn := by show 4 ≤ sizeLine; decide) fun p1 hp1 => ?_
    have s1 := same_upd (o := HO.lst [V.bl false, .bl true, .bl false, .bl false]) hp1
    have L1 : (upd H1 p1 (HO.lst [V.bl false, .bl true, .bl false, .bl false])) p1 = some (.lst ([false, true, false, false].map V.bl)) := upd_same
    generalize upd H1 p1 (HO.lst [V.bl false, .bl true, .bl false, .bl false]) = H2 at s1 L1 ⊢
    walk_at "rd"
    refine rd_isXT ec (T.exk (List.mem_of_getElem? (i := 11) rfl)) ?_
    walk_at "rd"
    refine ⟨4, rfl, by decide, by decide, fun D hD => ?_⟩
    refine lc_it (walk_r0 (n := 4)) (fun i H' => Same H2 H' ∧ H' D = some (.lst ((bsN 1 i).map V.bl))) ⟨same_upd hD, upd_same⟩ (fun _ _ _ _ => trivial) ?_ ?_
    · rintro i v Ha Hb hi ⟨s2, LD⟩ ⟨rfl, rfl⟩
      walk_at "rd"
      refine ⟨rfl, ?_⟩
      walk_at "rd"
      refine ⟨_, LD, by rw [List.length_map, bsN_len]; exact small1000 (by omega), Same.putE s2 hD, ?_⟩
      rw [upd_same, bsN_succ, List.map_append]
      rfl
    · rintro H3 ⟨s3, LD⟩
      refine rd_eqDB (SqL.of (s3 _ _ L1)) (SqL.of LD) (by decide +kernel) ?_
      exact k1 _ (s1.trans s3)
  · have ec := (T.exf (List.mem_of_getElem? (i := 2) rfl)).ec
    refine wAs_yes (T.exm (List.mem_of_getElem? (i := 12) rfl)) fun b hb => ?_
    walk_at "rd"
    refine rd_isX ec (T.exk (List.mem_of_getElem? (i := 13) rfl)) ?_
    walk_at "rd"
    refine rd_isX ec (T.exk (List.mem_of_getElem? (i := 14) rfl)) ?_
    walk_at "rd"
    refine rd_isX ec (T.exk (List.mem_of_getElem? (i := 15) rfl)) ?_
    walk_at "rd"
    refine rd_isX ec (T.exk (List.mem_of_getElem? (i := 16) rfl)) ?_
    walk_at "rd"
    refine rd_new (hn := by show 4 ≤ sizeLine; decide) fun p1 hp1 => ?_
    have s1 := same_upd (o := HO.lst [V.bl false, .bl false, .bl true, .bl false]) hp1
    have L1 : (upd H1 p1 (HO.lst [V.bl false, .bl false, .bl true, .bl false])) p1 = some (.lst ([false, false, true, false].map V.bl)) := upd_same
    generalize upd H1 p1 (HO.lst [V.bl false, .bl false, .bl true, .bl false]) = H2 at s1 L1 ⊢
    walk_at "rd"
    refine rd_isXT ec (T.exk (List.mem_of_getElem? (i := 17) rfl)) ?_
    walk_at "rd"
    refine ⟨4, rfl, by decide, by decide, fun D hD => ?_⟩
    refine lc_it (walk_r0 (n := 4)) (fun i H' => Same H2 H' ∧ H' D = some (.lst ((bsN 2 i).map V.bl))) ⟨same_upd hD, upd_same⟩ (fun _ _ _ _ => trivial) ?_ ?_
    · rintro i v Ha Hb hi ⟨s2, LD⟩ ⟨rfl, rfl⟩
      walk_at "rd"
      refine ⟨rfl, ?_⟩
      walk_at "rd"
      refine ⟨_, LD, by rw [List.length_map, bsN_len]; exact small1000 (by omega), Same.putE s2 hD, ?_⟩
      rw [upd_same, bsN_succ, List.map_append]
      rfl
    · rintro H3 ⟨s3, LD⟩
      refine rd_eqDB (SqL.of (s3 _ _ L1)) (SqL.of LD) (by decide +kernel) ?_
      exact k1 _ (s1.trans s3)
end
end JF

/-! ### law k50: what is drawn, both questions -/
namespace JF
open PySem PySem.Spec PyProof.Rows L2 LamX
/-- .. no object -/
def KindP (x : V) : Prop := (∃ i, x = .int i) ∨ (∃ b, x = .bl b) ∨ (∃ z, x = .str z) ∨ x = .non
theorem KindT.extN {H H' : Hp} {x : V} (h : KindT H x) (s : ExtN H H') : KindT H' x := h.tups fun b xs e => s _ _ e fun _ z => by cases z
theorem DueC.extN {K : PySem.W.Frag} {H H' : Hp} {q : List Sq} {x e : V} {c : Str} (h : DueC K H q x e c) (s : ExtN H H') : DueC K H' q x e c := by
  cases h with
  | sq h1 h2 => exact .sq (h1.extN s) h2
  | lv h1 h2 => exact .lv h1 h2
  | st h1 h2 h3 h4 => exact .st h1 h2 (h3.extN s) h4
section
variable {P : Program} {w : World} {K : PySem.W.Frag} {mg : Str → Option Value} {base : Heap}
def sp_bad : Sp := fun vs H Q _ => ∃ c : Int, vs = [.int c] ∧ ∀ H' v, Same H H' → KindP v → BadN 999999999 v → Q v H'
theorem ok_bad (T : Env fa fn K mg) : Good P w K mg base CX0 1 ("_law_bad", none) ["_law_cell"] sp_bad := by
  refine good_mk T 60 (d := d_w_bad) (N := ["_law_cell", "_law_way", "_law_far"]) (ps := ["_law_cell"]) rfl rfl sc_w_bad (fun _ _ _ _ _ _ us hl => match us, hl with | [_], _ => rfl) (fun vs H Q E h => ?_) (fun f cdv A outer σ0 H vs Q E hr h => ?_)
  · obtain ⟨c, rfl, _⟩ := h; rfl
  · obtain ⟨c, rfl, k⟩ := h
    have e30 : (10 : Int) ^ Int.toNat 30 = 1000000000000000000000000000000 := by decide
    have e9 : (10 : Int) ^ Int.toNat 9 = 1000000000 := by decide
    have w0 := Int.emod_nonneg c (show (6 : Int) ≠ 0 by decide)
    have w1 := Int.emod_lt_of_pos c (show (0 : Int) < 6 by decide)
    refine ⟨_, (pss_cons (ps_set (i := 1) sc_w_bad.nd rfl (Or.inl rfl) (pe_op op_mod (pv 0) pe_int))
      (pss_cons (ps_set (i := 2) sc_w_bad.nd rfl (Or.inl rfl) (pe_op op_mod (pe_op op_fdivW (pv 0) pe_int) (pe_op op_pow pe_int pe_int)))
      (pss_cons (ps_if (pt_cmpR op_eq (pv 1) pe_int (nomark _)) (pss_one (ps_ret (pe_op op_sub (pe_un un_neg pe_int) (pv 2)))) pss_nil)
      (pss_cons (ps_if (pt_cmpR op_eq (pv 1) pe_int (nomark _)) (pss_one (ps_ret (pe_op op_add (pe_op op_pow pe_int pe_int) (pv 2)))) pss_nil)
      (pss_cons (ps_if (pt_cmpR op_eq (pv 1) pe_int (nomark _)) (pss_one (ps_ret (pe_cmpR op_eq (pe_op op_mod (pv 2) pe_int) pe_int (nomark _)))) pss_nil)
      (pss_one (ps_ret (pe_ix (ix_listK K rfl) (pe_lst (pa_cons pe_non (pa_cons (pe_callTy call_str_int (by rfl) (T.free 42) (by decide +kernel) (pa_cons (pe_op op_mod (pv 2) pe_int) pa_nil)) (pa_cons (pe_un un_neg pe_int) pa_nil)))) (pe_op op_sub (pv 1) pe_int) (fun _ _ => rfl))))))))), ?_⟩
    walk_at "rd"
    refine rd_I (by refine ⟨by decide, by decide, by decide⟩) ?_
    rw [e30]
    refine rd_mod (by decide) ?_
    have f0 := Int.emod_nonneg (c / 6) (show (1000000000000000000000000000000 : Int) ≠ 0 by decide)
    generalize c / 6 % 1000000000000000000000000000000 = far at *
    generalize c % 6 = way at *
    walk_at "rd"
    refine ite_d (fun _ => ?_) (fun _ => ?_)
    · walk_at "rd"
      exact k H _ (Same.refl _) (.inl ⟨_, rfl⟩) (.inr ⟨_, rfl, .inl (by omega)⟩)
    walk_at "rd"
    refine ite_d (fun _ => ?_) (fun _ => ?_)
    · walk_at "rd"
      refine rd_I (by refine ⟨by decide, by decide, by decide⟩) ?_
      rw [e9]
      walk_at "rd"
      exact k H _ (Same.refl _) (.inl ⟨_, rfl⟩) (.inr ⟨_, rfl, .inr (by omega)⟩)
    walk_at "rd"
    refine ite_d (fun _ => ?_) (fun _ => ?_)
    · walk_at "rd"
      exact k H _ (Same.refl _) (.inr (.inl ⟨_, rfl⟩)) (.inl rfl)
    walk_at "rd"
    refine ⟨_, rfl, Nat.lt_of_le_of_lt (Nat.log2_le_self _) (by omega), ?_⟩
    walk_at "rd"
    refine rd_new (hn := by show 3 ≤ sizeLine; decide) fun p hp => ?_
    have s1 := same_upd (o := HO.lst [V.non, V.str (Str.ofString (toString (far % 9))), V.int (-1)]) hp
    walk_at "rd"
    rcases (by omega : way = 3 ∨ way = 4 ∨ way = 5) with rfl | rfl | rfl
    · exact rd_ixL (SqL.of upd_same) (atI_nat (j := 0) rfl) (k _ _ s1 (.inr (.inr (.inr rfl))) (.inl rfl))
    · exact rd_ixL (SqL.of upd_same) (atI_nat (j := 1) rfl) (k _ _ s1 (.inr (.inr (.inl ⟨_, rfl⟩))) (.inl rfl))
    · exact rd_ixL (SqL.of upd_same) (atI_nat (j := 2) rfl) (k _ _ s1 (.inl ⟨_, rfl⟩) (.inr ⟨_, rfl, .inl (by decide)⟩))
def sp_noSteps : Sp := fun vs H Q _ => ∃ c l : Int, vs = [.int c, .int l] ∧ ∀ H' v, Same H H' → KindP v → BadN (l - 2) v → Q v H'
theorem ok_noSteps (T : Env fa fn K mg) : Good P w K mg base CX0 1 ("_law_no_steps", none) ["_law_cell", "_law_level"] sp_noSteps := by
  refine good_mk T 61 (d := d_w_no_steps) (N := ["_law_cell", "_law_level", "_law_way", "_law_far"]) (ps := ["_law_cell", "_law_level"]) rfl rfl sc_w_no_steps (fun _ _ _ _ _ _ us hl => match us, hl with | [_, _], _ => rfl) (fun vs H Q E h => ?_) (fun f cdv A outer σ0 H vs Q E hr h => ?_)
  · obtain ⟨c, l, rfl, _⟩ := h; rfl
  · obtain ⟨c, l, rfl, k⟩ := h
    have e30 : (10 : Int) ^ Int.toNat 30 = 1000000000000000000000000000000 := by decide
    have w0 := Int.emod_nonneg c (show (6 : Int) ≠ 0 by decide)
    have w1 := Int.emod_lt_of_pos c (show (0 : Int) < 6 by decide)
    refine ⟨_, (pss_cons (ps_set (i := 2) sc_w_no_steps.nd rfl (Or.inl rfl) (pe_op op_mod (pv 0) pe_int))
      (pss_cons (ps_set (i := 3) sc_w_no_steps.nd rfl (Or.inl rfl) (pe_op op_mod (pe_op op_fdivW (pv 0) pe_int) (pe_op op_pow pe_int pe_int)))
      (pss_cons (ps_if (pt_cmpR op_eq (pv 2) pe_int (nomark _)) (pss_one (ps_ret (pe_op op_sub (pe_un un_neg pe_int) (pv 3)))) pss_nil)
      (pss_cons (ps_if (pt_cmpR op_eq (pv 2) pe_int (nomark _)) (pss_one (ps_ret (pe_op op_add (pe_op op_sub (pv 1) pe_int) (pv 3)))) pss_nil)
      (pss_cons (ps_if (pt_cmpR op_eq (pv 2) pe_int (nomark _)) (pss_one (ps_ret (pe_op op_sub (pv 1) pe_int))) pss_nil)
      (pss_one (ps_ret (pe_ix (ix_listK K rfl) (pe_lst (pa_cons pe_non (pa_cons (pe_cmpR op_eq (pe_op op_mod (pv 3) pe_int) pe_int (nomark _)) (pa_cons pe_str pa_nil)))) (pe_op op_sub (pv 2) pe_int) (fun _ _ => rfl))))))))), ?_⟩
    walk_at "rd"
    refine rd_I (by refine ⟨by decide, by decide, by decide⟩) ?_
    rw [e30]
    refine rd_mod (by decide) ?_
    have f0 := Int.emod_nonneg (c / 6) (show (1000000000000000000000000000000 : Int) ≠ 0 by decide)
    generalize c / 6 % 1000000000000000000000000000000 = far at *
    generalize c % 6 = way at *
    walk_at "rd"
    refine ite_d (fun _ => ?_) (fun _ => ?_)
    · walk_at "rd"
      exact k H _ (Same.refl _) (.inl ⟨_, rfl⟩) (.inr ⟨_, rfl, .inl (by omega)⟩)
    walk_at "rd"
    refine ite_d (fun _ => ?_) (fun _ => ?_)
    · walk_at "rd"
      exact k H _ (Same.refl _) (.inl ⟨_, rfl⟩) (.inr ⟨_, rfl, .inr (by omega)⟩)
    walk_at "rd"
    refine ite_d (fun _ => ?_) (fun _ => ?_)
    · walk_at "rd"
      exact k H _ (Same.refl _) (.inl ⟨_, rfl⟩) (.inr ⟨_, rfl, .inr (by omega)⟩)
    walk_at "rd"
    refine rd_new (hn := by show 3 ≤ sizeLine; decide) fun p hp => ?_
    have s1 := same_upd (o := HO.lst [V.non, V.bl (decide (far % 2 = 1)), V.str (Str.ofString "0")]) hp
    walk_at "rd"
    rcases (by omega : way = 3 ∨ way = 4 ∨ way = 5) with rfl | rfl | rfl
    · exact rd_ixL (SqL.of upd_same) (atI_nat (j := 0) rfl) (k _ _ s1 (.inr (.inr (.inr rfl))) (.inl rfl))
    · exact rd_ixL (SqL.of upd_same) (atI_nat (j := 1) rfl) (k _ _ s1 (.inr (.inl ⟨_, rfl⟩)) (.inl rfl))
    · exact rd_ixL (SqL.of upd_same) (atI_nat (j := 2) rfl) (k _ _ s1 (.inr (.inr (.inl ⟨_, rfl⟩))) (.inl rfl))
/-- both questions are refused -/
def sp_both (K : PySem.W.Frag) : Sp := fun vs H Q _ => ∃ (p dx dk : Addr) (vr : V) (a : GA) (rows : List (Int × Addr)) (q : List Sq) (x e : V) (cls : Str) (n : Int), vs = [.ref p, x, e, .int n] ∧ (cls, n) ∈ refC ∧ HJ K H p dx a.g vr dk ∧ GAt (CG K) H a rows q ∧ q.length ≤ 16000000 ∧ DueC K H q x e cls ∧ Tabs (tabsL K) H ∧ ∀ H', ExtN H H' → Tabs (tabsL K) H' → Q (.bl true) H'
theorem mp_both : MonP (sp_both K) := fun vs H Q Q' E h ⟨p, dx, dk, vr, a, rows, q, x, e, cls, n, x1, x2, x3, x4, x5, x6, x7, k⟩ => ⟨p, dx, dk, vr, a, rows, q, x, e, cls, n, x1, x2, x3, x4, x5, x6, x7, fun H' s t => h _ _ (k H' s t)⟩
set_option maxHeartbeats 8000000 in
theorem ok_both (T : Env fa fn K mg) (TB : ∀ p ∈ tfs, TabB base mg (He.codeOf K p) (He.tabOf K (He.codeOf K p))) : Good P w K mg base CX0 20 ("_law_both", none) ["_law_jumps", "_law_square", "_law_e", "_law_due"] (sp_both K) := by
  have GL_w_refused := (okL_refused (P := P) (w := w) (base := base) T 10)
  have GX_Jumps_after := okX_after (P := P) (w := w) (base := base) T
  have GX_Jumps_reasons := okX_reasons (P := P) (w := w) (base := base) T
  refine good_mkC T 59 (d := d_w_both) (N := ["_law_jumps", "_law_square", "_law_e", "_law_due"]) (ps := ["_law_jumps", "_law_square", "_law_e", "_law_due"]) rfl rfl sc_w_both (fun _ _ _ _ _ _ us hl => match us, hl with | [_, _, _, _], _ => rfl) (fun vs H Q E h => ?_) (fun f A outer σ0 H vs Q E hr h => ?_)
  · obtain ⟨p, dx, dk, vr, a, rows, q, x, e, cls, n, rfl, _⟩ := h; rfl
  · obtain ⟨p, dx, dk, vr, a, rows, q, x, e, cls, n, rfl, hx, hJ, G, hq, hd, tabs, k⟩ := h
    have hJ' : H p = some (.ins (He.ga K "Jumps") dx [("grove", .ref a.g), ("rule", vr), ("known", .ref dk)]) := hJ
    refine ⟨_, (pss_cons (ps_if (pt_not (pt_val (pe_lam2 K rfl (T := tabsL K) GL_w_refused (by rfl) (T.glo 68) (steady_var (i := 3) rfl (by first | exact Or.inl rfl | exact Or.inr (Or.inl rfl) | exact Or.inr (Or.inr rfl))) (TB _ (List.mem_of_getElem? (i := 0) rfl)) rfl (tl_mem 0 rfl) (tl_u T 0 rfl) (hr.mono (by decide)) (by decide) (show LamS (defScope st_w_both) _ from lamS_by (by decide +kernel)) (by rfl) (fun _ _ _ _ _ => by rfl) (fun A' outer' s' H' E' f' c' hr => by exact (pe_mgX K rfl lamN_takes (pv 0) (T.cls 53) (T.meth 67) GX_Jumps_after (hr.mono (by decide)) (pa_cons (pv 1) (pa_cons (pv 2) pa_nil))))))) (pss_one (ps_ret pe_bl)) pss_nil)
      (pss_one (ps_ret (pe_lam2 K rfl (T := tabsL K) GL_w_refused (by rfl) (T.glo 68) (steady_var (i := 3) rfl (by first | exact Or.inl rfl | exact Or.inr (Or.inl rfl) | exact Or.inr (Or.inr rfl))) (TB _ (List.mem_of_getElem? (i := 0) rfl)) rfl (tl_mem 0 rfl) (tl_u T 0 rfl) (hr.mono (by decide)) (by decide) (show LamS (defScope st_w_both) _ from lamS_by (by decide +kernel)) (by rfl) (fun _ _ _ _ _ => by rfl) (fun A' outer' s' H' E' f' c' hr => by exact (pe_mgX K rfl lamN_takes (pv 0) (T.cls 53) (T.meth 69) GX_Jumps_reasons (hr.mono (by decide)) (pa_cons (pv 1) (pa_cons (pv 2) pa_nil)))))))), ?_⟩
    walk_at "rd"
    refine ⟨tabs, _, rfl, fun H1 x1 t1 => ?_⟩
    refine ⟨cls, n, hx, rfl, Same H1, fun E' Q' hE => ?_, fun H2 H3 s2 s3 => ?_⟩
    · walk_at "rd"
      refine rd_methX ?_
      walk_at "rd"
      refine rd_methR (x1 _ _ hJ' (fun _ z => by cases z)) (by rfl) ?_
      walk_at "rd"
      exact ⟨p, dx, dk, vr, a, rows, q, x, e, cls, rfl, x1 _ _ hJ' (fun _ z => by cases z), G.extN x1, hq, hd.extN x1, hE H1 (Same.refl _)⟩
    have s13 : Same H1 H3 := s2.trans s3
    have x3 : ExtN H H3 := x1.trans (ExtN.of s13)
    have t3 := tabsL_same t1 s13
    walk_at "rd"
    refine ⟨t3, _, rfl, fun H4 x4 t4 => ?_⟩
    have x5 := x3.trans x4
    refine ⟨cls, n, hx, rfl, Same H4, fun E' Q' hE => ?_, fun H5 H6 s5 s6 => ?_⟩
    · walk_at "rd"
      refine rd_methX ?_
      walk_at "rd"
      refine rd_methR (x5 _ _ hJ' (fun _ z => by cases z)) (by rfl) ?_
      walk_at "rd"
      exact ⟨p, dx, dk, vr, a, rows, q, x, e, cls, rfl, x5 _ _ hJ' (fun _ z => by cases z), G.extN x5, hq, hd.extN x5, hE H4 (Same.refl _)⟩
    exact k H6 (x5.trans (ExtN.of (s5.trans s6))) (tabsL_same t4 (s5.trans s6))
end
end JF

/-! ### law k50 -/
namespace JF
open PySem PySem.Spec PyProof.Rows L2 LamX
/-- the script, beside what the grove and the Jumps own -/
def ScJ (K : PySem.W.Frag) (a0 : Addr) (xs : List V) (L : List Addr) (H : Hp) : Prop := (∀ H', SqL K H' a0 xs) ∨ ∃ o, H a0 = some o ∧ (∀ ps, o ≠ .tbl ps) ∧ (∀ H', H' a0 = some o → SqL K H' a0 xs) ∧ a0 ∉ L
section
variable {K : PySem.W.Frag} {H H1 : Hp} {a0 : Addr} {xs : List V} {L L' : List Addr}
theorem ScJ.of (hS : SqL K H a0 xs) (n : ∀ o, H a0 = some o → a0 ∉ L) : ScJ K a0 xs L H := by
  rcases hS with (e | ⟨u, e⟩) | e
  · exact .inr ⟨_, e, (fun ps z => by cases z), fun H' z => .inl (.inl z), n _ e⟩
  · exact .inr ⟨_, e, (fun ps z => by cases z), fun H' z => .inl (.inr ⟨u, z⟩), n _ e⟩
  · exact .inl fun _ => .inr e
theorem ScJ.sq (h : ScJ K a0 xs L H) : SqL K H a0 xs := h.elim (fun z => z H) fun ⟨_, e, _, z, _⟩ => z H e
theorem ScJ.ext (h : ScJ K a0 xs L H) (s : ExtN H H1) : ScJ K a0 xs L H1 := h.imp id fun ⟨o, e, t, r⟩ => ⟨o, s _ _ e t, t, r⟩
theorem ScJ.kp (h : ScJ K a0 xs L H) (s : Kp L L' H H1) : ScJ K a0 xs L' H1 := h.imp id fun ⟨o, e, t, z, n⟩ => ⟨o, (s _ _ e n).1, t, z, (s _ _ e n).2⟩
end
theorem beR_w {s k : Int} (s1 : 1 ≤ s) (s7 : s ≤ 7) (k1 : 1 ≤ k) (k8 : k ≤ 8) : ∀ c ∈ beR s k, ClaW c ∧ c.conds.length ≤ 8 := fun c hc => by
  rw [show c = ⟨some 0, [.amt s [k]], s⟩ from List.mem_singleton.mp hc]
  refine ⟨⟨⟨by decide, by decide⟩, fun z hz => ?_, ⟨(show 0 ≤ s by omega), s7⟩⟩, (show 1 ≤ 8 by decide)⟩
  rw [List.mem_singleton.mp hz]
  exact ⟨⟨by omega, s7⟩, by simp, fun n hn => by rw [List.mem_singleton.mp hn]; omega, List.pairwise_singleton _ _⟩
theorem beR_zero {s k : Int} (s1 : 1 ≤ s) (k1 : 1 ≤ k) : ruleMakes (beR s k) 0 eights = 0 := congrFun (congrFun (beR_stay s1 k1 (.inl rfl) 1) 0) 0
theorem jin_sameL {H H' : Hp} {p x d : Addr} {o o' : HO} (hp : H p = none) (hx : H x = none) (k : ∀ b, b ≠ p → b ≠ d → H' b = (upd (upd H x o) p o') b) (hd : (upd (upd H x o) p o') d = none) : Same H H' ∧ H d = none ∧ d ≠ p := by
  have dp : d ≠ p := fun z => by rw [z, upd_same] at hd; cases hd
  have dx : d ≠ x := fun z => by rw [upd_ne dp, z, upd_same] at hd; cases hd
  refine ⟨fun b u e => ?_, by rw [upd_ne dp, upd_ne dx] at hd; exact hd, dp⟩
  have b1 : b ≠ p := ne_of_none e hp
  have b2 : b ≠ x := ne_of_none e hx
  have b3 : b ≠ d := fun z => by
    rw [upd_ne dp, upd_ne dx, ← z, e] at hd; cases hd
  rw [k b b1 b3, upd_ne b1, upd_ne b2]
  exact e
theorem beR_lens : ∀ s : Fin 8, ∀ k : Fin 9, (claT ⟨some 0, [.amt ((s : Nat) : Int) [((k : Nat) : Int)]], ((s : Nat) : Int)⟩).length ≤ 100 ∧ (ruleT (beR ((s : Nat) : Int) ((k : Nat) : Int))).length ≤ 100 := by decide +kernel
theorem beR_rule {s k : Int} (s1 : 1 ≤ s) (s7 : s ≤ 7) (k1 : 1 ≤ k) (k8 : k ≤ 8) : RuleW (beR s k) := by
  have h := beR_lens ⟨s.toNat, by omega⟩ ⟨k.toNat, by omega⟩
  rw [show (((⟨s.toNat, by omega⟩ : Fin 8) : Nat) : Int) = s from Int.toNat_of_nonneg (by omega), show (((⟨k.toNat, by omega⟩ : Fin 9) : Nat) : Int) = k from Int.toNat_of_nonneg (by omega)] at h
  refine ⟨fun c hc => (beR_w s1 s7 k1 k8 c hc).1, fun c hc => ?_, (show 1 ≤ 1000 by decide), by have := h.2; omega, beR_zero s1 k1⟩
  rw [show c = ⟨some 0, [.amt s [k]], s⟩ from List.mem_singleton.mp hc]
  exact ⟨by have := h.1; omega, (show 1 ≤ 1000 by decide)⟩
theorem dig_lenF : ∀ s : Fin 9, (Str.ofString (toString ((s : Nat) : Int))).length = 1 := by decide +kernel
theorem dig_len (z : Int) (h0 : 0 ≤ z) (h1 : z ≤ 8) : (Str.ofString (toString z)).length = 1 := by
  have := dig_lenF ⟨z.toNat, by omega⟩
  rw [show (((⟨z.toNat, by omega⟩ : Fin 9) : Nat) : Int) = z from Int.toNat_of_nonneg h0] at this
  exact this
theorem beR_text : ∀ s : Fin 8, ∀ k : Fin 9, TL.tl (Str.ofString "0 " ++ Str.ofString (toString ((s : Nat) : Int)) ++ Str.ofString "=" ++ Str.ofString (toString ((k : Nat) : Int)) ++ Str.ofString " " ++ Str.ofString (toString ((s : Nat) : Int))) = ruleT (beR ((s : Nat) : Int) ((k : Nat) : Int)) := by decide +kernel
section
variable {P : Program} {w : World} {K : PySem.W.Frag} {mg : Str → Option Value} {base : Heap}
def sp_lawT (K : PySem.W.Frag) : Sp := fun vs H Q _ => ∃ (a : Addr) (ns : List Int), vs = [.ref a] ∧ SqL K H a (ns.map V.int) ∧ ns.length ≤ 63 ∧ Tabs (tabsL K) H ∧ ∀ H', Q (.bl true) H'
theorem sp_lawT_in {K : PySem.W.Frag} (H : Hp) (a : Addr) (ns : List Int) (hl : ns.length ≤ 63) (hT : ∀ p ∈ tfs, H (He.cT K p).2 = some (.tbl #[])) (hS : SqL K H a (ns.map V.int)) : sp_lawT K [.ref a] H (fun v _ => v = .bl true) (fun _ _ _ => False) :=
  ⟨a, ns, rfl, hS, hl, fun p hp => by
    obtain ⟨q, hq, rfl⟩ := List.mem_map.mp hp
    exact TabS.nil (hT q hq), fun _ => rfl⟩
def lawLevel : Nat := 60
set_option maxHeartbeats 64000000 in
theorem ok_law (T : Env fa fn K mg) (TB : ∀ p ∈ tfs, TabB base mg (He.codeOf K p) (He.tabOf K (He.codeOf K p))) : Good P w K mg base CX0 lawLevel ("law", none) ["_law_script"] (sp_lawT K) := by
  have G_Grove_init := ok_ginit (P := P) (w := w) (base := base) T
  have G_Jumps_init := ok_jinit (P := P) (w := w) (base := base) T
  have G_read_rule := ok_read_ruleN (P := P) (w := w) (base := base) T
  have G_w_at := ok_at (P := P) (w := w) (base := base) T
  have G_w_same := ok_same (P := P) (w := w) (base := base) T
  have G_w_bad := ok_bad (P := P) (w := w) (base := base) T
  have G_w_no_steps := ok_noSteps (P := P) (w := w) (base := base) T
  have G_w_both := ok_both (P := P) (w := w) (base := base) T TB
  have G_Grove_solid := ok_solid (P := P) (w := w) (base := base) T
  have G_Grove_level_of := ok_level_of (P := P) (w := w) (base := base) T
  have G_Jumps_after := ok_afterG (P := P) (w := w) (base := base) T
  refine good_mk T 62 (d := d_law) (N := ["_law_script", "_law_grove", "_law_state", "_law_rule", "_law_jumps", "_law_at_here", "_law_cell", "_law_level", "_law_wrong", "_law_steps", "_law_square"]) (ps := ["_law_script"]) rfl rfl sc_law (fun _ _ _ _ _ _ us hl => match us, hl with | [_], _ => rfl) (fun vs H Q E h => ?_) (fun f cdv A outer σ0 H vs Q E hr h => ?_)
  · obtain ⟨a, ns, rfl, _⟩ := h; rfl
  · obtain ⟨a0, ns, rfl, hS, hlen, tabs, k⟩ := h
    have hu := hu_of hr
    have hsz := sizeBig
    refine ⟨_, (pss_cons (ps_set (i := 1) sc_law.nd rfl (Or.inl rfl) (pe_mk0K K rfl (T.mkr 70) G_Grove_init (hr.mono (by decide)) (T.glo 71)))
      (pss_cons (ps_set (i := 2) sc_law.nd rfl (Or.inl rfl) (pe_op op_add pe_int (pe_op op_mod (pe_cgK K rfl G_w_at (hr.mono (by decide)) (T.glo 72) (pa_cons (pv 0) (pa_cons pe_int pa_nil))) pe_int)))
      (pss_cons (ps_set (i := 3) sc_law.nd rfl (Or.inl rfl) (pe_cgK K rfl G_read_rule (hr.mono (by decide)) (T.glo 73) (pa_cons (pe_op op_add_str (pe_op op_add_str (pe_op op_add_str (pe_op op_add_str (pe_op op_add_str pe_str (pe_callTy call_str_int (by rfl) (T.free 42) (by decide +kernel) (pa_cons (pv 2) pa_nil))) pe_str) (pe_callTy call_str_int (by rfl) (T.free 42) (by decide +kernel) (pa_cons (pe_op op_add pe_int (pe_op op_mod (pe_op op_fdivW (pe_cgK K rfl G_w_at (hr.mono (by decide)) (T.glo 72) (pa_cons (pv 0) (pa_cons pe_int pa_nil))) pe_int) pe_int)) pa_nil))) pe_str) (pe_callTy call_str_int (by rfl) (T.free 42) (by decide +kernel) (pa_cons (pv 2) pa_nil))) pa_nil)))
      (pss_cons (ps_set (i := 4) sc_law.nd rfl (Or.inl rfl) (pe_mkgK K rfl (T.mkr 74) G_Jumps_init (hr.mono (by decide)) (T.glo 75) (pa_cons (pv 1) (pa_cons (pv 3) pa_nil))))
      (pss_cons (ps_for PassesOwn.never rfl (pi_range2 (by rfl) (T.free 47) (pa_cons pe_int (pa_cons (pe_callB (call_max2 rfl) (by rfl) (T.free 4) (by decide +kernel) (pa_cons pe_int (pa_cons (pe_callB (call_min2 rfl) (by rfl) (T.free 3) (by decide +kernel) (pa_cons (pe_callB (call_lenK K rfl) (by rfl) (T.free 8) (by decide +kernel) (pa_cons (pv 0) pa_nil)) (pa_cons pe_int pa_nil))) pa_nil))) pa_nil))) (pg_name (i := 5) sc_law.nd rfl (Or.inl rfl)) (pss_cons (ps_set (i := 6) sc_law.nd rfl (Or.inl rfl) (pe_cgK K rfl G_w_at (hr.mono (by decide)) (T.glo 72) (pa_cons (pv 0) (pa_cons (pv 5) pa_nil))))
      (pss_cons (ps_set (i := 7) sc_law.nd rfl (Or.inl rfl) (pe_op op_add pe_int (pe_op op_mod (pe_op op_fdivW (pv 6) pe_int) pe_int)))
      (pss_cons (ps_set (i := 8) sc_law.nd rfl (Or.inl rfl) (pe_cgK K rfl G_w_no_steps (hr.mono (by decide)) (T.glo 76) (pa_cons (pe_op op_fdivW (pv 6) pe_int) (pa_cons (pv 7) pa_nil))))
      (pss_cons (ps_for PassesOwn.never rfl (pi_listK K rfl (pe_lst (pa_cons pe_int (pa_cons (pv 8) pa_nil)))) (pg_name (i := 9) sc_law.nd rfl (Or.inl rfl)) (pss_cons (ps_if (pt_not (pt_val (pe_cgK K rfl G_w_both (hr.mono (by decide)) (T.glo 77) (pa_cons (pv 4) (pa_cons (pe_cgK K rfl G_w_bad (hr.mono (by decide)) (T.glo 78) (pa_cons (pv 6) pa_nil)) (pa_cons (pv 9) (pa_cons pe_int pa_nil))))))) (pss_one (ps_ret pe_bl)) pss_nil)
      (pss_one (ps_if (pt_not (pt_val (pe_cgK K rfl G_w_both (hr.mono (by decide)) (T.glo 77) (pa_cons (pv 4) (pa_cons (pe_mgK K rfl (pv 1) (T.cls 9) (T.meth 79) G_Grove_solid (hr.mono (by decide)) (pa_cons (pe_op op_mod (pv 6) pe_int) (pa_cons (pe_op op_mod (pe_op op_fdivW (pv 6) pe_int) pe_int) pa_nil))) (pa_cons (pv 9) (pa_cons pe_int pa_nil))))))) (pss_one (ps_ret pe_bl)) pss_nil))))
      (pss_cons (ps_set (i := 10) sc_law.nd rfl (Or.inl rfl) (pe_mgK K rfl (pv 1) (T.cls 9) (T.meth 79) G_Grove_solid (hr.mono (by decide)) (pa_cons (pv 7) (pa_cons (pe_op op_mulW (pv 2) (pe_op op_mod (pe_op op_fdivW (pv 6) pe_int) pe_int)) pa_nil))))
      (pss_cons (ps_if (pt_not (pt_val (pe_cgK K rfl G_w_both (hr.mono (by decide)) (T.glo 77) (pa_cons (pv 4) (pa_cons (pv 10) (pa_cons (pv 8) (pa_cons pe_int pa_nil))))))) (pss_one (ps_ret pe_bl)) pss_nil)
      (pss_one (ps_if (PW.pt (pw_and (pt_cmpR op_lt (pv 7) pe_int (nomark _)) (pw_and1 (pt_not (pt_val (pe_cgK K rfl G_w_same (hr.mono (by decide)) (T.glo 80) (pa_cons (pe_mgK K rfl (pv 1) (T.cls 9) (T.meth 52) G_Grove_level_of (hr.mono (by decide)) (pa_cons (pe_mgK K rfl (pv 4) (T.cls 53) (T.meth 67) G_Jumps_after (hr.mono (by decide)) (pa_cons (pv 10) (pa_cons (pe_op op_sub (pv 7) pe_int) pa_nil))) pa_nil)) (pa_cons (pe_op op_sub (pv 7) pe_int) pa_nil)))))))) (pss_one (ps_ret pe_bl)) pss_nil)))))))))
      (pss_one (ps_ret pe_bl))))))), ?_⟩
    walk_at "rd"
    refine rd_grove fun a H1 G1 hnew1 sm1 => ?_
    have hS1 := sqL_on hS fun o e => sm1 _ _ e
    have t1 := tabsL_same tabs sm1
    walk_at "rd"
    refine rd_at hS1 (by decide) ?_
    walk_at "rd"
    generalize hst : 1 + atN ns (Int.toNat 0) % 7 = st
    have st0 : 1 ≤ st ∧ st ≤ 7 := by omega
    have ld : (Str.ofString (toString st)).length = 1 := dig_len st (by omega) (by omega)
    have l0 : (Str.ofString "0 ").length = 2 := by decide +kernel
    have le : (Str.ofString "=").length = 1 := by decide +kernel
    have lb : (Str.ofString " ").length = 1 := by decide +kernel
    refine ⟨_, rfl, Nat.lt_of_le_of_lt (Nat.log2_le_self _) (by omega), ?_⟩
    walk_at "rd"
    refine ⟨_, _, rfl, rfl, by rw [ld, l0]; decide, ?_⟩
    walk_at "rd"
    refine ⟨_, _, rfl, rfl, by rw [Str.length_append, ld, l0, le]; decide, ?_⟩
    walk_at "rd"
    refine rd_at hS1 (by decide) ?_
    walk_at "rd"
    generalize hkk : 1 + atN ns (Int.toNat 0) / 7 % 8 = kk
    have kk0 : 1 ≤ kk ∧ kk ≤ 8 := by omega
    have lk : (Str.ofString (toString kk)).length = 1 := dig_len kk (by omega) (by omega)
    refine ⟨_, rfl, Nat.lt_of_le_of_lt (Nat.log2_le_self _) (by omega), ?_⟩
    walk_at "rd"
    refine ⟨_, _, rfl, rfl, by simp only [Str.length_append, ld, l0, le, lk]; decide, ?_⟩
    walk_at "rd"
    refine ⟨_, _, rfl, rfl, by simp only [Str.length_append, ld, l0, le, lk, lb]; decide, ?_⟩
    walk_at "rd"
    refine ⟨_, rfl, Nat.lt_of_le_of_lt (Nat.log2_le_self _) (by omega), ?_⟩
    walk_at "rd"
    refine ⟨_, _, rfl, rfl, by simp only [Str.length_append, ld, l0, le, lk, lb]; decide, ?_⟩
    walk_at "rd"
    have etx : Str.ofString "0 " ++ Str.ofString (toString st) ++ Str.ofString "=" ++ Str.ofString (toString kk) ++ Str.ofString " " ++ Str.ofString (toString st) = tx (ruleT (beR st kk)) := by
      have := beR_text ⟨st.toNat, by omega⟩ ⟨kk.toNat, by omega⟩
      rw [show (((⟨st.toNat, by omega⟩ : Fin 8) : Nat) : Int) = st from Int.toNat_of_nonneg (by omega), show (((⟨kk.toNat, by omega⟩ : Fin 9) : Nat) : Int) = kk from Int.toNat_of_nonneg (by omega)] at this
      exact TL.ext_tl this
    rw [etx]
    have hcw := beR_w st0.1 st0.2 kk0.1 kk0.2
    have hz := beR_zero (s := st) st0.1 kk0.1
    have Pc : ClosedJ (beR st kk) (covE [0, st]) := covE_closed (fun c hc => (hcw c hc).1) (fun v hv => by
      simp only [List.mem_cons, List.not_mem_nil, or_false] at hv
      rcases hv with rfl | rfl
      · exact ⟨by decide, by decide⟩
      · exact ⟨by omega, by omega⟩) (fun v hv => by
      simp only [List.mem_cons, List.not_mem_nil, or_false] at hv
      exact beR_stay st0.1 kk0.1 hv)
    have Pl : (covE [0, st]).length ≤ 288 := covE_len [0, st]
    have stv : ∀ v, v = 0 ∨ v = st → St v := fun v hv => by
      rcases hv with rfl | rfl
      · exact ⟨by decide, by decide⟩
      · exact ⟨by omega, by omega⟩
    have jev : ∀ v, v = 0 ∨ v = st → ∀ d, jumpN (beR st kk) d d (Sq.even (d + 2) v) = Sq.even (d + 1) v := fun v hv d => jump_even (fun c hc => (hcw c hc).1) (stv v hv) (beR_stay st0.1 kk0.1 hv) d d (Nat.le_refl d)
    have pev : ∀ v, v = 0 ∨ v = st → ∀ l e, l < 12 → e < 12 → (Sq.even l v, e) ∈ covE [0, st] := fun v hv l e h1 h2 => covE_mem.mpr ⟨l, v, h1, h2, by simpa using hv, rfl⟩
    generalize covE [0, st] = Pj at Pc Pl pev
    refine ⟨beR st kk, rfl, beR_rule st0.1 st0.2 kk0.1 kk0.2, fun H2 vr s2 hR2 => ?_⟩
    have R2 : RuleAtN (fun b => b ∉ a.muts []) K H2 vr (beR st kk) := hR2.imp fun b hb => G1.new_out hb
    have G2 := G1.same s2
    have hS2 := sqL_on hS1 fun o e => s2 _ _ e
    have t2 := tabsL_same t1 s2
    walk_at "rd"
    refine rd_make ?_
    walk_at "rd"
    intro p1 x1 hp1 hx1 hne1
    refine ⟨p1, x1, a.g, vr, rfl, upd_same, fun H3 d1 k1 k2 D1 J1 => ⟨rfl, ?_⟩⟩
    obtain ⟨s3, fd1, dp1⟩ := jin_sameL hp1 hx1 k1 k2
    have R3 : RuleAtN (fun b => b ∉ d1 :: a.muts []) K H3 vr (beR st kk) := (R2.and fun b o e hb z => by
      rcases List.mem_cons.mp z with z | z
      · rw [z, fd1] at e; cases e
      · exact hb z).same s3
    have J3 : JW K a [] p1 x1 d1 vr (beR st kk) Pj H3 [] [] := ⟨G2.same s3, J1, R3, fun c hc => (hcw c hc).1, D1, G2.new_out fd1, KnP.nil⟩
    have S3 : ScJ K a0 (ns.map V.int) (d1 :: a.muts []) H3 := (ScJ.of (L := d1 :: a.muts []) hS fun o e z => by
      rcases List.mem_cons.mp z with z | z
      · rw [← z, s2 _ _ (sm1 _ _ e)] at fd1; cases fd1
      · rw [hnew1 _ z] at e; cases e).ext (ExtN.of ((sm1.trans s2).trans s3))
    have t3 := tabsL_same t2 s3
    generalize hcs : beR st kk = cs at *
    walk_at "rd"
    refine rd_len S3.sq ?_
    rw [List.length_map]
    walk_at "rd"
    generalize hm : (if (if (17 : Int) < (ns.length : Int) then (17 : Int) else (ns.length : Int)) > 2 then (if (17 : Int) < (ns.length : Int) then (17 : Int) else (ns.length : Int)) else 2) = m
    have m0 : 2 ≤ m ∧ m ≤ 17 := by
      rw [← hm]
      split <;> split <;> omega
    clear hm hnew1 sm1 s2 hR2 R2 G2 hS2 t2 G1 hS1 t1 etx R3 J1 D1 k1 k2 fd1 dp1 hp1 hx1 hne1
    refine ⟨⟨by omega, by omega, by omega, by omega⟩, ?_⟩
    refine for_it (walk_range (lo := 1) (n := (m - 1).toNat)) (fun i σ Hx => ∃ (r : List (Int × Addr)) (qq : List Sq) (kv : List (List Key × V)) (x5 x6 x7 x8 x9 x10 : Option V), σ = [some (.ref a0), some (.ref a.g), some (.int st), some vr, some (.ref p1), x5, x6, x7, x8, x9, x10] ∧ JW K a r p1 x1 d1 vr cs Pj Hx qq kv ∧ qq.length ≤ 200 * i + 20 * kv.length ∧ ScJ K a0 (ns.map V.int) (d1 :: a.muts r) Hx ∧ Tabs (tabsL K) Hx) ⟨[], [], [], none, none, none, none, none, none, rfl, J3, by simp, S3, t3⟩ (fun _ _ _ _ _ => trivial) ?_ ?_
    · rintro i v σ Ha Hb hi ⟨r, qq, kv, x5, x6, x7, x8, x9, x10, rfl, J, hq, S, t⟩ ⟨rfl, rfl⟩
      have i17 : i < 16 := by have : i < (m - 1).toNat := hi; omega
      have lk := J.kn.len J.G.qn
      walk_at "rd"
      refine rd_at S.sq (by omega) ?_
      walk_at "rd"
      generalize atN ns (1 + (i : Int)).toNat = c
      generalize hl : 2 + c / 3 % 47 = lv
      have lv0 : 2 ≤ lv ∧ lv ≤ 48 := by omega
      refine ⟨_, _, rfl, fun H4 wv s4 hk4 hb4 => ?_⟩
      walk_at "rd"
      refine rd_new (hn := by show 2 ≤ sizeLine; decide) fun pl hpl => ?_
      have s5 := same_upd (o := HO.lst [V.int 0, wv]) hpl
      have L5 : (upd H4 pl (HO.lst [V.int 0, wv])) pl = some (.lst [V.int 0, wv]) := upd_same
      have J5 := (J.same s4).same s5
      have S5 := (S.ext (ExtN.of s4)).ext (ExtN.of s5)
      have t5 := tabsL_same (tabsL_same t s4) s5
      have npl : pl ∉ d1 :: a.muts r := fun z => by
        rcases List.mem_cons.mp z with z | z
        · have := (J.same s4).D; rw [← z, hpl] at this; cases this
        · exact (J.same s4).G.new_out hpl z
      generalize upd H4 pl (HO.lst [V.int 0, wv]) = H5 at *
      walk_at "rd"
      refine ⟨pl, rfl, ⟨_, SqL.of L5⟩, ?_⟩
      refine for_it (walk_list (K := K) (a := pl) (xs := [V.int 0, wv])) (fun j σ Hx => ∃ (r : List (Int × Addr)) (qq : List Sq) (x9 : Option V), σ = [some (.ref a0), some (.ref a.g), some (.int st), some vr, some (.ref p1), some (.int (1 + (i : Int))), some (.int c), some (.int lv), some wv, x9, x10] ∧ JW K a r p1 x1 d1 vr cs Pj Hx qq kv ∧ qq.length ≤ 200 * i + 5 * j + 20 * kv.length ∧ ScJ K a0 (ns.map V.int) (d1 :: a.muts r) Hx ∧ Tabs (tabsL K) Hx ∧ Hx pl = some (.lst [V.int 0, wv]) ∧ pl ∉ d1 :: a.muts r) ⟨r, qq, x9, rfl, J5, by omega, S5, t5, L5, npl⟩ (fun j σ Hx _ ⟨_, _, _, _, _, _, _, _, hp, _⟩ => SqL.of hp) ?_ ?_
      · rintro j e σ Ha Hb hj ⟨r, qq, x9, rfl, J, hq, S, t, L, np⟩ ⟨rfl, he⟩
        have hke : KindP e := by
          match j, he with
          | 0, he => cases he; exact .inl ⟨0, rfl⟩
          | 1, he => cases he; exact hk4
        have hj2 : j < 2 := hj
        have lk := J.kn.len J.G.qn
        walk_at "rd"
        refine ⟨_, rfl, fun H6 bv s6 hk6 hb6 => ?_⟩
        have J6 := J.same s6
        walk_at "rd"
        refine ⟨p1, x1, d1, vr, a, r, qq, bv, e, "NoSquare", 0, rfl, by simp [refC], J6.J, J6.G, by omega, .sq (.inl hk6) hb6, tabsL_same t s6, fun H7 x7 t7 => ?_⟩
        have x47 := (ExtN.of s6).trans x7
        have J7 := J.extN x47
        have S7 := S.ext x47
        have L7 := x47 _ _ L (fun _ z => by cases z)
        walk_at "rd"
        refine rd_methR J7.G.ob (by rfl) ?_
        walk_at "rd"
        obtain ⟨l1, hl1⟩ := nat_of (Int.emod_nonneg c (show (2 : Int) ≠ 0 by decide))
        have l12 : l1 < 2 := by omega
        rw [hl1]
        refine ⟨a, r, qq, l1, _, rfl, J7.G, by omega, Int.emod_nonneg _ (by decide), by omega, by omega, fun H8 r8 q8 n8 g8 lq8 e8 => ?_⟩
        obtain ⟨J8, j8⟩ := J7.step g8
        have S8 := S7.kp j8.kp
        have t8 := J7.tabs j8 t7
        obtain ⟨L8, np8⟩ := j8.kp _ _ L7 np
        walk_at "rd"
        refine ⟨p1, x1, d1, vr, a, r8, q8, _, e, "NoLevel", 1, rfl, by simp [refC], J8.J, J8.G, by omega, .lv e8 (by rw [Sq.level_even]; exact l12), t8, fun H9 x9 t9 => ?_⟩
        have J9 := J8.extN x9
        walk_at "rd"
        exact ⟨r8, q8, _, rfl, J9, by omega, S8.ext x9, t9, x9 _ _ L8 (fun _ z => by cases z), np8⟩
      · rintro σ Hz ⟨r, qq, x9, rfl, J, hq, S, t, L, np⟩
        have hq : qq.length ≤ 200 * i + 10 + 20 * kv.length := hq
        have lk := J.kn.len J.G.qn
        clear L np npl
        have g1 : 0 ≤ c / 5 % 2 ∧ c / 5 % 2 < 2 := by omega
        walk_at "rd"
        refine rd_methR J.G.ob (by rfl) ?_
        walk_at "rd"
        refine rd_I (mulW_of (by omega) (by omega) (by omega) (by omega)) ?_
        obtain ⟨lN, hlN⟩ := nat_of (show 0 ≤ lv by omega)
        obtain ⟨sv, hsv, hsv2⟩ : ∃ sv, st * (c / 5 % 2) = sv ∧ (sv = 0 ∨ sv = st) := by
          rcases (by omega : c / 5 % 2 = 0 ∨ c / 5 % 2 = 1) with z | z
          · exact ⟨0, by rw [z]; omega, .inl rfl⟩
          · exact ⟨st, by rw [z]; omega, .inr rfl⟩
        have svs := stv sv hsv2
        rw [hsv]
        subst hlN
        refine ⟨a, r, qq, lN, sv, rfl, J.G, by omega, svs.1, svs.2, by omega, fun H6 r6 q6 n6 g6 lq6 e6 => ?_⟩
        obtain ⟨J6, j6⟩ := J.step g6
        have S6 := S.kp j6.kp
        have t6 := J.tabs j6 t
        walk_at "rd"
        refine ⟨p1, x1, d1, vr, a, r6, q6, _, wv, "NoSteps", 2, rfl, by simp [refC], J6.J, J6.G, by omega, .st e6 (by rw [Sq.level_even]; omega) (.inl hk4) (by rw [Sq.level_even]; exact hb4), t6, fun H7 x7 t7 => ?_⟩
        have J7 := J6.extN x7
        have S7 := S6.ext x7
        walk_at "rd"
        refine ite_d (fun l12 => ?_) (fun _ => ?_)
        · obtain ⟨d, rfl⟩ : ∃ d, lN = d + 2 := ⟨lN - 2, by omega⟩
          walk_at "rd"
          refine rd_methR J7.G.ob (by rfl) ?_
          walk_at "rd"
          refine rd_methR J7.J' (by rfl) ?_
          walk_at "rd"
          rw [show (((d + 2 : Nat) : Int) - 2) = (d : Int) by omega]
          refine ⟨d, by omega, J7.reck e6 (Sq.level_even _ _) (Nat.le_refl d) (by omega) Pc (pev sv hsv2 _ _ (by omega) (by omega)) (by omega) (by omega) fun H8 q8 n8 kv8 J8 j8 lq8 lk8 e8 => ?_⟩
          rw [jev sv hsv2 d] at e8
          have lk8' := J8.kn.len J8.G.qn
          walk_at "rd"
          refine ⟨a, r6, q8, n8, _, rfl, J8.G, e8, by omega, ?_⟩
          walk_at "rd"
          rw [show ((Sq.even (d + 1) sv).level : Int) = ((d + 2 : Nat) : Int) - 1 by rw [Sq.level_even]; omega]
          refine sp_sameT ?_
          walk_at "rd"
          exact ⟨r6, q8, kv8, _, _, _, _, _, _, rfl, J8, by omega, S7.kp j8.kp, J7.tabs j8 t7⟩
        · walk_at "rd"
          exact ⟨r6, q6, kv, _, _, _, _, _, _, rfl, J7, by omega, S7, t7⟩
    · rintro σ Hz ⟨r, qq, kv, x5, x6, x7, x8, x9, x10, rfl, _⟩
      walk_at "rd"
      exact k _
end
end JF

namespace JF
open PySem PySem.Spec PyProof.Rows L2
/-! ### the head: facts by names, the run; the end, with tables of code objects -/
theorem fn_ofT {P : Program} {w : World} {K : PySem.W.Frag} {mg : Str → Option Value} {k : Nat} {sp : Sp} {f : Addr} (hfa : mg ("law" : Str) = some (.ref f)) (T : Env fa fn K mg)
    (ok : ∀ base : Heap, K.In base → base.Ns mainGlobals mg → (∀ p ∈ tfs, LamX.TabB base mg (He.codeOf K p) (He.tabOf K (He.codeOf K p))) → Good P w K mg base CX0 k ("law", none) ["_law_script"] sp) :
    ∃ fd : FuncData, (∀ (s : Shared) (v : Value), BindsTo s fd ⟨[v], []⟩ [("_law_script", v)]) ∧ ∀ base : Heap, K.In base → base.Ns mainGlobals mg → (∀ p ∈ tfs.map (He.cT K), LamX.TabB base mg p.1 p.2) → FnOk P w K mg base CX0 k f fd ["_law_script"] sp := by
  obtain ⟨fd, F⟩ := T.c.def_ (d := d_law) 62 rfl
  have e := hfa.symm.trans (T.glo 98)
  cases e
  have b := FunD.bindsA (ps := ["_law_script"]) F fun _ _ _ _ _ _ us hl => match us, hl with | [_], _ => rfl
  refine ⟨fd, fun s v => b s [v] rfl, fun base h1 h2 h3 => ?_⟩
  obtain ⟨fd2, F2, _, _, l2⟩ := ok base h1 h2 fun p hp => h3 _ (List.mem_map.mpr ⟨p, hp, rfl⟩)
  cases (fdAt_of (p := ("law", none)) F).eq l2
  exact F2
end JF
open PySem PySem.W PySem.Calls PyProof.Rows
theorem PySem.Challenge.cw_jumpfield_k50_refused_jumps_holds : PySem.Challenge.rw_jumpfield_k50_refused_jumps.Holds := by
  w_on; o_law
  refine HandSHeadRun.head_any (r := OpenLaw.row PySem.Challenge.rw_jumpfield_k50_refused_jumps) (q := view (OpenLaw.row PySem.Challenge.rw_jumpfield_k50_refused_jumps).prog [51]) (H := JF.hk) (ob := JF.ob) (M := 100000) (loose := JF.looseN) (d := HandSHeadRun.topDef (OpenLaw.row PySem.Challenge.rw_jumpfield_k50_refused_jumps).prog 51) (kwd := []) JF.ob_eq
    (by kernel_rfl) (fun s => by kernel_rfl) JF.run (by kernel_rfl) (by kernel_rfl) (by kernel_rfl) (by rfl) (by first | assumption | decide +kernel) (by decide +kernel) ⟨rfl, rfl, rfl, rfl, rfl, by decide +kernel⟩ ?hw ?hc
  case hw => w_witness2
  case hc =>
    refine JF.walk_ofTE (l := PySem.Challenge.rw_jumpfield_k50_refused_jumps) (n := 63) (k := JF.lawLevel) (x := "_law_script") (CX := L2.CX0) rfl (by decide) (by kernel_rfl) ⟨rfl, by decide, by decide⟩ ?F (fun _ _ _ _ z => z)
    intro w mg fa h Y G hmg0
    obtain ⟨K, KX, c⟩ := Y
    have hmg : mg ("law" : PySem.Str) = some (.ref fa) := by
      have e : (HandSHeadRun.topDef (OpenLaw.row PySem.Challenge.rw_jumpfield_k50_refused_jumps).prog 51).name = ("law" : PySem.Str) := by kernel_rfl
      rw [← e]
      exact hmg0
    have T : JF.Env JF.fa JF.fn K mg := ⟨c.t.d, ⟨h, KX, G⟩, c.more⟩
    obtain ⟨fd, hb, hF⟩ := JF.fn_ofT (P := (PySem.Challenge.rw_jumpfield_k50_refused_jumps).prog) (w := w) hmg T (fun base h1 h2 h3 => JF.ok_law T h3)
    refine ⟨K, KX, fd, JF.tfs.map (He.cT K), JF.sp_lawT K, fun p hp => ?_, fun p hp => ?_, fun p hp => ?_, hb, fun H a ns hl _ hT hS => JF.sp_lawT_in H a ns hl (fun p hp => hT _ (List.mem_map.mpr ⟨p, hp, rfl⟩)) hS, hF⟩
    · obtain ⟨q, hq, rfl⟩ := List.mem_map.mp hp
      exact c.empty q hq
    · obtain ⟨q, hq, rfl⟩ := List.mem_map.mp hp
      exact c.out q hq
    · obtain ⟨q, hq, rfl⟩ := List.mem_map.mp hp
      exact PySem.W.codeHd_of_K KX (c.hd q hq)
#print axioms PySem.Challenge.cw_jumpfield_k50_refused_jumps_holds

