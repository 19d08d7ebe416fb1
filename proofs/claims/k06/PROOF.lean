import PyProof.Rows.All
import Wide.All
import OpenK.AllK
import Wide.FinOn
import KE.KStateDown
import KE.GoesMore
import KE.GoesZip
import PyProof.EnumMake
import HandS.ForMost
import HandS.ForExc
import HandS.Flow
import HandS.Wide
import HandS.WideMore
import HandS.IsInst
import HandS.SetKeys
import HandS.Style
import HandS.TupLe
import HandS.Zip
import HandS.Defaults
import HandS.Head0
import HandS.Head1
import HandS.Head2
import HandS.HeadEnd
import HandS.HeadHook1
import HandS.HeadHook2
import HandS.Walk
import PyProof.DictMoreH
import HandS.SetFor
import HandS.ExcCtx
import HandS.ExcIs
import HandS.HotCalls
import HandS.Conv
import KE.KDictSum
import KE.KDictCopyH
import HandS.SortOrd
import HandS.DictTup
import HandS.HeadHook4
import HandS.Deep
import PySem.Challenge.RW_jumpfield_k06_no_rule
set_option Elab.async false
set_option linter.all false
set_option maxRecDepth 100000
set_option maxHeartbeats 4000000
/-! ### the frame: facts of the top, defs by their places, calls -/
namespace JF
open PySem PySem.Spec PyProof.Rows L2

/-! ### what the top has left, by facts with numbers -/
/-- the module's tuples of numbers -/
def tb : List (Str × List He.Dv) := []
/-- the module's tuples of tuples of numbers -/
def tb2 : List (Str × List (List Int)) := []
def tup2L (K : PySem.W.Frag) : List (List Int) → List Value → Bool
  | [], [] => true
  | x :: xs, .ref p :: us => (match K.lookup p with
    | some ⟨.type c, _, .seq its _, _⟩ => decide (c = "tuple") && (decide (its.size ≤ sizeLine) && He.relAll (x.map V.int) its.toList)
    | _ => false) && tup2L K xs us
  | _, _ => false
def tup2B (K : PySem.W.Frag) (x : Str) (xs : List (List Int)) : Bool := match K.lookup (He.ga K x) with
  | some ⟨.type c, _, .seq its _, _⟩ => decide (c = "tuple") && (decide (its.size ≤ sizeLine) && tup2L K xs its.toList)
  | _ => false
theorem tup2L_ok {K : PySem.W.Frag} : ∀ {xs : List (List Int)} {us : List Value}, tup2L K xs us = true → ∃ rs : List Addr, Vals (rs.map V.ref) us ∧ rs.length = xs.length ∧ ∀ (i : Nat) (r : Addr) (x : List Int), rs[i]? = some r → xs[i]? = some x → ∀ H : Hp, SqT K H r (x.map V.int)
  | [], [], _ => ⟨[], .nil, rfl, fun i r x h _ => by cases h⟩
  | [], _ :: _, h => by cases h
  | x :: xs, [], h => by cases h
  | x :: xs, u :: us, h => by
    cases u with
    | ref p =>
      obtain ⟨h1, h2⟩ := Bool.and_eq_true_iff.mp (show ((match K.lookup p with
        | some ⟨.type c, _, .seq its _, _⟩ => decide (c = "tuple") && (decide (its.size ≤ sizeLine) && He.relAll (x.map V.int) its.toList)
        | _ => false) && tup2L K xs us) = true from h)
      obtain ⟨rs, v, e, k⟩ := tup2L_ok h2
      refine ⟨p :: rs, .cons rfl v, by rw [List.length_cons, List.length_cons, e], fun i r y hi hy H => ?_⟩
      cases i with
      | succ i => exact k i r y hi hy H
      | zero =>
        cases hi; cases hy
        cases q : K.lookup p with
        | none => rw [q] at h1; cases h1
        | some o =>
          obtain ⟨oc, od, dt, osl⟩ := o
          rw [q] at h1
          cases oc with
          | type c =>
            cases dt with
            | seq its n =>
              obtain ⟨a1, a2⟩ := Bool.and_eq_true_iff.mp (show (decide (c = "tuple") && (decide (its.size ≤ sizeLine) && He.relAll (x.map V.int) its.toList)) = true from h1)
              obtain ⟨a3, a4⟩ := Bool.and_eq_true_iff.mp a2
              exact .inr ⟨_, its, n, q, congrArg Value.type (of_decide_eq_true a1), rfl, of_decide_eq_true a3, He.relAll_ok a4⟩
            | _ => cases h1
          | _ => cases dt <;> cases h1
    | _ => cases h
theorem tup2B_ok {K : PySem.W.Frag} {x : Str} {xs : List (List Int)} (h : tup2B K x xs = true) : ∃ rs : List Addr, (∀ H : Hp, SqT K H (He.ga K x) (rs.map V.ref)) ∧ rs.length = xs.length ∧ ∀ (i : Nat) (r : Addr) (y : List Int), rs[i]? = some r → xs[i]? = some y → ∀ H : Hp, SqT K H r (y.map V.int) := by
  unfold tup2B at h
  cases q : K.lookup (He.ga K x) with
  | none => rw [q] at h; cases h
  | some o =>
    obtain ⟨oc, od, dt, osl⟩ := o
    rw [q] at h
    cases oc with
    | type c =>
      cases dt with
      | seq its n =>
        obtain ⟨a1, a2⟩ := Bool.and_eq_true_iff.mp (show (decide (c = "tuple") && (decide (its.size ≤ sizeLine) && tup2L K xs its.toList)) = true from h)
        obtain ⟨a3, a4⟩ := Bool.and_eq_true_iff.mp a2
        obtain ⟨rs, v, e, k⟩ := tup2L_ok a4
        exact ⟨rs, fun H => .inr ⟨_, its, n, q, congrArg Value.type (of_decide_eq_true a1), rfl, of_decide_eq_true a3, v⟩, e, k⟩
      | _ => cases h
    | _ => cases dt <;> cases h
/-- the module's own exceptions that are raised; how each stands to the classes that are asked for -/
def exN : List Str := ["NoRule", "Restless"]
def exP : List (Str × Sum Str String × Bool) := [("NoRule", .inl "NoSquare", false), ("NoRule", .inl "NoLevel", false), ("NoRule", .inl "NoState", false), ("NoRule", .inl "NoBox", false), ("NoRule", .inl "TooFar", false), ("NoRule", .inl "TooMany", false), ("NoRule", .inl "NoSteps", false), ("NoRule", .inl "NoPattern", false), ("NoRule", .inl "NoName", false), ("NoRule", .inl "NoRow", false), ("NoRule", .inl "NoNumber", false), ("NoRule", .inr "ValueError", true), ("NoRule", .inl "FieldError", true), ("NoRule", .inl "Restless", false), ("NoRule", .inl "NoRule", true), ("Restless", .inl "NoSquare", false), ("Restless", .inl "NoLevel", false), ("Restless", .inl "NoState", false), ("Restless", .inl "NoBox", false), ("Restless", .inl "TooFar", false), ("Restless", .inl "TooMany", false), ("Restless", .inl "NoSteps", false), ("Restless", .inl "NoPattern", false), ("Restless", .inl "NoName", false), ("Restless", .inl "NoRow", false), ("Restless", .inl "NoNumber", false), ("Restless", .inr "ValueError", true), ("Restless", .inl "FieldError", true), ("Restless", .inl "Restless", true), ("Restless", .inl "NoRule", false)]
def veT : List Value := [.type "ValueError", .type "Exception", .type "BaseException", .type "object"]
def exV (K : PySem.W.Frag) : Sum Str String → Value
  | .inl y => .ref (He.ga K y)
  | .inr t => .type t
def exB1 (K : PySem.W.Frag) (x : Str) : Bool :=
  PySem.W.excIn K (He.ga K x) veT "ValueError.__new__" && PySem.W.keepIn K (.ref (He.ga K x)) && (PySem.W.subIn K (.ref (He.ga K x)) (.type "BaseException") == some true) && (PySem.W.typeIn K (.ref (He.ga K x)) == some (.type "type")) &&
  (PySem.W.findIn K (.ref (He.ga K x)) "__getattribute__" == some (some (.builtin "BaseException.__getattribute__"))) && (PySem.W.findIn K (.ref (He.ga K x)) "__getattr__" == some none) && PySem.W.hasDictIn K (He.ga K x) &&
  (PySem.W.findIn K (.ref (He.ga K x)) "__class__" == some (some (.builtin "object.__class__"))) && (PySem.W.specialIn K (.builtin "object.__class__") "__get__" == some (some (.builtin "getset_descriptor.__get__"))) &&
  (PySem.W.takesIn K (.builtin "object.__class__") == some true) && (PySem.W.mroIn K (He.ga K x) (.type "object") == some true)
def exB2 (K : PySem.W.Frag) (t : Str × Sum Str String × Bool) : Bool :=
  (PySem.W.exmOne K (.ref (He.ga K t.1)) (exV K t.2.1) == some t.2.2) && (PySem.W.kitOne K (.ref (He.ga K t.1)) (exV K t.2.1) == some t.2.2)
/-- the defs in which lambdas are made; their tables of code objects are unlike -/
def tfsP : List (Str × Option Str) := []
def ndB : List Addr → Bool
  | [] => true
  | a :: l => !l.contains a && ndB l
theorem ndB_ok : ∀ {l : List Addr}, ndB l = true → l.Nodup
  | [], _ => List.nodup_nil
  | a :: l, h => by
    obtain ⟨h1, h2⟩ := Bool.and_eq_true_iff.mp (show (!l.contains a && ndB l) = true from h)
    exact List.nodup_cons.mpr ⟨(fun z => by rw [List.contains_iff_mem.mpr z] at h1; cases h1), ndB_ok h2⟩
def tbB (K : PySem.W.Frag) : Bool := (tb.all fun t => He.tupB K t.1 t.2) && (exN.all (exB1 K) && (exP.all (exB2 K) && ((tb2.all fun t => tup2B K t.1 t.2) && ndB (tfsP.map fun p => He.tabOf K (He.codeOf K p)))))
structure Env (fa : List He.Fa) (fn : List He.DefD) (K : PySem.W.Frag) (mg : Str → Option Value) : Prop where
  c : He.SaysD fa fn K
  ex : ∃ h : Heap, K.In h ∧ h.Ns mainGlobals mg
  tb : tbB K = true
section
variable {fa : List He.Fa} {fn : List He.DefD} {K : PySem.W.Frag} {mg : Str → Option Value}
theorem Env.glo (T : Env fa fn K mg) (i : Nat) {x : Str} (h : fa[i]? = some (.glo x) := by rfl) : mg x = some (.ref (He.ga K x)) := by
  obtain ⟨hp, X, G⟩ := T.ex
  exact He.glo_ok X G (T.c.fact i h)
theorem Env.tup (T : Env fa fn K mg) (i : Nat) {x : Str} {vs : List He.Dv} (H : Hp) (h : JF.tb[i]? = some (x, vs) := by rfl) : SqT K H (He.ga K x) (vs.map (He.Dv.v K)) :=
  He.tupB_ok (List.all_eq_true.mp (Bool.and_eq_true_iff.mp T.tb).1 _ (List.mem_of_getElem? h)) H
theorem Env.ex1 (T : Env fa fn K mg) {x : Str} (h : x ∈ JF.exN) : exB1 K x = true := List.all_eq_true.mp (Bool.and_eq_true_iff.mp (Bool.and_eq_true_iff.mp T.tb).2).1 _ h
theorem Env.ex2 (T : Env fa fn K mg) {t : Str × Sum Str String × Bool} (h : t ∈ JF.exP) : exB2 K t = true := List.all_eq_true.mp (Bool.and_eq_true_iff.mp (Bool.and_eq_true_iff.mp (Bool.and_eq_true_iff.mp T.tb).2).2).1 _ h
theorem Env.tup2 (T : Env fa fn K mg) (i : Nat) {x : Str} {xs : List (List Int)} (h : JF.tb2[i]? = some (x, xs) := by rfl) : ∃ rs : List Addr, (∀ H : Hp, SqT K H (He.ga K x) (rs.map V.ref)) ∧ rs.length = xs.length ∧ ∀ (i : Nat) (r : Addr) (y : List Int), rs[i]? = some r → xs[i]? = some y → ∀ H : Hp, SqT K H r (y.map V.int) :=
  tup2B_ok (List.all_eq_true.mp (Bool.and_eq_true_iff.mp (Bool.and_eq_true_iff.mp (Bool.and_eq_true_iff.mp (Bool.and_eq_true_iff.mp T.tb).2).2).2).1 _ (List.mem_of_getElem? h))
theorem Env.tnd (T : Env fa fn K mg) : (JF.tfsP.map fun p => He.tabOf K (He.codeOf K p)).Nodup := ndB_ok (Bool.and_eq_true_iff.mp (Bool.and_eq_true_iff.mp (Bool.and_eq_true_iff.mp (Bool.and_eq_true_iff.mp T.tb).2).2).2).2
theorem Env.free (T : Env fa fn K mg) (i : Nat) {x : Str} (h : fa[i]? = some (.free x) := by rfl) : mg x = none := by
  obtain ⟨hp, X, G⟩ := T.ex
  exact He.free_ok X G (T.c.fact i h)
theorem Env.int (T : Env fa fn K mg) (i : Nat) {x : Str} {n : Int} (h : fa[i]? = some (.int x n) := by rfl) : ∃ t, mg x = some (.int n t) := by
  obtain ⟨hp, X, G⟩ := T.ex
  exact He.int_ok X G (T.c.fact i h)
theorem Env.str (T : Env fa fn K mg) (i : Nat) {x z : Str} (h : fa[i]? = some (.str x z) := by rfl) : ∃ t, mg x = some (.str z t) := by
  obtain ⟨hp, X, G⟩ := T.ex
  exact He.str_ok X G (T.c.fact i h)
theorem Env.cls (T : Env fa fn K mg) (i : Nat) {x : Str} (h : fa[i]? = some (.cls x) := by rfl) : Cls K (He.ga K x) := He.cls_ok (T.c.fact i h)
theorem Env.noat (T : Env fa fn K mg) (i : Nat) {x f : Str} (h : fa[i]? = some (.noat x f) := by rfl) : NoAttr K (He.ga K x) f := He.noat_ok (T.c.fact i h)
theorem Env.meth (T : Env fa fn K mg) (i : Nat) {x m : Str} (h : fa[i]? = some (.meth x m) := by rfl) : Meth K (He.ga K x) m (He.ma K (He.ga K x) m) := He.meth_ok (T.c.fact i h)
theorem Env.mkr (T : Env fa fn K mg) (i : Nat) {x : Str} (h : fa[i]? = some (.mkr x) := by rfl) : Mk K (He.ga K x) (He.ma K (He.ga K x) "__init__") := He.mkr_ok (T.c.fact i h)
end

/-! ### a def that keeps its promise, by its place -/
/-- the def's datum stands there -/
def FdAt (K : PySem.W.Frag) (p : Str × Option Str) (fd : FuncData) : Prop := ∃ oc od osl, K.lookup (He.fAd K p) = some ⟨oc, od, .func fd, osl⟩
theorem FdAt.eq {K : PySem.W.Frag} {p : Str × Option Str} {fd fd' : FuncData} (h : FdAt K p fd) (h' : FdAt K p fd') : fd = fd' := by
  obtain ⟨a, b, c, e⟩ := h
  obtain ⟨a', b', c', e'⟩ := h'
  rw [e] at e'
  cases e'
  rfl
theorem fdAt_of {K : PySem.W.Frag} {x qual : Str} {params : Arguments} {body : List Stmt} {scope : Scope} {dvs : List V} {kws : List (Str × V)} {p : Str × Option Str} {fd : FuncData} (F : FunD K x qual params body scope dvs kws (He.fAd K p) fd) : FdAt K p fd := by
  obtain ⟨oc, od, dV, kV, doc, pm, an, cdv, ct, osl, e, lk, hcd, _, _⟩ := F.ex
  exact ⟨oc, od, osl, lk⟩
def Good (P : Program) (w : World) (K : PySem.W.Frag) (mg : Str → Option Value) (base : Heap) (CX : CXT) (k : Nat) (p : Str × Option Str) (ps : List Str) (sp : Sp) : Prop :=
  ∃ fd, FnOk P w K mg base CX k (He.fAd K p) fd ps sp ∧ Binds K fd ps [] ∧ PySem.W.keepIn K (.ref (He.fAd K p)) = true ∧ FdAt K p fd
section
variable {P : Program} {w : World} {K : PySem.W.Frag} {mg : Str → Option Value} {base : Heap} {fa : List He.Fa} {fn : List He.DefD}
theorem Good.mono {CX : CXT} {j k : Nat} {p : Str × Option Str} {ps : List Str} {sp : Sp} (G : Good P w K mg base CX j p ps sp) (h : j ≤ k) : Good P w K mg base CX k p ps sp := by
  obtain ⟨fd, F, b, kp, lk⟩ := G
  exact ⟨fd, F.mono h, b, kp, lk⟩
theorem Good.imp {CX : CXT} {k : Nat} {p : Str × Option Str} {ps : List Str} {sp sp' : Sp} (G : Good P w K mg base CX k p ps sp) (h : ∀ vs H Q E, sp' vs H Q E → sp vs H Q E) : Good P w K mg base CX k p ps sp' := by
  obtain ⟨fd, F, b, kp, lk⟩ := G
  exact ⟨fd, F.imp h, b, kp, lk⟩
/-- THE RULE of a def: nothing leaves it but by return -/
theorem good_mk (T : Env fa fn K mg) (i : Nat) {d : He.DefD} {k : Nat} {N ps : List Str} {sp : Sp} {x qual : Str} {st : Stmt} {at_ : Str × Option Str} (hi : fn[i]? = some d) (hd : d = ⟨at_, x, qual, defArgs st, defBody st, defScope st, [], []⟩) (S : FnScope N ps (defScope st))
    (hb : ∀ (kV doc pm : Value) (an : Option Addr) (cdv ct : Value) (us : List Value), us.length = ps.length → bindArgs (PySem.W.fnOf x qual (defArgs st) (defBody st) (defScope st) .none kV doc pm an cdv ct) ⟨us, []⟩ = pure (ps.zip us))
    (len : ∀ vs H Q E, sp vs H Q E → vs.length = ps.length)
    (hbody : ∀ (f : Addr) (cdv : Value) (A : Around) (outer : List PySem.Env) (s : Shared) (H : Hp) (vs : List V) (Q : VK) (E : XK), Room k (A.deeper (envOfC qual (defScope st) s.heap.objs.size f cdv)) → sp vs H Q E →
      ∃ t, PSs (cxOf CX0 P w K mg base N qual (defScope st) f cdv A outer s H E).nox (defBody st) t ∧ t { nx := fun _ H' => Q .non H', rt := Q } (start N vs) H) : Good P w K mg base CX0 (k + 1) at_ ps sp := by
  subst hd
  obtain ⟨fd, F⟩ := T.c.def_ i hi
  refine ⟨fd, ?_, FunD.bindsN F hb, F.kp, fdAt_of F⟩
  refine FunD.ok F S len fun cdv A outer s H vs Q E hr h => ?_
  obtain ⟨t, h1, h2⟩ := hbody _ cdv A outer s H vs Q E hr h
  exact ⟨t, h1.nox, h2⟩
end

/-! ### calls -/
section
variable {X : Cx} {k : Nat} {x m : Str} {ps : List Str} {sp : Sp} {p pos apos : Pos} {e o : Expr} {es : List Expr} {ta : TE} {t : TA} {C : Addr}
theorem pe_cg (G : Good X.prog X.w X.K X.mg X.base CX0 k (x, none) ps sp) (hr : Room k X.A) (hm : X.mg x = some (.ref (He.ga X.K x))) (ha : PA X (e :: es) t) (hg : Gl X x := by rfl)
    (hdb : (x == ("__debug__" : Str)) = false := by decide) (he : starEach (e :: es) X.env = (false, eval e X.env) :: starEach es X.env := by rfl) (hpl : (backTo pos (starEach es X.env)).any (·.1) = false := by rfl) :
    PE X (.Call (.Name x p) (e :: es) [] pos) (tCall sp [] E0 t) := by
  obtain ⟨fd, F, b, kp, lk⟩ := G
  exact pe_call F hr hg hm kp b .nil pass0 ha hdb he hpl
theorem pe_cg0 (G : Good X.prog X.w X.K X.mg X.base CX0 k (x, none) ps sp) (hr : Room k X.A) (hm : X.mg x = some (.ref (He.ga X.K x))) (hg : Gl X x := by rfl) (hdb : (x == ("__debug__" : Str)) = false := by decide) :
    PE X (.Call (.Name x p) [] [] pos) (tCall sp [] E0 tNil) := by
  obtain ⟨fd, F, b, kp, lk⟩ := G
  exact pe_call0 F hr hg hm kp b .nil pass0 hdb
theorem pe_mg {cn : Str} {pl : Sem Bool} (he : PE X o ta) (c : Cls X.K (He.ga X.K cn)) (hm : Meth X.K (He.ga X.K cn) m (He.ma X.K (He.ga X.K cn) m)) (G : Good X.prog X.w X.K X.mg X.base CX0 k (cn, some m) ps sp) (hr : Room k X.A) (ha : PA X (e :: es) t)
    (hst : starEach (e :: es) X.env = (false, eval e X.env) :: starEach es X.env := by rfl) (hpl : (backTo pos (starEach es X.env)).any (·.1) = false := by rfl)
    (ht : eval (.Call (.Attribute o m apos) (e :: es) [] pos) X.env = (do
      let ov ← eval o X.env
      standAt apos.atName
      let (f, first) ← holding [ov] (getMethod ov m pl)
      callWith pos f first (backTo pos (starEach (e :: es) X.env)) (backToKw pos (keywordEach [] X.env))) := by rfl) :
    PE X (.Call (.Attribute o m apos) (e :: es) [] pos) (tMeth (He.ga X.K cn) m sp [] E0 ta t) := by
  obtain ⟨fd, F, b, kp, lk⟩ := G
  exact pe_meth he c hm F hr b .nil pass0 ha hst hpl ht
theorem pe_mg0 {cn : Str} {pl : Sem Bool} (he : PE X o ta) (c : Cls X.K (He.ga X.K cn)) (hm : Meth X.K (He.ga X.K cn) m (He.ma X.K (He.ga X.K cn) m)) (G : Good X.prog X.w X.K X.mg X.base CX0 k (cn, some m) ps sp) (hr : Room k X.A)
    (ht : eval (.Call (.Attribute o m apos) [] [] pos) X.env = (do
      let ov ← eval o X.env
      standAt apos.atName
      let (f, first) ← holding [ov] (getMethod ov m pl)
      callWith pos f first (backTo pos (starEach [] X.env)) (backToKw pos (keywordEach [] X.env))) := by rfl) :
    PE X (.Call (.Attribute o m apos) [] [] pos) (tMeth (He.ga X.K cn) m sp [] E0 ta tNil) := by
  obtain ⟨fd, F, b, kp, lk⟩ := G
  exact pe_meth0 he c hm F hr b .nil pass0 ht
theorem pe_mk0 (M : Mk X.K (He.ga X.K x) (He.ma X.K (He.ga X.K x) "__init__")) (G : Good X.prog X.w X.K X.mg X.base CX0 k (x, some "__init__") ps sp) (hr : Room (k + 1) X.A) (hm : X.mg x = some (.ref (He.ga X.K x))) (hg : Gl X x := by rfl)
    (hdb : (x == ("__debug__" : Str)) = false := by decide) : PE X (.Call (.Name x p) [] [] pos) (tMake (He.ga X.K x) sp [] E0 tNil) := by
  obtain ⟨fd, F, b, kp, lk⟩ := G
  exact pe_make0 M F hr hg hm b .nil pass0 hdb
theorem pe_gint {i : Int} (h : ∃ t, X.mg x = some (.int i t)) (hg : Gl X x) (hd : (x == ("__debug__" : Str)) = false := by decide) : PE X (.Name x pos) (tC (.int i)) := by
  obtain ⟨t, e⟩ := h
  exact pe_glob hg e ⟨_, rfl⟩ hd
theorem pe_gstr {z : Str} (h : ∃ t, X.mg x = some (.str z t)) (hg : Gl X x) (hd : (x == ("__debug__" : Str)) = false := by decide) : PE X (.Name x pos) (tC (.str z)) := by
  obtain ⟨t, e⟩ := h
  exact pe_glob hg e ⟨_, rfl⟩ hd
theorem pe_gref (h : X.mg x = some (.ref (He.ga X.K x))) (hg : Gl X x) (hd : (x == ("__debug__" : Str)) = false := by decide) : PE X (.Name x pos) (tC (.ref (He.ga X.K x))) :=
  pe_glob hg h rfl hd
theorem pe_mk0K (K : PySem.W.Frag) (hK : X.K = K) (M : Mk K (He.ga K x) (He.ma K (He.ga K x) "__init__")) (G : Good X.prog X.w K X.mg X.base CX0 k (x, some "__init__") ps sp) (hr : Room (k + 1) X.A) (hm : X.mg x = some (.ref (He.ga K x))) (hg : Gl X x := by rfl)
    (hdb : (x == ("__debug__" : Str)) = false := by decide) : PE X (.Call (.Name x p) [] [] pos) (tMake (He.ga K x) sp [] E0 tNil) := by subst hK; exact pe_mk0 M G hr hm hg hdb
theorem pe_mkgK (K : PySem.W.Frag) (hK : X.K = K) (M : Mk K (He.ga K x) (He.ma K (He.ga K x) "__init__")) (G : Good X.prog X.w K X.mg X.base CX0 k (x, some "__init__") ps sp) (hr : Room (k + 1) X.A) (hm : X.mg x = some (.ref (He.ga K x))) (ha : PA X (e :: es) t) (hg : Gl X x := by rfl)
    (hdb : (x == ("__debug__" : Str)) = false := by decide) (hst : starEach (e :: es) X.env = (false, eval e X.env) :: starEach es X.env := by rfl) (hpl : (backTo pos (starEach es X.env)).any (·.1) = false := by rfl) : PE X (.Call (.Name x p) (e :: es) [] pos) (tMake (He.ga K x) sp [] E0 t) := by
  subst hK
  obtain ⟨fd, F, b, kp, lk⟩ := G
  exact pe_make M F hr hg hm b .nil pass0 ha hdb hst hpl
/-- one of two readings -/
theorem pe_or {t1 t2 : TE} (h1 : PE X e t1) (h2 : PE X e t2) : PE X e (fun σ H Q => t1 σ H Q ∨ t2 σ H Q) := ⟨fun pins s σ H Q I h => h.elim (h1.run pins s σ H Q I) (h2.run pins s σ H Q I)⟩
/-! the written part said outright (in a comprehension's block it is another word for the same) -/
variable {K : PySem.W.Frag} {f : Str} {a b i : Expr} {tb : TE}
theorem pe_fldK (K : PySem.W.Frag) (hK : X.K = K) (he : PE X e ta) (hb : attributeBase e f X.env (eval e X.env) = eval e X.env) : PE X (.Attribute e f pos) (tFld K ta f) := by subst hK; exact pe_fld he hb
theorem ix_listK (K : PySem.W.Frag) (hK : X.K = K) : IxR X (rIxL K) := by subst hK; exact ix_list
theorem ix_tupK (K : PySem.W.Frag) (hK : X.K = K) : IxR X (rIxT K) := by subst hK; exact ix_tup
theorem sl_listK (K : PySem.W.Frag) (hK : X.K = K) : SlR X (rSlL K) := by subst hK; exact sl_list
theorem sl_tupK (K : PySem.W.Frag) (hK : X.K = K) : SlR X (rSlT K) := by subst hK; exact sl_tup
theorem op_inK (K : PySem.W.Frag) (hK : X.K = K) : OpR X (compareOp .In) (rIn K false) := by subst hK; exact op_in_seq
theorem op_notInK (K : PySem.W.Frag) (hK : X.K = K) : OpR X (compareOp .NotIn) (rIn K true) := by subst hK; exact op_notIn_seq
theorem op_eqDK (K : PySem.W.Frag) (hK : X.K = K) (hu : X.A.units + 64 < cLine) : OpR X (compareOp .Eq) (rEqD K) := by subst hK; exact op_eqD hu
theorem op_neDK (K : PySem.W.Frag) (hK : X.K = K) (hu : X.A.units + 64 < cLine) : OpR X (compareOp .NotEq) (rNeD K) := by subst hK; exact op_neD hu
theorem op_catTK (K : PySem.W.Frag) (hK : X.K = K) : OpR X (binaryOp .Add) (rCatT K) := by subst hK; exact op_catT
theorem call_isiK (K : PySem.W.Frag) (hK : X.K = K) : CallR X (.builtin "isinstance") (rIsi K) := by subst hK; exact call_isi
def rLenS (K : PySem.W.Frag) : List V → Hp → VK → Prop := fun xs H Q => ∃ p ys, xs = [.ref p] ∧ (SqL K H p ys ∨ SqT K H p ys) ∧ Q (.int ys.length) H
theorem call_lenK (K : PySem.W.Frag) (hK : X.K = K) : CallR X (.builtin "len") (rLenS K) := by subst hK; exact call_len_seq
def rListOf (K : PySem.W.Frag) : List V → Hp → VK → Prop := fun xs H Q => ∃ p ys, xs = [.ref p] ∧ (SqL K H p ys ∨ SqT K H p ys) ∧ ∀ l, H l = none → Q (.ref l) (upd H l (.lst ys))
theorem call_listK (K : PySem.W.Frag) (hK : X.K = K) : CallR X (.type "list") (rListOf K) := by subst hK; exact call_list_of
theorem cr_sumK (K : PySem.W.Frag) (hK : X.K = K) (hc : X.calm = true) : CallR X (.builtin "sum") (rSum K) := by subst hK; exact cr_sum hc
theorem cr_maxK (K : PySem.W.Frag) (hK : X.K = K) (hc : X.calm = true) : CallR X (.builtin "max") (rMax K) := by subst hK; exact cr_max hc
theorem cr_minK (K : PySem.W.Frag) (hK : X.K = K) (hc : X.calm = true) : CallR X (.builtin "min") (rMin K) := by subst hK; exact cr_min hc
theorem pi_listK (K : PySem.W.Frag) (hK : X.K = K) {tg l : Expr} {tl : TE} (hl : PE X l tl) : PI X tg l (iList K tl) := by subst hK; exact pi_list hl
theorem pi_tupK (K : PySem.W.Frag) (hK : X.K = K) {tg l : Expr} {tl : TE} (hl : PE X l tl) : PI X tg l (iTup K tl) := by subst hK; exact pi_tup hl
theorem pe_mgK (K : PySem.W.Frag) (hK : X.K = K) {cn : Str} {pl : Sem Bool} (he : PE X o ta) (c : Cls K (He.ga K cn)) (hm : Meth K (He.ga K cn) m (He.ma K (He.ga K cn) m)) (G : Good X.prog X.w K X.mg X.base CX0 k (cn, some m) ps sp) (hr : Room k X.A) (ha : PA X (e :: es) t)
    (hst : starEach (e :: es) X.env = (false, eval e X.env) :: starEach es X.env := by rfl) (hpl : (backTo pos (starEach es X.env)).any (·.1) = false := by rfl)
    (ht : eval (.Call (.Attribute o m apos) (e :: es) [] pos) X.env = (do
      let ov ← eval o X.env
      standAt apos.atName
      let (f, first) ← holding [ov] (getMethod ov m pl)
      callWith pos f first (backTo pos (starEach (e :: es) X.env)) (backToKw pos (keywordEach [] X.env))) := by rfl) :
    PE X (.Call (.Attribute o m apos) (e :: es) [] pos) (tMeth (He.ga K cn) m sp [] E0 ta t) := by subst hK; exact pe_mg he c hm G hr ha hst hpl ht
theorem pe_mg0K (K : PySem.W.Frag) (hK : X.K = K) {cn : Str} {pl : Sem Bool} (he : PE X o ta) (c : Cls K (He.ga K cn)) (hm : Meth K (He.ga K cn) m (He.ma K (He.ga K cn) m)) (G : Good X.prog X.w K X.mg X.base CX0 k (cn, some m) ps sp) (hr : Room k X.A)
    (ht : eval (.Call (.Attribute o m apos) [] [] pos) X.env = (do
      let ov ← eval o X.env
      standAt apos.atName
      let (f, first) ← holding [ov] (getMethod ov m pl)
      callWith pos f first (backTo pos (starEach [] X.env)) (backToKw pos (keywordEach [] X.env))) := by rfl) :
    PE X (.Call (.Attribute o m apos) [] [] pos) (tMeth (He.ga K cn) m sp [] E0 ta tNil) := by subst hK; exact pe_mg0 he c hm G hr ht
theorem pe_cgK (K : PySem.W.Frag) (hK : X.K = K) (G : Good X.prog X.w K X.mg X.base CX0 k (x, none) ps sp) (hr : Room k X.A) (hm : X.mg x = some (.ref (He.ga K x))) (ha : PA X (e :: es) t) (hg : Gl X x := by rfl)
    (hdb : (x == ("__debug__" : Str)) = false := by decide) (he : starEach (e :: es) X.env = (false, eval e X.env) :: starEach es X.env := by rfl) (hpl : (backTo pos (starEach es X.env)).any (·.1) = false := by rfl) :
    PE X (.Call (.Name x p) (e :: es) [] pos) (tCall sp [] E0 t) := by subst hK; exact pe_cg G hr hm ha hg hdb he hpl
theorem pe_grefK (K : PySem.W.Frag) (hK : X.K = K) (h : X.mg x = some (.ref (He.ga K x))) (hg : Gl X x) (hd : (x == ("__debug__" : Str)) = false := by decide) : PE X (.Name x pos) (tC (.ref (He.ga K x))) := by subst hK; exact pe_gref h hg hd
end
end JF

/-! ### squares as trees: the mathematics of a grove, no program in sight -/
namespace JF
open PySem PySem.Spec PyProof.Rows L2

inductive Sq where
  | leaf (s : Int)
  | node (a b c d : Sq)
  deriving DecidableEq
abbrev Box := Int × Int × Int × Int
def rb : Option Box → Box → Box
  | none, o => o
  | some b, o => (min b.1 o.1, min b.2.1 o.2.1, max (b.1 + b.2.2.1) (o.1 + o.2.2.1) - min b.1 o.1, max (b.2.1 + b.2.2.2) (o.2.1 + o.2.2.2) - min b.2.1 o.2.1)
def r4step (half : Int) (at_ : Int) (f : Option Box) : Option Box → Option Box
  | none => f
  | some b => some (rb f (b.1 + half * (at_ % 2), b.2.1 + half * (at_ / 2), b.2.2.1, b.2.2.2))
def r4 (half : Int) (a b c d : Option Box) : Option Box := r4step half 3 (r4step half 2 (r4step half 1 (r4step half 0 none a) b) c) d
namespace Sq
def level : Sq → Nat
  | leaf _ => 0
  | node a _ _ _ => a.level + 1
def lives : Sq → Int
  | leaf s => if s = 0 then 0 else 1
  | node a b c d => a.lives + b.lives + c.lives + d.lives
def span : Sq → Option Box
  | leaf s => if s = 0 then none else some (0, 0, 1, 1)
  | node a b c d => r4 (2 ^ a.level : Int) a.span b.span c.span d.span
def wf : Sq → Prop
  | leaf s => 0 ≤ s ∧ s ≤ 7
  | node a b c d => a.wf ∧ b.wf ∧ c.wf ∧ d.wf ∧ b.level = a.level ∧ c.level = a.level ∧ d.level = a.level
def even : Nat → Int → Sq
  | 0, s => leaf s
  | k + 1, s => node (even k s) (even k s) (even k s) (even k s)
theorem level_even (k : Nat) (s : Int) : (even k s).level = k := by
  induction k with
  | zero => rfl
  | succ k ih => show (even k s).level + 1 = k + 1; rw [ih]
theorem wf_even {s : Int} (h0 : 0 ≤ s) (h1 : s ≤ 7) (k : Nat) : (even k s).wf := by
  induction k with
  | zero => exact ⟨h0, h1⟩
  | succ k ih => exact ⟨ih, ih, ih, ih, rfl, rfl, rfl⟩
theorem lives_nonneg : ∀ S : Sq, 0 ≤ S.lives
  | leaf s => by unfold lives; split <;> omega
  | node a b c d => by
    have h1 := lives_nonneg a; have h2 := lives_nonneg b; have h3 := lives_nonneg c; have h4 := lives_nonneg d
    unfold lives; omega
end Sq

/-! ### the dict of a grove: what was made, by numbers -/
def kvsOf : List (List Int) → Nat → List (List Key × V)
  | [], _ => []
  | m :: r, i => (m.map Sum.inl, V.int (i : Int)) :: kvsOf r (i + 1)
def lookI : List (List Int) → List Int → Nat → Option Nat
  | [], _, _ => none
  | m :: r, k, i => if m = k then some i else lookI r k (i + 1)
theorem inl_inj : ∀ {a b : List Int}, a.map (Sum.inl : Int → Key) = b.map Sum.inl → a = b
  | [], [], _ => rfl
  | [], _ :: _, h => by cases h
  | _ :: _, [], h => by cases h
  | x :: a, y :: b, h => by
    simp only [List.map_cons, List.cons.injEq, Sum.inl.injEq] at h
    rw [h.1, inl_inj h.2]
theorem kvsOf_len : ∀ (mk : List (List Int)) (i : Nat), (kvsOf mk i).length = mk.length
  | [], _ => rfl
  | _ :: r, i => by show (kvsOf r (i + 1)).length + 1 = r.length + 1; rw [kvsOf_len r]
theorem kvsOf_app : ∀ (mk : List (List Int)) (m : List Int) (i : Nat), kvsOf (mk ++ [m]) i = kvsOf mk i ++ [(m.map Sum.inl, V.int ((i + mk.length : Nat) : Int))]
  | [], m, i => rfl
  | x :: r, m, i => by
    show _ :: kvsOf (r ++ [m]) (i + 1) = _ :: (kvsOf r (i + 1) ++ _)
    rw [kvsOf_app r m (i + 1)]
    have e : i + 1 + r.length = i + (x :: r).length := by simp; omega
    rw [e]
theorem valV_kvsOf : ∀ (mk : List (List Int)) (k : List Int) (i : Nat), valV (kvsOf mk i) (k.map Sum.inl) = (lookI mk k i).map fun n : Nat => V.int (n : Int)
  | [], _, _ => rfl
  | m :: r, k, i => by
    by_cases h : m = k
    · subst h
      simp [kvsOf, lookI, valV]
    · have h' : ¬ (m.map (Sum.inl : Int → Key) = k.map Sum.inl) := fun e => h (inl_inj e)
      have ih := valV_kvsOf r k (i + 1)
      simp only [kvsOf, lookI, valV, List.find?_cons, h, h', decide_false, if_false] at ih ⊢
      exact ih
theorem lookI_some : ∀ {mk : List (List Int)} {k : List Int} {i n : Nat}, lookI mk k i = some n → i ≤ n ∧ mk[n - i]? = some k
  | [], _, _, _, h => by cases h
  | m :: r, k, i, n, h => by
    by_cases e : m = k
    · simp only [lookI, e, if_true, Option.some.injEq] at h
      subst h
      simp [e]
    · simp only [lookI, e, if_false] at h
      obtain ⟨h1, h2⟩ := lookI_some h
      refine ⟨by omega, ?_⟩
      have e2 : n - i = (n - (i + 1)) + 1 := by omega
      rw [e2, List.getElem?_cons_succ]
      exact h2
theorem lookI_none : ∀ {mk : List (List Int)} {k : List Int} {i : Nat}, lookI mk k i = none → k ∉ mk
  | [], _, _, _ => by simp
  | m :: r, k, i, h => by
    by_cases e : m = k
    · simp [lookI, e] at h
    · simp only [lookI, e, if_false] at h
      have := lookI_none h
      simp only [List.mem_cons, not_or]
      exact ⟨fun z => e z.symm, this⟩

/-- what a square is made of, by the numbers of its quarters -/
def Made (q : List Sq) : Sq → List Int → Prop
  | .leaf s, m => m = [s]
  | .node A B C D, m => ∃ a b c d : Nat, m = [(a : Int), (b : Int), (c : Int), (d : Int)] ∧ q[a]? = some A ∧ q[b]? = some B ∧ q[c]? = some C ∧ q[d]? = some D
theorem getElem?_app {α : Type} {q : List α} {i : Nat} {x : α} (h : q[i]? = some x) (t : List α) : (q ++ t)[i]? = some x := by
  rw [List.getElem?_append_left (List.getElem?_eq_some_iff.mp h).1]
  exact h
theorem Made.app {q : List Sq} {S : Sq} {m : List Int} (h : Made q S m) (t : List Sq) : Made (q ++ t) S m := by
  cases S with
  | leaf s => exact h
  | node A B C D =>
    obtain ⟨a, b, c, d, e, h1, h2, h3, h4⟩ := h
    exact ⟨a, b, c, d, e, getElem?_app h1 t, getElem?_app h2 t, getElem?_app h3 t, getElem?_app h4 t⟩
theorem nodup_at {q : List Sq} (hq : q.Nodup) {i j : Nat} {S : Sq} (a : q[i]? = some S) (b : q[j]? = some S) : i = j := by
  obtain ⟨h1, e1⟩ := List.getElem?_eq_some_iff.mp a
  obtain ⟨h2, e2⟩ := List.getElem?_eq_some_iff.mp b
  exact (List.getElem_inj hq).mp (e1.trans e2.symm)
theorem made_inj {q : List Sq} (hq : q.Nodup) {S : Sq} {m m' : List Int} (a : Made q S m) (b : Made q S m') : m = m' := by
  cases S with
  | leaf s => exact (show m = [s] from a).trans (show m' = [s] from b).symm
  | node A B C D =>
    obtain ⟨a1, b1, c1, d1, rfl, h1, h2, h3, h4⟩ := a
    obtain ⟨a2, b2, c2, d2, rfl, k1, k2, k3, k4⟩ := b
    rw [nodup_at hq h1 k1, nodup_at hq h2 k2, nodup_at hq h3 k3, nodup_at hq h4 k4]
theorem made_same {q : List Sq} {S S' : Sq} {m : List Int} (a : Made q S m) (b : Made q S' m) : S = S' := by
  cases S with
  | leaf s =>
    cases S' with
    | leaf s' =>
      have e : [s] = [s'] := (show m = [s] from a).symm.trans (show m = [s'] from b)
      simp only [List.cons.injEq, and_true] at e
      rw [e]
    | node A B C D =>
      obtain ⟨a2, b2, c2, d2, e, _⟩ := b
      have e1 : m = [s] := a
      rw [e1] at e
      simp at e
  | node A B C D =>
    obtain ⟨a1, b1, c1, d1, e1, h1, h2, h3, h4⟩ := a
    cases S' with
    | leaf s' =>
      have e2 : m = [s'] := b
      rw [e1] at e2
      simp at e2
    | node A' B' C' D' =>
      obtain ⟨a2, b2, c2, d2, e2, k1, k2, k3, k4⟩ := b
      rw [e1] at e2
      simp only [List.cons.injEq, Int.ofNat_inj, and_true] at e2
      obtain ⟨rfl, rfl, rfl, rfl⟩ := e2
      rw [h1] at k1; rw [h2] at k2; rw [h3] at k3; rw [h4] at k4
      cases k1; cases k2; cases k3; cases k4
      rfl
end JF

namespace JF
open PySem PySem.Spec PyProof.Rows L2
def top (i : Nat) : Stmt := PySem.Challenge.pw_jumpfield_k06_no_rule.main.body.getD i (.Pass ⟨0, 0, 0, 0⟩)
abbrev st_x_wall : Stmt := top 0
theorem sc_x_wall : FnScope ["k"] ["k"] (defScope st_x_wall) := ⟨rfl, rfl, rfl, by decide +kernel, rfl, by decide +kernel, by decide +kernel⟩
def d_x_wall : He.DefD := ⟨("_wall", none), "_wall", "_wall", defArgs (top 0), defBody (top 0), defScope (top 0), [], []⟩
abbrev st_Condition_holds : Stmt := inClass (top 2) 0
theorem sc_Condition_holds : FnScope ["self", "around"] ["self", "around"] (defScope st_Condition_holds) := ⟨rfl, rfl, rfl, by decide +kernel, rfl, by decide +kernel, by decide +kernel⟩
def d_Condition_holds : He.DefD := ⟨("Condition", some "holds"), "holds", "Condition.holds", defArgs (inClass (top 2) 0), defBody (inClass (top 2) 0), defScope (inClass (top 2) 0), [], []⟩
abbrev st_Condition_reordered : Stmt := inClass (top 2) 1
theorem sc_Condition_reordered : FnScope ["self", "order"] ["self", "order"] (defScope st_Condition_reordered) := ⟨rfl, rfl, rfl, by decide +kernel, rfl, by decide +kernel, by decide +kernel⟩
def d_Condition_reordered : He.DefD := ⟨("Condition", some "reordered"), "reordered", "Condition.reordered", defArgs (inClass (top 2) 1), defBody (inClass (top 2) 1), defScope (inClass (top 2) 1), [], []⟩
abbrev st_Condition_written : Stmt := inClass (top 2) 2
theorem sc_Condition_written : FnScope ["self"] ["self"] (defScope st_Condition_written) := ⟨rfl, rfl, rfl, by decide +kernel, rfl, by decide +kernel, by decide +kernel⟩
def d_Condition_written : He.DefD := ⟨("Condition", some "written"), "written", "Condition.written", defArgs (inClass (top 2) 2), defBody (inClass (top 2) 2), defScope (inClass (top 2) 2), [], []⟩
abbrev st_Amount_init : Stmt := inClass (top 3) 0
theorem sc_Amount_init : FnScope ["self", "state", "numbers"] ["self", "state", "numbers"] (defScope st_Amount_init) := ⟨rfl, rfl, rfl, by decide +kernel, rfl, by decide +kernel, by decide +kernel⟩
def d_Amount_init : He.DefD := ⟨("Amount", some "__init__"), "__init__", "Amount.__init__", defArgs (inClass (top 3) 0), defBody (inClass (top 3) 0), defScope (inClass (top 3) 0), [], []⟩
abbrev st_Amount_holds : Stmt := inClass (top 3) 1
theorem sc_Amount_holds : FnScope ["self", "around"] ["self", "around"] (defScope st_Amount_holds) := ⟨rfl, rfl, rfl, by decide +kernel, rfl, by decide +kernel, by decide +kernel⟩
def d_Amount_holds : He.DefD := ⟨("Amount", some "holds"), "holds", "Amount.holds", defArgs (inClass (top 3) 1), defBody (inClass (top 3) 1), defScope (inClass (top 3) 1), [], []⟩
abbrev st_Amount_written : Stmt := inClass (top 3) 2
theorem sc_Amount_written : FnScope ["self", "number"] ["self"] (defScope st_Amount_written) := ⟨rfl, rfl, rfl, by decide +kernel, rfl, by decide +kernel, by decide +kernel⟩
def d_Amount_written : He.DefD := ⟨("Amount", some "written"), "written", "Amount.written", defArgs (inClass (top 3) 2), defBody (inClass (top 3) 2), defScope (inClass (top 3) 2), [], []⟩
abbrev st_Places_init : Stmt := inClass (top 4) 0
theorem sc_Places_init : FnScope ["self", "wanted"] ["self", "wanted"] (defScope st_Places_init) := ⟨rfl, rfl, rfl, by decide +kernel, rfl, by decide +kernel, by decide +kernel⟩
def d_Places_init : He.DefD := ⟨("Places", some "__init__"), "__init__", "Places.__init__", defArgs (inClass (top 4) 0), defBody (inClass (top 4) 0), defScope (inClass (top 4) 0), [], []⟩
abbrev st_Places_holds : Stmt := inClass (top 4) 1
theorem sc_Places_holds : FnScope ["self", "around", "wish", "state"] ["self", "around"] (defScope st_Places_holds) := ⟨rfl, rfl, rfl, by decide +kernel, rfl, by decide +kernel, by decide +kernel⟩
def d_Places_holds : He.DefD := ⟨("Places", some "holds"), "holds", "Places.holds", defArgs (inClass (top 4) 1), defBody (inClass (top 4) 1), defScope (inClass (top 4) 1), [], []⟩
abbrev st_Places_reordered : Stmt := inClass (top 4) 2
theorem sc_Places_reordered : FnScope ["self", "order"] ["self", "order"] (defScope st_Places_reordered) := ⟨rfl, rfl, rfl, by decide +kernel, rfl, by decide +kernel, by decide +kernel⟩
def d_Places_reordered : He.DefD := ⟨("Places", some "reordered"), "reordered", "Places.reordered", defArgs (inClass (top 4) 2), defBody (inClass (top 4) 2), defScope (inClass (top 4) 2), [], []⟩
abbrev st_Places_written : Stmt := inClass (top 4) 3
theorem sc_Places_written : FnScope ["self", "wish"] ["self"] (defScope st_Places_written) := ⟨rfl, rfl, rfl, by decide +kernel, rfl, by decide +kernel, by decide +kernel⟩
def d_Places_written : He.DefD := ⟨("Places", some "written"), "written", "Places.written", defArgs (inClass (top 4) 3), defBody (inClass (top 4) 3), defScope (inClass (top 4) 3), [], []⟩
abbrev st_Clause_init : Stmt := inClass (top 5) 0
theorem sc_Clause_init : FnScope ["self", "taken", "conditions", "made"] ["self", "taken", "conditions", "made"] (defScope st_Clause_init) := ⟨rfl, rfl, rfl, by decide +kernel, rfl, by decide +kernel, by decide +kernel⟩
def d_Clause_init : He.DefD := ⟨("Clause", some "__init__"), "__init__", "Clause.__init__", defArgs (inClass (top 5) 0), defBody (inClass (top 5) 0), defScope (inClass (top 5) 0), [], []⟩
abbrev st_Clause_fits : Stmt := inClass (top 5) 1
theorem sc_Clause_fits : FnScope ["self", "cell", "around", "condition"] ["self", "cell", "around"] (defScope st_Clause_fits) := ⟨rfl, rfl, rfl, by decide +kernel, rfl, by decide +kernel, by decide +kernel⟩
def d_Clause_fits : He.DefD := ⟨("Clause", some "fits"), "fits", "Clause.fits", defArgs (inClass (top 5) 1), defBody (inClass (top 5) 1), defScope (inClass (top 5) 1), [], []⟩
abbrev st_Clause_reordered : Stmt := inClass (top 5) 2
theorem sc_Clause_reordered : FnScope ["self", "order"] ["self", "order"] (defScope st_Clause_reordered) := ⟨rfl, rfl, rfl, by decide +kernel, rfl, by decide +kernel, by decide +kernel⟩
def d_Clause_reordered : He.DefD := ⟨("Clause", some "reordered"), "reordered", "Clause.reordered", defArgs (inClass (top 5) 2), defBody (inClass (top 5) 2), defScope (inClass (top 5) 2), [], []⟩
abbrev st_Clause_written : Stmt := inClass (top 5) 3
theorem sc_Clause_written : FnScope ["self", "words", "condition"] ["self"] (defScope st_Clause_written) := ⟨rfl, rfl, rfl, by decide +kernel, rfl, by decide +kernel, by decide +kernel⟩
def d_Clause_written : He.DefD := ⟨("Clause", some "written"), "written", "Clause.written", defArgs (inClass (top 5) 3), defBody (inClass (top 5) 3), defScope (inClass (top 5) 3), [], []⟩
abbrev st_written_state : Stmt := top 6
theorem sc_written_state : FnScope ["state"] ["state"] (defScope st_written_state) := ⟨rfl, rfl, rfl, by decide +kernel, rfl, by decide +kernel, by decide +kernel⟩
def d_written_state : He.DefD := ⟨("written_state", none), "written_state", "written_state", defArgs (top 6), defBody (top 6), defScope (top 6), [], []⟩
abbrev st_Rule_init : Stmt := inClass (top 25) 0
theorem sc_Rule_init : FnScope ["self", "clauses"] ["self", "clauses"] (defScope st_Rule_init) := ⟨rfl, rfl, rfl, by decide +kernel, rfl, by decide +kernel, by decide +kernel⟩
def d_Rule_init : He.DefD := ⟨("Rule", some "__init__"), "__init__", "Rule.__init__", defArgs (inClass (top 25) 0), defBody (inClass (top 25) 0), defScope (inClass (top 25) 0), [], []⟩
abbrev st_deciding : Stmt := top 26
theorem sc_deciding : FnScope ["rule", "cell", "around", "at", "clause"] ["rule", "cell", "around"] (defScope st_deciding) := ⟨rfl, rfl, rfl, by decide +kernel, rfl, by decide +kernel, by decide +kernel⟩
def d_deciding : He.DefD := ⟨("deciding", none), "deciding", "deciding", defArgs (top 26), defBody (top 26), defScope (top 26), [], []⟩
abbrev st_becomes : Stmt := top 27
theorem sc_becomes : FnScope ["rule", "cell", "around", "at"] ["rule", "cell", "around"] (defScope st_becomes) := ⟨rfl, rfl, rfl, by decide +kernel, rfl, by decide +kernel, by decide +kernel⟩
def d_becomes : He.DefD := ⟨("becomes", none), "becomes", "becomes", defArgs (top 27), defBody (top 27), defScope (top 27), [], []⟩
abbrev st_read_state : Stmt := top 28
theorem sc_read_state : FnScope ["word"] ["word"] (defScope st_read_state) := ⟨rfl, rfl, rfl, by decide +kernel, rfl, by decide +kernel, by decide +kernel⟩
def d_read_state : He.DefD := ⟨("read_state", none), "read_state", "read_state", defArgs (top 28), defBody (top 28), defScope (top 28), [], []⟩
abbrev st_read_wish : Stmt := top 29
theorem sc_read_wish : FnScope ["word"] ["word"] (defScope st_read_wish) := ⟨rfl, rfl, rfl, by decide +kernel, rfl, by decide +kernel, by decide +kernel⟩
def d_read_wish : He.DefD := ⟨("read_wish", none), "read_wish", "read_wish", defArgs (top 29), defBody (top 29), defScope (top 29), [], []⟩
abbrev st_read_numbers : Stmt := top 30
theorem sc_read_numbers : FnScope ["word", "numbers", "sign", "number"] ["word"] (defScope st_read_numbers) := ⟨rfl, rfl, rfl, by decide +kernel, rfl, by decide +kernel, by decide +kernel⟩
def d_read_numbers : He.DefD := ⟨("read_numbers", none), "read_numbers", "read_numbers", defArgs (top 30), defBody (top 30), defScope (top 30), [], []⟩
abbrev st_read_condition : Stmt := top 31
theorem sc_read_condition : FnScope ["word", "sign"] ["word"] (defScope st_read_condition) := ⟨rfl, rfl, rfl, by decide +kernel, rfl, by decide +kernel, by decide +kernel⟩
def d_read_condition : He.DefD := ⟨("read_condition", none), "read_condition", "read_condition", defArgs (top 31), defBody (top 31), defScope (top 31), [], []⟩
abbrev st_read_clause : Stmt := top 32
theorem sc_read_clause : FnScope ["part", "words", "conditions", "word"] ["part"] (defScope st_read_clause) := ⟨rfl, rfl, rfl, by decide +kernel, rfl, by decide +kernel, by decide +kernel⟩
def d_read_clause : He.DefD := ⟨("read_clause", none), "read_clause", "read_clause", defArgs (top 32), defBody (top 32), defScope (top 32), [], []⟩
abbrev st_read_rule : Stmt := top 33
theorem sc_read_rule : FnScope ["text", "clauses", "rule", "part"] ["text"] (defScope st_read_rule) := ⟨rfl, rfl, rfl, by decide +kernel, rfl, by decide +kernel, by decide +kernel⟩
def d_read_rule : He.DefD := ⟨("read_rule", none), "read_rule", "read_rule", defArgs (top 33), defBody (top 33), defScope (top 33), [], []⟩
abbrev st_shown_rule : Stmt := top 34
theorem sc_shown_rule : FnScope ["rule", "clause"] ["rule"] (defScope st_shown_rule) := ⟨rfl, rfl, rfl, by decide +kernel, rfl, by decide +kernel, by decide +kernel⟩
def d_shown_rule : He.DefD := ⟨("shown_rule", none), "shown_rule", "shown_rule", defArgs (top 34), defBody (top 34), defScope (top 34), [], []⟩
abbrev st_w_at : Stmt := top 36
theorem sc_w_at : FnScope ["_law_script", "_law_k"] ["_law_script", "_law_k"] (defScope st_w_at) := ⟨rfl, rfl, rfl, by decide +kernel, rfl, by decide +kernel, by decide +kernel⟩
def d_w_at : He.DefD := ⟨("_law_at", none), "_law_at", "_law_at", defArgs (top 36), defBody (top 36), defScope (top 36), [], []⟩
abbrev st_w_mix : Stmt := top 37
theorem sc_w_mix : FnScope ["_law_cell", "_law_k", "_law_value"] ["_law_cell", "_law_k"] (defScope st_w_mix) := ⟨rfl, rfl, rfl, by decide +kernel, rfl, by decide +kernel, by decide +kernel⟩
def d_w_mix : He.DefD := ⟨("_law_mix", none), "_law_mix", "_law_mix", defArgs (top 37), defBody (top 37), defScope (top 37), [], []⟩
abbrev st_w_state_by : Stmt := top 38
theorem sc_w_state_by : FnScope ["_law_mains", "_law_value"] ["_law_mains", "_law_value"] (defScope st_w_state_by) := ⟨rfl, rfl, rfl, by decide +kernel, rfl, by decide +kernel, by decide +kernel⟩
def d_w_state_by : He.DefD := ⟨("_law_state_by", none), "_law_state_by", "_law_state_by", defArgs (top 38), defBody (top 38), defScope (top 38), [], []⟩
abbrev st_w_condition_by : Stmt := top 39
theorem sc_w_condition_by : FnScope ["_law_mains", "_law_seed", "_law_j", "_law_wanted", "_law_k", "_law_value", "_law_mask"] ["_law_mains", "_law_seed", "_law_j"] (defScope st_w_condition_by) := ⟨rfl, rfl, rfl, by decide +kernel, rfl, by decide +kernel, by decide +kernel⟩
def d_w_condition_by : He.DefD := ⟨("_law_condition_by", none), "_law_condition_by", "_law_condition_by", defArgs (top 39), defBody (top 39), defScope (top 39), [], []⟩
abbrev st_w_clause_by : Stmt := top 40
theorem sc_w_clause_by : FnScope ["_law_mains", "_law_seed", "_law_j", "_law_taken", "_law_conditions", "_law_value", "_law_many", "_law_k"] ["_law_mains", "_law_seed", "_law_j"] (defScope st_w_clause_by) := ⟨rfl, rfl, rfl, by decide +kernel, rfl, by decide +kernel, by decide +kernel⟩
def d_w_clause_by : He.DefD := ⟨("_law_clause_by", none), "_law_clause_by", "_law_clause_by", defArgs (top 40), defBody (top 40), defScope (top 40), [], []⟩
abbrev st_w_holds : Stmt := top 41
theorem sc_w_holds : FnScope ["_law_condition", "_law_around", "_law_k", "_law_many", "_law_state"] ["_law_condition", "_law_around"] (defScope st_w_holds) := ⟨rfl, rfl, rfl, by decide +kernel, rfl, by decide +kernel, by decide +kernel⟩
def d_w_holds : He.DefD := ⟨("_law_holds", none), "_law_holds", "_law_holds", defArgs (top 41), defBody (top 41), defScope (top 41), [], []⟩
abbrev st_w_decides : Stmt := top 42
theorem sc_w_decides : FnScope ["_law_clauses", "_law_cell", "_law_around", "_law_at_here", "_law_fits", "_law_condition"] ["_law_clauses", "_law_cell", "_law_around"] (defScope st_w_decides) := ⟨rfl, rfl, rfl, by decide +kernel, rfl, by decide +kernel, by decide +kernel⟩
def d_w_decides : He.DefD := ⟨("_law_decides", none), "_law_decides", "_law_decides", defArgs (top 42), defBody (top 42), defScope (top 42), [], []⟩
abbrev st_w_becomes : Stmt := top 43
theorem sc_w_becomes : FnScope ["_law_clauses", "_law_cell", "_law_around", "_law_at_here"] ["_law_clauses", "_law_cell", "_law_around"] (defScope st_w_becomes) := ⟨rfl, rfl, rfl, by decide +kernel, rfl, by decide +kernel, by decide +kernel⟩
def d_w_becomes : He.DefD := ⟨("_law_becomes", none), "_law_becomes", "_law_becomes", defArgs (top 43), defBody (top 43), defScope (top 43), [], []⟩
abbrev st_w_clauses_by : Stmt := top 44
theorem sc_w_clauses_by : FnScope ["_law_script", "_law_first", "_law_many", "_law_mains", "_law_clauses", "_law_k"] ["_law_script", "_law_first", "_law_many"] (defScope st_w_clauses_by) := ⟨rfl, rfl, rfl, by decide +kernel, rfl, by decide +kernel, by decide +kernel⟩
def d_w_clauses_by : He.DefD := ⟨("_law_clauses_by", none), "_law_clauses_by", "_law_clauses_by", defArgs (top 44), defBody (top 44), defScope (top 44), [], []⟩
abbrev st_w_word : Stmt := top 45
theorem sc_w_word : FnScope ["_law_condition", "_law_state", "_law_k"] ["_law_condition"] (defScope st_w_word) := ⟨rfl, rfl, rfl, by decide +kernel, rfl, by decide +kernel, by decide +kernel⟩
def d_w_word : He.DefD := ⟨("_law_word", none), "_law_word", "_law_word", defArgs (top 45), defBody (top 45), defScope (top 45), [], []⟩
abbrev st_w_text : Stmt := top 46
theorem sc_w_text : FnScope ["_law_clauses", "_law_parts", "_law_clause", "_law_words", "_law_condition"] ["_law_clauses"] (defScope st_w_text) := ⟨rfl, rfl, rfl, by decide +kernel, rfl, by decide +kernel, by decide +kernel⟩
def d_w_text : He.DefD := ⟨("_law_text", none), "_law_text", "_law_text", defArgs (top 46), defBody (top 46), defScope (top 46), [], []⟩
abbrev st_w_number : Stmt := top 47
theorem sc_w_number : FnScope ["_law_sign", "_law_signs"] ["_law_sign", "_law_signs"] (defScope st_w_number) := ⟨rfl, rfl, rfl, by decide +kernel, rfl, by decide +kernel, by decide +kernel⟩
def d_w_number : He.DefD := ⟨("_law_number", none), "_law_number", "_law_number", defArgs (top 47), defBody (top 47), defScope (top 47), [], []⟩
abbrev st_w_condition_read : Stmt := top 48
theorem sc_w_condition_read : FnScope ["_law_word_here", "_law_numbers", "_law_k", "_law_wanted", "_law_sign"] ["_law_word_here"] (defScope st_w_condition_read) := ⟨rfl, rfl, rfl, by decide +kernel, rfl, by decide +kernel, by decide +kernel⟩
def d_w_condition_read : He.DefD := ⟨("_law_condition_read", none), "_law_condition_read", "_law_condition_read", defArgs (top 48), defBody (top 48), defScope (top 48), [], []⟩
abbrev st_w_clauses_read : Stmt := top 49
theorem sc_w_clauses_read : FnScope ["_law_line", "_law_clauses", "_law_part", "_law_words", "_law_conditions", "_law_word_here"] ["_law_line"] (defScope st_w_clauses_read) := ⟨rfl, rfl, rfl, by decide +kernel, rfl, by decide +kernel, by decide +kernel⟩
def d_w_clauses_read : He.DefD := ⟨("_law_clauses_read", none), "_law_clauses_read", "_law_clauses_read", defArgs (top 49), defBody (top 49), defScope (top 49), [], []⟩
abbrev st_w_sign_by : Stmt := top 50
theorem sc_w_sign_by : FnScope ["_law_cell", "_law_some"] ["_law_cell"] (defScope st_w_sign_by) := ⟨rfl, rfl, rfl, by decide +kernel, rfl, by decide +kernel, by decide +kernel⟩
def d_w_sign_by : He.DefD := ⟨("_law_sign_by", none), "_law_sign_by", "_law_sign_by", defArgs (top 50), defBody (top 50), defScope (top 50), [], []⟩
abbrev st_w_odd : Stmt := top 51
theorem sc_w_odd : FnScope ["_law_cell", "_law_some"] ["_law_cell"] (defScope st_w_odd) := ⟨rfl, rfl, rfl, by decide +kernel, rfl, by decide +kernel, by decide +kernel⟩
def d_w_odd : He.DefD := ⟨("_law_odd", none), "_law_odd", "_law_odd", defArgs (top 51), defBody (top 51), defScope (top 51), [], []⟩
abbrev st_w_ahead : Stmt := top 52
theorem sc_w_ahead : FnScope ["_law_cell", "_law_state"] ["_law_cell"] (defScope st_w_ahead) := ⟨rfl, rfl, rfl, by decide +kernel, rfl, by decide +kernel, by decide +kernel⟩
def d_w_ahead : He.DefD := ⟨("_law_ahead", none), "_law_ahead", "_law_ahead", defArgs (top 52), defBody (top 52), defScope (top 52), [], []⟩
abbrev st_w_spoiled : Stmt := top 53
theorem sc_w_spoiled : FnScope ["_law_line", "_law_way", "_law_spot", "_law_cell", "_law_at_here"] ["_law_line", "_law_way", "_law_spot", "_law_cell"] (defScope st_w_spoiled) := ⟨rfl, rfl, rfl, by decide +kernel, rfl, by decide +kernel, by decide +kernel⟩
def d_w_spoiled : He.DefD := ⟨("_law_spoiled", none), "_law_spoiled", "_law_spoiled", defArgs (top 53), defBody (top 53), defScope (top 53), [], []⟩
abbrev st_w_others : Stmt := top 54
theorem sc_w_others : FnScope ["_law_e", "_law_some"] ["_law_e"] (defScope st_w_others) := ⟨rfl, rfl, rfl, by decide +kernel, rfl, by decide +kernel, by decide +kernel⟩
def d_w_others : He.DefD := ⟨("_law_others", none), "_law_others", "_law_others", defArgs (top 54), defBody (top 54), defScope (top 54), [], []⟩
abbrev st_w_alone : Stmt := top 55
theorem sc_w_alone : FnScope ["_law_e"] ["_law_e"] (defScope st_w_alone) := ⟨rfl, rfl, rfl, by decide +kernel, rfl, by decide +kernel, by decide +kernel⟩
def d_w_alone : He.DefD := ⟨("_law_alone", none), "_law_alone", "_law_alone", defArgs (top 55), defBody (top 55), defScope (top 55), [], []⟩
abbrev st_w_said : Stmt := top 56
theorem sc_w_said : FnScope ["_law_thing", "_law_found", "_law_e"] ["_law_thing"] (defScope st_w_said) := ⟨rfl, rfl, rfl, by decide +kernel, rfl, by decide +kernel, by decide +kernel⟩
def d_w_said : He.DefD := ⟨("_law_said", none), "_law_said", "_law_said", defArgs (top 56), defBody (top 56), defScope (top 56), [], []⟩
abbrev st_w_due : Stmt := top 57
theorem sc_w_due : FnScope ["_law_line", "_law_clauses"] ["_law_line"] (defScope st_w_due) := ⟨rfl, rfl, rfl, by decide +kernel, rfl, by decide +kernel, by decide +kernel⟩
def d_w_due : He.DefD := ⟨("_law_due", none), "_law_due", "_law_due", defArgs (top 57), defBody (top 57), defScope (top 57), [], []⟩
abbrev st_w_right : Stmt := top 58
theorem sc_w_right : FnScope ["_law_script", "_law_at_here", "_law_good", "_law_way", "_law_line", "_law_thing"] ["_law_script", "_law_at_here"] (defScope st_w_right) := ⟨rfl, rfl, rfl, by decide +kernel, rfl, by decide +kernel, by decide +kernel⟩
def d_w_right : He.DefD := ⟨("_law_right", none), "_law_right", "_law_right", defArgs (top 58), defBody (top 58), defScope (top 58), [], []⟩
abbrev st_law : Stmt := top 59
theorem sc_law : FnScope ["_law_script", "_law_at_here"] ["_law_script"] (defScope st_law) := ⟨rfl, rfl, rfl, by decide +kernel, rfl, by decide +kernel, by decide +kernel⟩
def d_law : He.DefD := ⟨("law", none), "law", "law", defArgs (top 59), defBody (top 59), defScope (top 59), [], []⟩
def fn : List He.DefD := [d_x_wall, d_Condition_holds, d_Condition_reordered, d_Condition_written, d_Amount_init, d_Amount_holds, d_Amount_written, d_Places_init, d_Places_holds, d_Places_reordered, d_Places_written, d_Clause_init, d_Clause_fits, d_Clause_reordered, d_Clause_written, d_written_state, d_Rule_init, d_deciding, d_becomes, d_read_state, d_read_wish, d_read_numbers, d_read_condition, d_read_clause, d_read_rule, d_shown_rule, d_w_at, d_w_mix, d_w_state_by, d_w_condition_by, d_w_clause_by, d_w_holds, d_w_decides, d_w_becomes, d_w_clauses_by, d_w_word, d_w_text, d_w_number, d_w_condition_read, d_w_clauses_read, d_w_sign_by, d_w_odd, d_w_ahead, d_w_spoiled, d_w_others, d_w_alone, d_w_said, d_w_due, d_w_right, d_law]
def fa : List He.Fa := [(.glo "_wall"), (.free "str"), (.free "zip"), (.glo "written_state"), (.cls "Places"), (.meth "Places" "holds"), (.cls "Amount"), (.meth "Amount" "holds"), (.meth "Places" "written"), (.meth "Amount" "written"), (.free "enumerate"), (.cls "Clause"), (.meth "Clause" "fits"), (.glo "deciding"), (.str "STATES" "01234567"), (.free "len"), (.free "int"), (.glo "NoRule"), (.glo "read_state"), (.str "NUMBERS" "012345678"), (.mkr "Amount"), (.glo "Amount"), (.glo "read_numbers"), (.mkr "Places"), (.glo "Places"), (.glo "read_wish"), (.glo "read_condition"), (.mkr "Clause"), (.glo "Clause"), (.free "isinstance"), (.glo "read_clause"), (.mkr "Rule"), (.glo "Rule"), (.glo "becomes"), (.glo "Restless"), (.meth "Clause" "written"), (.glo "_law_mix"), (.free "range"), (.glo "_law_state_by"), (.glo "_law_condition_by"), (.glo "_law_holds"), (.glo "_law_decides"), (.glo "_law_at"), (.glo "_law_clause_by"), (.glo "_law_becomes"), (.glo "_law_word"), (.glo "_law_number"), (.free "min"), (.glo "_law_condition_read"), (.glo "_law_sign_by"), (.glo "_law_odd"), (.glo "_law_ahead"), (.glo "NoSquare"), (.glo "NoLevel"), (.glo "NoState"), (.glo "NoBox"), (.glo "TooFar"), (.glo "TooMany"), (.glo "NoSteps"), (.glo "NoPattern"), (.glo "NoName"), (.glo "NoRow"), (.glo "_law_others"), (.glo "NoNumber"), (.free "ValueError"), (.glo "FieldError"), (.glo "read_rule"), (.glo "_law_alone"), (.glo "shown_rule"), (.glo "_law_clauses_read"), (.glo "_law_text"), (.glo "_law_clauses_by"), (.glo "_law_spoiled"), (.glo "_law_said"), (.glo "_law_due"), (.free "max"), (.glo "_law_right"), (.noat "Amount" "numbers"), (.noat "Amount" "state"), (.noat "Clause" "conditions"), (.noat "Clause" "made"), (.noat "Clause" "taken"), (.noat "Places" "wanted"), (.noat "Rule" "clauses"), (.cls "Rule"), (.glo "law")]
def loose0 : List Str := ["_wall", "Condition", "Amount", "Places", "Clause", "written_state", "FieldError", "NoNumber", "NoRule", "Restless", "NoSquare", "NoLevel", "NoState", "NoBox", "TooFar", "TooMany", "NoSteps", "NoPattern", "NoName", "NoRow", "STATES", "NUMBERS", "Rule", "deciding", "becomes", "read_state", "read_wish", "read_numbers", "read_condition", "read_clause"]
def loose1 : List Str := ["read_rule", "shown_rule", "_law_at", "_law_mix", "_law_state_by", "_law_condition_by", "_law_clause_by", "_law_holds", "_law_decides", "_law_becomes", "_law_clauses_by", "_law_word", "_law_text", "_law_number", "_law_condition_read", "_law_clauses_read", "_law_sign_by", "_law_odd", "_law_ahead", "_law_spoiled", "_law_others", "_law_alone", "_law_said", "_law_due", "_law_right"]
def looseN : List Str := loose0 ++ loose1
end JF

/-! ### the head's run, early in the text: it wants much room -/
namespace JF
open PySem PySem.Spec PyProof.Rows L2
abbrev Rr : PySem.W.OpenRow := PySem.W.OpenLaw.row PySem.Challenge.rw_jumpfield_k06_no_rule
abbrev AlE : Type := Bool × He.AlD
def obsE (K : PySem.W.Frag) : AlE := (tbB K, He.obsD fa fn K)
def valE : AlE := (true, He.valD fn)
def obsEG (g : Addr → Option Obj) : AlE := obsE (He.frG g (He.asD g 4))
def hk : PySem.W.Hook where
  α := AlE
  obs := fun s => obsEG s.heap.get?
  val := fun _ => valE
  says := fun _ h => ∃ K : PySem.W.Frag, K.In h ∧ obsE K = valE
  of := fun _ _ e => ⟨_, He.frG_in, e⟩
  keeps := fun _ _ _ ⟨K, hK, c⟩ k => ⟨K, PySem.W.Frag.In.keeps hK k, c⟩
def ob (s : PySem.W.SharedT) : hk.α := obsEG (HandSHeadRun.getT s)
theorem ob_eq (s : PySem.W.SharedT) : ob s = hk.obs s.abs := by
  have e : HandSHeadRun.getT s = s.abs.heap.get? := funext (HandSHeadRun.getT_eq s)
  show obsEG (HandSHeadRun.getT s) = obsEG s.abs.heap.get?
  rw [e]
theorem run (w : World) : HandSHeadRun.RunEq Rr (PySem.W.view Rr.prog [59]) hk ob 100000 looseN w := by
  intro os
  kernel_rfl
end JF

/-! ### readings step by step: a rule for each construct, tried by «walk_at "rd"» -/
namespace JF
open PySem PySem.Spec PyProof.Rows L2
section
variable {D : Ends} {σ : L2.St} {H : Hp} {Q : VK} {QB : Bool → Hp → Prop} {QA : List V → Hp → Prop} {t u : TS} {te ta tb tc : TE} {g : TG} {c c' : TT} {v : V} {i : Nat} {K : PySem.W.Frag}
theorem rd_seq (h : t { D with nx := u D } σ H) : tSeq t u D σ H := h
/-- the walk halts ahead of a loop -/
def Halt (p : Prop) : Prop := p
theorem rd_seqF {wi : TI} (h : Halt (tSeq (tFor wi g t) u D σ H)) : tSeq (tFor wi g t) u D σ H := h
theorem rd_seqW (h : Halt (tSeq (tWhile c t) u D σ H)) : tSeq (tWhile c t) u D σ H := h
theorem rd_seqI {t' : TS} (h : Halt (tSeq (tIfS c t t') u D σ H)) : tSeq (tIfS c t t') u D σ H := h
theorem rd_next (h : D.nx σ H) : tNext D σ H := h
theorem rd_asg (h : te σ H fun x H1 => g x σ H1 D.nx) : tAsg te g D σ H := h
theorem rd_gname {R : L2.St → Hp → Prop} (h : R (σ.set i (some v)) H) : gName i v σ H R := h
theorem rd_ret (h : te σ H D.rt) : tRet te D σ H := h
theorem rd_retN (h : D.rt .non H) : tRetN D σ H := h
theorem rd_drop (h : te σ H fun _ H1 => D.nx σ H1) : tDrop te D σ H := h
theorem rd_if (h : c σ H fun b H1 => if b = true then t D σ H1 else u D σ H1) : tIfS c t u D σ H := h
theorem rd_ifE (h : c σ H fun b H1 => if b = true then ta σ H1 Q else tb σ H1 Q) : tIf c ta tb σ H Q := h
theorem rd_brk (h : D.bk σ H) : tBreak D σ H := h
theorem rd_cont (h : D.ct σ H) : tCont D σ H := h
theorem rd_var (h : σ[i]? = some (some v)) (q : Q v H) : tVar i σ H Q := ⟨v, h, q⟩
theorem rd_c (q : Q v H) : tC v σ H Q := q
theorem rd_op {r : R2} (h : ta σ H fun x H1 => tb σ H1 fun y H2 => r x y H2 Q) : tOp r ta tb σ H Q := h
theorem rd_un {r : V → Hp → VK → Prop} (h : ta σ H fun x H1 => r x H1 Q) : tUn r ta σ H Q := h
theorem rd_I0 {f : Int → Int → V} {a b : Int} (q : Q (f a b) H) : rI0 f (.int a) (.int b) H Q := ⟨a, b, rfl, rfl, q⟩
theorem rd_U {f : Int → V} {a : Int} (q : Q (f a) H) : rU f (.int a) H Q := ⟨a, rfl, q⟩
theorem rd_test (h : te σ H fun x H' => ∃ k, x = .bl k ∧ QB k H') : tTest te σ H QB := h
theorem rd_B (h : te σ H fun x H' => ∃ k, x = .bl k ∧ QB k H') : tB te σ H QB := h
theorem rd_bl {b : Bool} {R : Bool → Prop} (q : R b) : ∃ k, V.bl b = .bl k ∧ R k := ⟨b, rfl, q⟩
theorem iteT' {A B : Prop} (h : A) : if true = true then A else B := iteT h
theorem iteF' {A B : Prop} (h : B) : if false = true then A else B := iteF h
theorem iteNT {A B : Prop} (h : B) : if (!true) = true then A else B := iteF h
theorem iteNF {A B : Prop} (h : A) : if (!false) = true then A else B := iteT h
theorem rd_for {wi : TI} (h : wi σ H fun J H1 => ∃ W : Nat → Nat → L2.St → Hp → Prop, (∃ m, W 0 m σ H1) ∧ ∀ i m σ H, W i m σ H →
  (J.stop i H ∧ D.nx σ H) ∨ (J.go i H ∧ ∃ N : L2.St → Hp → Prop, (∀ σ' H', N σ' H' → ∃ m', m' < m ∧ W (i + 1) m' σ' H') ∧ ∀ x H', J.yld i H x H' → g x σ H' fun σ2 H2 => t { D with nx := N, ct := N, bk := D.nx } σ2 H2)) : tFor wi g t D σ H := h
theorem rd_and (h : c σ H fun b H1 => if b = true then c' σ H1 QB else QB false H1) : tAnd c c' σ H QB := h
theorem rd_or (h : c σ H fun b H1 => if b = true then QB true H1 else c' σ H1 QB) : tOr c c' σ H QB := h
theorem rd_not (h : c σ H fun b H1 => QB (!b) H1) : tNot c σ H QB := h
theorem rd_andV (h : ta σ H fun x H1 => ∃ k, x = .bl k ∧ if k = true then tb σ H1 Q else Q (.bl false) H1) : tAndV ta tb σ H Q := h
theorem rd_orV (h : ta σ H fun x H1 => ∃ k, x = .bl k ∧ if k = true then Q (.bl true) H1 else tb σ H1 Q) : tOrV ta tb σ H Q := h
theorem rd_notV (h : ta σ H fun x H1 => ∃ k, x = .bl k ∧ Q (.bl (!k)) H1) : tNotV ta σ H Q := h
theorem rd_eqI {a b : Int} (q : Q (.bl (decide (a = b))) H) : rEq (.int a) (.int b) H Q := ⟨rfl, by
  have e : decide (V.int a = V.int b) = decide (a = b) := by by_cases z : a = b <;> simp [z]
  rw [e]; exact q⟩
theorem rd_neI {a b : Int} (q : Q (.bl (!decide (a = b))) H) : rNe (.int a) (.int b) H Q := ⟨rfl, by
  have e : decide (V.int a = V.int b) = decide (a = b) := by by_cases z : a = b <;> simp [z]
  rw [e]; exact q⟩
theorem rd_eqS {a b : Str} (q : Q (.bl (decide (a = b))) H) : rEq (.str a) (.str b) H Q := ⟨rfl, by
  have e : decide (V.str a = V.str b) = decide (a = b) := by by_cases z : a = b <;> simp [z]
  rw [e]; exact q⟩
theorem rd_neS {a b : Str} (q : Q (.bl (!decide (a = b))) H) : rNe (.str a) (.str b) H Q := ⟨rfl, by
  have e : decide (V.str a = V.str b) = decide (a = b) := by by_cases z : a = b <;> simp [z]
  rw [e]; exact q⟩
theorem rd_nil (q : QA [] H) : tNil σ H QA := q
theorem rd_cons {tr : TA} (h : ta σ H fun x H1 => tr σ H1 fun xs H2 => QA (x :: xs) H2) : tCons ta tr σ H QA := h
theorem rd_call {sp : Sp} {dvs : List V} {E : XK} {tr : TA} (h : tr σ H fun vs H1 => sp (vs ++ dvs) H1 Q E) : tCall sp dvs E tr σ H Q := h
theorem rd_CB {r : List V → Hp → VK → Prop} {tr : TA} (h : tr σ H fun vs H1 => r vs H1 Q) : tCB r tr σ H Q := h
theorem rd_meth {C : Addr} {m : Str} {sp : Sp} {dvs : List V} {E : XK} {tr : TA} (h : ta σ H fun x H1 => ∃ a dx fs, x = .ref a ∧ H1 a = some (.ins C dx fs) ∧ fs.lookup m = none ∧ tr σ H1 fun vs H2 => sp (x :: (vs ++ dvs)) H2 Q E) : tMeth C m sp dvs E ta tr σ H Q := h
theorem rd_methR {a dx : Addr} {fs : List (Str × V)} {C : Addr} {m : Str} {R : Prop} (h1 : H a = some (.ins C dx fs)) (h2 : fs.lookup m = none) (q : R) : ∃ a' dx fs, V.ref a = .ref a' ∧ H a' = some (.ins C dx fs) ∧ fs.lookup m = none ∧ R := ⟨a, dx, fs, rfl, h1, h2, q⟩
theorem rd_fld {f : Str} (h : ta σ H fun x H1 => ∃ a C dx fs v, x = .ref a ∧ H1 a = some (.ins C dx fs) ∧ Cls K C ∧ NoAttr K C f ∧ fs.lookup f = some v ∧ Q v H1) : tFld K ta f σ H Q := h
theorem rd_fldR {a C dx : Addr} {fs : List (Str × V)} {f : Str} {R : V → Prop} (h1 : H a = some (.ins C dx fs)) (h2 : Cls K C) (h3 : NoAttr K C f) (h4 : fs.lookup f = some v) (q : R v) : ∃ a' C dx fs v, V.ref a = .ref a' ∧ H a' = some (.ins C dx fs) ∧ Cls K C ∧ NoAttr K C f ∧ fs.lookup f = some v ∧ R v := ⟨a, C, dx, fs, v, rfl, h1, h2, h3, h4, q⟩
theorem rd_chain {r r' : R2} (h : ta σ H fun x H1 => tb σ H1 fun y H2 => r x y H2 fun z H3 => ∃ k, z = .bl k ∧ (if k = true then tc σ H3 fun w' H4 => r' y w' H4 Q else Q (.bl false) H3)) : tChain r r' ta tb tc σ H Q := h
theorem rd_tup {tr : TA} (h : tr σ H fun xs H1 => xs.length ≤ sizeLine ∧ ∀ p, H1 p = none → Q (.ref p) (upd H1 p (.tup xs))) : tTup tr σ H Q := h
theorem rd_lst {tr : TA} (h : tr σ H fun xs H1 => xs.length ≤ sizeLine ∧ ∀ p, H1 p = none → Q (.ref p) (upd H1 p (.lst xs))) : tLst tr σ H Q := h
theorem rd_new {n : Nat} {R : Addr → Prop} (hn : n ≤ sizeLine := by (first | (show _ ≤ sizeLine; decide) | omega)) (h : ∀ p, H p = none → R p) : n ≤ sizeLine ∧ ∀ p, H p = none → R p := ⟨hn, h⟩
theorem rd_bm {T : String} {r : V → List V → Hp → VK → Prop} {tr : TA} (h : ta σ H fun x H1 => tyV K T x H1 ∧ tr σ H1 fun xs H2 => r x xs H2 Q) : tBM K T r ta tr σ H Q := h
theorem rd_bm0 {T : String} {r : V → List V → Hp → VK → Prop} (h : ta σ H fun x H1 => tyV K T x H1 ∧ r x [] H1 Q) : tBM0 K T r ta σ H Q := h
theorem rd_ixL {p : Addr} {xs : List V} {k : Int} (h1 : SqL K H p xs) (h2 : atI xs k = some v) (q : Q v H) : rIxL K (.ref p) (.int k) H Q := ⟨p, xs, k, v, rfl, rfl, h1, h2, q⟩
theorem rd_ixT {p : Addr} {xs : List V} {k : Int} (h1 : SqT K H p xs) (h2 : atI xs k = some v) (q : Q v H) : rIxT K (.ref p) (.int k) H Q := ⟨p, xs, k, v, rfl, rfl, h1, h2, q⟩
theorem rd_tyL {l : Addr} {xs : List V} {R : Prop} (h1 : H l = some (.lst xs)) (q : R) : tyV K "list" (.ref l) H ∧ R := ⟨Or.inl ⟨rfl, _, Or.inl (Or.inl h1)⟩, q⟩
theorem rd_append {l : Addr} {xs : List V} {y : V} (h1 : H l = some (.lst xs)) (h2 : xs.length < sizeLine) (q : Q .non (upd H l (.lst (xs ++ [y])))) : rAppend (.ref l) [y] H Q :=
  ⟨l, xs, y, rfl, rfl, h1, h2, q⟩
theorem rd_dget {td ty : TE} (h : td σ H fun x H1 => ty σ H1 fun y H2 => ∃ a v, x = .ref a ∧ DGet H2 a y (some v) ∧ Q v H2) : tDGet td ty σ H Q := h
theorem rd_din {td ty : TE} (h : ty σ H fun y H1 => td σ H1 fun x H2 => ∃ a o, x = .ref a ∧ DGet H2 a y o ∧ Q (.bl o.isSome) H2) : tDIn ty td σ H Q := h
theorem rd_dput {td ty tv : TE} (h : tv σ H fun v H1 => td σ H1 fun x H2 => ty σ H2 fun y H3 => ∃ a H4, x = .ref a ∧ DPut H3 a y v H4 ∧ D.nx σ H4) : sDPut td ty tv D σ H := h
theorem rd_2I {a b : Int} {R : Int → Int → Prop} (h : R a b) : ∃ i j, [V.int a, V.int b] = [V.int i, V.int j] ∧ R i j := ⟨a, b, rfl, h⟩
theorem rd_I {C : Int → Int → Prop} {f : Int → Int → V} {a b : Int} (hc : C a b) (q : Q (f a b) H) : rI C f (.int a) (.int b) H Q := ⟨a, b, rfl, rfl, hc, q⟩
theorem rd_mod {f : Int → Int → V} {a b : Int} (hc : 0 < b) (q : Q (f a b) H) : rI (fun _ j => 0 < j) f (.int a) (.int b) H Q := ⟨a, b, rfl, rfl, hc, q⟩
theorem rd_fdiv {f : Int → Int → V} {a b : Int} (h1 : 0 < b) (h2 : b < 2 ^ 100) (q : Q (f a b) H) : rI CDivW f (.int a) (.int b) H Q :=
  ⟨a, b, rfl, rfl, wide_div h1 (b := 100) (by have h3 : (b.natAbs : Int) = b := by omega
                                              have h4 : (b.natAbs : Int) < ((2 ^ 100 : Nat) : Int) := by rw [h3]; exact h2
                                              exact Int.ofNat_lt.mp h4) (by decide) (by decide), q⟩
theorem mulW_of {a b : Int} (h1 : -(2 ^ 2000) < a) (h2 : a < 2 ^ 2000) (h3 : -(2 ^ 2000) < b) (h4 : b < 2 ^ 2000) : CMulW a b := by
  have e : ∀ x : Int, -(2 ^ 2000) < x → x < 2 ^ 2000 → x.natAbs < 2 ^ 2000 := fun x p q => by
    have e1 : ((2 ^ 2000 : Nat) : Int) = (2 : Int) ^ 2000 := by norm_cast
    have h : (x.natAbs : Int) < ((2 ^ 2000 : Nat) : Int) := by rw [e1]; omega
    exact Int.ofNat_lt.mp h
  exact wide_mul (e a h1 h2) (e b h3 h4) (by decide) (by decide) (by decide)
theorem rd_nn {R : Prop} (h : R) : V.non = V.non ∧ R := ⟨rfl, h⟩
theorem rd_len {p : Addr} {ys : List V} {R : List V → Prop} (h : SqL K H p ys) (q : R ys) : ∃ p' ys, [V.ref p] = [V.ref p'] ∧ (SqL K H p' ys ∨ SqT K H p' ys) ∧ R ys := ⟨p, ys, rfl, .inl h, q⟩
theorem rd_lenT {p : Addr} {ys : List V} {R : List V → Prop} (h : SqT K H p ys) (q : R ys) : ∃ p' ys, [V.ref p] = [V.ref p'] ∧ (SqL K H p' ys ∨ SqT K H p' ys) ∧ R ys := ⟨p, ys, rfl, .inr h, q⟩
theorem rd_iE {tr : TA} {R : It → Hp → Prop} (h : tr σ H fun vs H1 => ∃ a xs, vs = [.ref a] ∧ SqL K H1 a xs ∧ R (Ite K a) H1) : iEnum K tr σ H R := h
theorem rd_iL {R : It → Hp → Prop} (h : te σ H fun x H1 => ∃ a, x = .ref a ∧ (∃ xs, SqL K H1 a xs) ∧ R (Itl K a) H1) : iList K te σ H R := h
theorem rd_iT {R : It → Hp → Prop} (h : te σ H fun x H1 => ∃ a, x = .ref a ∧ (∃ xs, SqT K H1 a xs) ∧ R (Itt K a) H1) : iTup K te σ H R := h
theorem rd_iR1 {tr : TA} {R : It → Hp → Prop} (h : tr σ H fun vs H1 => ∃ j : Int, vs = [.int j] ∧ -(2 ^ 62) ≤ j ∧ j < 2 ^ 62 ∧ R (Itr 0 j.toNat) H1) : iRng1 tr σ H R := h
theorem rd_iR2 {tr : TA} {R : It → Hp → Prop} (h : tr σ H fun vs H1 => ∃ i j : Int, vs = [.int i, .int j] ∧ (-(2 ^ 62) ≤ i ∧ i < 2 ^ 62 ∧ -(2 ^ 62) ≤ j ∧ j < 2 ^ 62) ∧ R (Itr i (j - i).toNat) H1) : iRng2 tr σ H R := h
theorem rd_iR3 {tr : TA} {R : It → Hp → Prop} (h : tr σ H fun vs H1 => ∃ (i j c : Int) (n : Nat), vs = [.int i, .int j, .int c] ∧ RgC i j c n ∧ R (Itc i c n) H1) : iRng3 tr σ H R := h
theorem rd_iS {R : It → Hp → Prop} (h : te σ H fun v H1 => ∃ x, v = .str x ∧ R (Its x) H1) : iStr te σ H R := h
theorem rd_iZ {tr : TA} {R : It → Hp → Prop} (h : tr σ H fun vs H1 => ∃ a b xs ys, vs = [.ref a, .ref b] ∧ SqL K H1 a xs ∧ SqL K H1 b ys ∧ R (Itz K a b) H1) : iZip K tr σ H R := h
theorem rd_sl {r : V → Option Int → Option Int → Hp → VK → Prop} {tl th : TO} (h : te σ H fun x H1 => tl σ H1 fun l H2 => th σ H2 fun u H3 => r x l u H3 Q) : tSl r te tl th σ H Q := h
theorem rd_np {R : Option Int → Hp → Prop} (h : R none H) : tNoPart σ H R := h
theorem rd_pt {R : Option Int → Hp → Prop} (h : te σ H fun x H1 => ∃ i, x = .int i ∧ R (some i) H1) : tPart te σ H R := h
theorem rd_int {a : Int} {R : Int → Prop} (h : R a) : ∃ i, V.int a = .int i ∧ R i := ⟨a, rfl, h⟩
theorem rd_gtup {n : Nat} {tt : TGs} {a : Addr} {xs : List V} {R : L2.St → Hp → Prop} (h1 : SqT K H a xs) (h2 : xs.length = n) (q : tt xs σ H R) : gTup K n tt (.ref a) σ H R := ⟨a, xs, rfl, h1, h2, q⟩
theorem rd_gcons {tt : TGs} {r : List V} {R : L2.St → Hp → Prop} (q : g v σ H fun σ' H' => tt r σ' H' R) : gCons g tt (v :: r) σ H R := ⟨v, r, rfl, q⟩
theorem rd_gsub {to ti : TE} {ts : TSet} {R : L2.St → Hp → Prop} (h : to σ H fun o H1 => ti σ H1 fun i H2 => ts o i v H2 fun H3 => R σ H3) : gSub to ti ts v σ H R := h
theorem rd_gnil {R : L2.St → Hp → Prop} (q : R σ H) : gNil [] σ H R := ⟨rfl, q⟩
theorem rd_lc {wi : TI} {vs : List Nat} (h : wi σ H fun J H1 => ∀ D, H1 D = none → ∃ W : Nat → Nat → Hp → Prop, (∃ m, W 0 m (upd H1 D (.lst []))) ∧ ∀ i m H, W i m H →
  (J.stop i H ∧ Q (.ref D) H) ∨ (J.go i H ∧ ∃ Nx : Hp → Prop, (∀ H', Nx H' → ∃ m', m' < m ∧ W (i + 1) m' H') ∧ ∀ x H', J.yld i H x H' → g x (wipe σ vs) H' fun σ2 H2 => wipe σ2 vs = wipe σ vs ∧ c σ2 H2 fun b H3 =>
    if b = true then te σ2 H3 fun y H4 => ∃ acc, H4 D = some (.lst acc) ∧ acc.length < sizeLine ∧ Nx (upd H4 D (.lst (acc ++ [y]))) else Nx H3)) : tLc wi g c te vs σ H Q := h
theorem rd_yes (h : QB true H) : tYes σ H QB := h
theorem rd_dsetd {td ty tx : TE} (h : td σ H fun x H1 => ∃ a, x = .ref a ∧ IsD H1 a ∧ ty σ H1 fun y H2 => tx σ H2 fun z H3 => ∃ (kvs : List (Key × V)) (k : Key), H3 a = some (.dK kvs) ∧ y = kV k ∧ kvs.length < sizeLine ∧
  (∀ v, valV kvs k = some v → Q v H3) ∧ (valV kvs k = none → Q z (upd H3 a (.dK (putK kvs k z))))) : tDSetd td ty tx σ H Q := h
theorem rd_isD {a : Addr} {kvs : List (Key × V)} {R : Addr → Prop} (h : H a = some (.dK kvs)) (q : R a) : ∃ b, V.ref a = .ref b ∧ IsD H b ∧ R b := ⟨a, rfl, .inl ⟨kvs, .inl h⟩, q⟩
theorem rd_fldS {ta tv : TE} {f : Str} (h : tv σ H fun y H1 => ta σ H1 fun x H2 => ∃ a C dx fs, x = .ref a ∧ H2 a = some (.ins C dx fs) ∧ Cls K C ∧ NoAttr K C f ∧ fs.length < 1000 ∧ D.nx σ (upd H2 a (.ins C dx (putF f y fs)))) : sFld K ta tv f D σ H := h
theorem rd_newK {R : Addr → Prop} (h : ∀ p, H p = none → R p) : ∀ p, H p = none → R p := h
theorem dp_ints {ns : List Int} : DpAll K H (ns.map V.int) (ns.map PyData.int) := by
  induction ns with
  | nil => exact .nil
  | cons n r ih => exact .cons (.int n) ih
theorem rd_eqDI {p p' : Addr} {ns ms : List Int} (h1 : SqL K H p (ns.map V.int)) (h2 : SqL K H p' (ms.map V.int)) (s1 : SeqAt.shaped (.list (ns.map PyData.int)) = true) (s2 : SeqAt.shaped (.list (ms.map PyData.int)) = true)
    (q : Q (.bl (PyData.eqv (.list (ns.map PyData.int)) (.list (ms.map PyData.int)))) H) : rEqD K (.ref p) (.ref p') H Q := ⟨_, _, .lst h1 dp_ints, .lst h2 dp_ints, s1, s2, q⟩
theorem rd_neDI {p p' : Addr} {ns ms : List Int} (h1 : SqL K H p (ns.map V.int)) (h2 : SqL K H p' (ms.map V.int)) (s1 : SeqAt.shaped (.list (ns.map PyData.int)) = true) (s2 : SeqAt.shaped (.list (ms.map PyData.int)) = true)
    (q : Q (.bl (!PyData.eqv (.list (ns.map PyData.int)) (.list (ms.map PyData.int)))) H) : rNeD K (.ref p) (.ref p') H Q := ⟨_, _, .lst h1 dp_ints, .lst h2 dp_ints, s1, s2, q⟩
theorem rd_rep {l : Addr} {k : Int} {xs : List V} (h1 : H l = some (.lst xs)) (h2 : -(2 ^ 63) ≤ k) (h3 : k < 2 ^ 63) (h4 : xs.length * k.toNat ≤ sizeLine) (q : ∀ p, H p = none → Q (.ref p) (upd H p (.lst (List.replicate k.toNat xs).flatten))) : rRep (.ref l) (.int k) H Q :=
  ⟨l, k, xs, rfl, rfl, h1, h2, h3, h4, q⟩
theorem ite_d {p : Prop} [Decidable p] {A B : Prop} (h1 : p → A) (h2 : ¬ p → B) : if decide p = true then A else B := by
  by_cases h : p
  · rw [decide_eq_true h, if_pos rfl]; exact h1 h
  · rw [decide_eq_false h, if_neg Bool.false_ne_true]; exact h2 h
theorem ite_nd {p : Prop} [Decidable p] {A B : Prop} (h1 : ¬ p → A) (h2 : p → B) : if (!decide p) = true then A else B := by
  by_cases h : p
  · rw [decide_eq_true h]; exact iteF (h2 h)
  · rw [decide_eq_false h]; exact iteT (h1 h)
theorem ite_b {b : Bool} {A B : Prop} (h1 : b = true → A) (h2 : b = false → B) : if b = true then A else B := by
  cases b
  · exact iteF (h2 rfl)
  · exact iteT (h1 rfl)
theorem ite_nb {b : Bool} {A B : Prop} (h1 : b = false → A) (h2 : b = true → B) : if (!b) = true then A else B := by
  cases b
  · exact iteT (h1 rfl)
  · exact iteF (h2 rfl)
end
end JF

local macro_rules | `(tactic| walk_at "rs1") => `(tactic| first
  | with_reducible refine JF.rd_seq ?_ | with_reducible refine JF.rd_asg ?_ | with_reducible refine JF.rd_gname ?_
  | with_reducible refine JF.rd_var rfl ?_ | with_reducible refine JF.rd_c ?_ | with_reducible refine JF.rd_op ?_ | with_reducible refine JF.rd_I0 ?_
  | with_reducible refine JF.rd_if ?_ | with_reducible refine JF.rd_test ?_ | with_reducible refine JF.rd_bl ?_
  | with_reducible refine JF.rd_eqI ?_ | with_reducible refine JF.rd_neI ?_ | with_reducible refine JF.rd_eqS ?_ | with_reducible refine JF.rd_neS ?_
  | with_reducible refine JF.rd_cons ?_ | with_reducible refine JF.rd_nil ?_ | with_reducible refine JF.rd_call ?_ | with_reducible refine JF.rd_meth ?_ | with_reducible refine JF.rd_fld ?_ | with_reducible refine JF.rd_CB ?_
  | with_reducible refine JF.rd_ret ?_ | with_reducible refine JF.rd_drop ?_ | with_reducible refine JF.rd_next ?_ | with_reducible refine JF.rd_and ?_ | with_reducible refine JF.rd_or ?_ | with_reducible refine JF.rd_not ?_
  | with_reducible refine JF.rd_andV ?_ | with_reducible refine JF.rd_orV ?_ | with_reducible refine JF.rd_notV ?_ | with_reducible refine JF.rd_B ?_ | with_reducible refine JF.rd_un ?_ | with_reducible refine JF.rd_U ?_
  | with_reducible refine JF.rd_chain ?_ | with_reducible refine JF.rd_tup ?_ | with_reducible refine JF.rd_lst ?_ | with_reducible refine JF.rd_bm ?_ | with_reducible refine JF.rd_bm0 ?_
  | with_reducible refine JF.rd_dget ?_ | with_reducible refine JF.rd_din ?_ | with_reducible refine JF.rd_dput ?_ | with_reducible refine JF.rd_ifE ?_ | with_reducible refine JF.rd_retN ?_ | with_reducible refine JF.rd_brk ?_ | with_reducible refine JF.rd_cont ?_
  | with_reducible refine JF.iteT' ?_ | with_reducible refine JF.iteF' ?_ | with_reducible refine JF.iteNT ?_ | with_reducible refine JF.iteNF ?_ | ((with_reducible refine' JF.rd_fldR ?h1 ?h2 ?h3 ?h4 ?q); (case h1 => assumption); (case h2 => assumption); (case h3 => assumption); (case h4 => exact rfl))
  | with_reducible refine JF.rd_dsetd ?_ | with_reducible refine JF.rd_fldS ?_
  | with_reducible refine JF.rd_yes ?_ | with_reducible refine JF.rd_iE ?_ | with_reducible refine JF.rd_iL ?_ | with_reducible refine JF.rd_iT ?_ | with_reducible refine JF.rd_iR1 ?_ | with_reducible refine JF.rd_iR2 ?_ | with_reducible refine JF.rd_iR3 ?_ | with_reducible refine JF.rd_iS ?_ | with_reducible refine JF.rd_iZ ?_ | with_reducible refine JF.rd_sl ?_ | with_reducible refine JF.rd_np ?_ | with_reducible refine JF.rd_pt ?_ | with_reducible refine JF.rd_int ?_
  | ((with_reducible refine' JF.rd_gtup ?h1 ?h2 ?q); (case h1 => exact L2.SqT.of (by assumption)); (case h2 => exact rfl)) | with_reducible refine JF.rd_gcons ?_ | with_reducible refine JF.rd_gnil ?_ | with_reducible refine JF.rd_gsub ?_
  | with_reducible refine JF.rd_2I ?_ | ((with_reducible refine' JF.rd_ixT ?h1 ?h2 ?q); (case h1 => exact L2.SqT.of (by assumption)); (case h2 => exact rfl)) | ((with_reducible refine JF.rd_mod ?_ ?_); · decide) | ((with_reducible refine JF.rd_fdiv ?h1 ?h2 ?_); (case h1 => decide); (case h2 => decide)) | with_reducible refine JF.rd_nn ?_)
local macro_rules | `(tactic| walk_at "rd1") => `(tactic| first | walk_at "rs1" | with_reducible refine JF.rd_for ?_ | with_reducible refine JF.rd_lc ?_)
local macro_rules | `(tactic| walk_at "rh") => `(tactic| repeat (first | with_reducible refine JF.rd_seqF ?_ | with_reducible refine JF.rd_seqW ?_ | walk_at "rs1"))
local macro_rules | `(tactic| walk_at "rhi") => `(tactic| repeat (first | with_reducible refine JF.rd_seqF ?_ | with_reducible refine JF.rd_seqW ?_ | with_reducible refine JF.rd_seqI ?_ | walk_at "rs1"))
local macro_rules | `(tactic| walk_at "rs") => `(tactic| repeat walk_at "rs1")
local macro_rules | `(tactic| walk_at "rd") => `(tactic| repeat walk_at "rd1")
local macro_rules | `(tactic| walk_at "ne") => `(tactic| first | assumption | (apply Ne.symm; assumption))
local macro_rules | `(tactic| walk_at "hp") => `(tactic| first | assumption | exact L2.upd_same | ((with_reducible refine (L2.upd_ne ?h1).trans ?h2); (case h1 => walk_at "ne"); (case h2 => walk_at "hp")))

/-! ### readings are monotone in what is wanted; a cut between two statements -/
namespace JF
open PySem PySem.Spec PyProof.Rows L2
def MonE (t : TE) : Prop := ∀ σ H (Q Q' : VK), (∀ v H, Q v H → Q' v H) → t σ H Q → t σ H Q'
def MonT (t : TT) : Prop := ∀ σ H (Q Q' : Bool → Hp → Prop), (∀ v H, Q v H → Q' v H) → t σ H Q → t σ H Q'
def MonA (t : TA) : Prop := ∀ σ H (Q Q' : List V → Hp → Prop), (∀ v H, Q v H → Q' v H) → t σ H Q → t σ H Q'
def MonO (t : TO) : Prop := ∀ σ H (Q Q' : Option Int → Hp → Prop), (∀ v H, Q v H → Q' v H) → t σ H Q → t σ H Q'
def MonR (r : R2) : Prop := ∀ x y H (Q Q' : VK), (∀ v H, Q v H → Q' v H) → r x y H Q → r x y H Q'
def MonU (r : V → Hp → VK → Prop) : Prop := ∀ x H (Q Q' : VK), (∀ v H, Q v H → Q' v H) → r x H Q → r x H Q'
def MonC (r : List V → Hp → VK → Prop) : Prop := ∀ x H (Q Q' : VK), (∀ v H, Q v H → Q' v H) → r x H Q → r x H Q'
def MonM (r : V → List V → Hp → VK → Prop) : Prop := ∀ x y H (Q Q' : VK), (∀ v H, Q v H → Q' v H) → r x y H Q → r x y H Q'
def MonL (r : V → Option Int → Option Int → Hp → VK → Prop) : Prop := ∀ x y z H (Q Q' : VK), (∀ v H, Q v H → Q' v H) → r x y z H Q → r x y z H Q'
def MonG (g : TG) : Prop := ∀ v σ H (Q Q' : L2.St → Hp → Prop), (∀ σ H, Q σ H → Q' σ H) → g v σ H Q → g v σ H Q'
def MonGs (g : TGs) : Prop := ∀ v σ H (Q Q' : L2.St → Hp → Prop), (∀ σ H, Q σ H → Q' σ H) → g v σ H Q → g v σ H Q'
def MonI (t : TI) : Prop := ∀ σ H (Q Q' : It → Hp → Prop), (∀ v H, Q v H → Q' v H) → t σ H Q → t σ H Q'
def MonP (sp : Sp) : Prop := ∀ vs H (Q Q' : VK) E, (∀ v H, Q v H → Q' v H) → sp vs H Q E → sp vs H Q' E
def EndsLe (D D' : Ends) : Prop := (∀ σ H, D.nx σ H → D'.nx σ H) ∧ (∀ v H, D.rt v H → D'.rt v H) ∧ (∀ σ H, D.bk σ H → D'.bk σ H) ∧ (∀ σ H, D.ct σ H → D'.ct σ H)
def MonS (t : TS) : Prop := ∀ D D' σ H, EndsLe D D' → t D σ H → t D' σ H
section
variable {t u : TS} {te ta tb tc : TE} {c c' : TT} {g : TG} {gs : TGs} {tr : TA} {r r' : R2} {wi : TI}
/-- THE CUT: P holds between both -/
theorem rd_cut {D : Ends} {σ : L2.St} {H : Hp} (P : L2.St → Hp → Prop) (m : MonS t) (h1 : t { D with nx := P } σ H) (h2 : ∀ σ H, P σ H → u D σ H) : tSeq t u D σ H :=
  m { D with nx := P } { D with nx := u D } σ H ⟨h2, fun _ _ h => h, fun _ _ h => h, fun _ _ h => h⟩ h1
theorem rd_cutE {σ : L2.St} {H : Hp} {Q : VK} (P : VK) (m : MonE te) (h1 : te σ H P) (h2 : ∀ v H, P v H → Q v H) : te σ H Q := m _ _ _ _ h2 h1
theorem me_var {i : Nat} : MonE (tVar i) := fun σ H Q Q' h ⟨v, e, q⟩ => ⟨v, e, h _ _ q⟩
theorem me_c {v : V} : MonE (tC v) := fun σ H Q Q' h q => h _ _ q
theorem me_op (m : MonR r) (a : MonE ta) (b : MonE tb) : MonE (tOp r ta tb) := fun σ H Q Q' h q => a _ _ _ _ (fun _ _ z => b _ _ _ _ (fun _ _ z' => m _ _ _ _ _ h z') z) q
theorem me_un {r : V → Hp → VK → Prop} (m : MonU r) (a : MonE ta) : MonE (tUn r ta) := fun σ H Q Q' h q => a _ _ _ _ (fun _ _ z => m _ _ _ _ h z) q
theorem me_fld {K : PySem.W.Frag} {f : Str} (a : MonE ta) : MonE (tFld K ta f) := fun σ H Q Q' h q => a _ _ _ _ (fun _ _ ⟨x, C, dx, fs, v, e1, e2, e3, e4, e5, z⟩ => ⟨x, C, dx, fs, v, e1, e2, e3, e4, e5, h _ _ z⟩) q
theorem me_tup (a : MonA tr) : MonE (tTup tr) := fun σ H Q Q' h q => a _ _ _ _ (fun _ _ ⟨l, z⟩ => ⟨l, fun p hp => h _ _ (z p hp)⟩) q
theorem me_lst (a : MonA tr) : MonE (tLst tr) := fun σ H Q Q' h q => a _ _ _ _ (fun _ _ ⟨l, z⟩ => ⟨l, fun p hp => h _ _ (z p hp)⟩) q
theorem me_call {sp : Sp} {dvs : List V} {E : XK} (m : MonP sp) (a : MonA tr) : MonE (tCall sp dvs E tr) := fun σ H Q Q' h q => a _ _ _ _ (fun _ _ z => m _ _ _ _ _ h z) q
theorem me_meth {C : Addr} {n : Str} {sp : Sp} {dvs : List V} {E : XK} (m : MonP sp) (a : MonE ta) (b : MonA tr) : MonE (tMeth C n sp dvs E ta tr) := fun σ H Q Q' h q => a _ _ _ _ (fun _ _ ⟨x, dx, fs, e1, e2, e3, z⟩ => ⟨x, dx, fs, e1, e2, e3, b _ _ _ _ (fun _ _ y => m _ _ _ _ _ h y) z⟩) q
theorem me_cb {r : List V → Hp → VK → Prop} (m : MonC r) (a : MonA tr) : MonE (tCB r tr) := fun σ H Q Q' h q => a _ _ _ _ (fun _ _ z => m _ _ _ _ h z) q
theorem me_bm {K : PySem.W.Frag} {T : String} {r : V → List V → Hp → VK → Prop} (m : MonM r) (a : MonE ta) (b : MonA tr) : MonE (tBM K T r ta tr) := fun σ H Q Q' h q => a _ _ _ _ (fun _ _ ⟨y, z⟩ => ⟨y, b _ _ _ _ (fun _ _ z' => m _ _ _ _ _ h z') z⟩) q
theorem me_bm0 {K : PySem.W.Frag} {T : String} {r : V → List V → Hp → VK → Prop} (m : MonM r) (a : MonE ta) : MonE (tBM0 K T r ta) := fun σ H Q Q' h q => a _ _ _ _ (fun _ _ ⟨y, z⟩ => ⟨y, m _ _ _ _ _ h z⟩) q
theorem me_andV (a : MonE ta) (b : MonE tb) : MonE (tAndV ta tb) := fun σ H Q Q' h q => a _ _ _ _ (fun _ _ ⟨k, e, z⟩ => ⟨k, e, by cases k; exact h _ _ z; exact b _ _ _ _ h z⟩) q
theorem me_orV (a : MonE ta) (b : MonE tb) : MonE (tOrV ta tb) := fun σ H Q Q' h q => a _ _ _ _ (fun _ _ ⟨k, e, z⟩ => ⟨k, e, by cases k; exact b _ _ _ _ h z; exact h _ _ z⟩) q
theorem me_notV (a : MonE ta) : MonE (tNotV ta) := fun σ H Q Q' h q => a _ _ _ _ (fun _ _ ⟨k, e, z⟩ => ⟨k, e, h _ _ z⟩) q
theorem me_if (m : MonT c) (a : MonE ta) (b : MonE tb) : MonE (tIf c ta tb) := fun σ H Q Q' h q => m _ _ _ _ (fun k _ z => by cases k; exact b _ _ _ _ h z; exact a _ _ _ _ h z) q
theorem me_chain (m : MonR r) (m' : MonR r') (a : MonE ta) (b : MonE tb) (d : MonE tc) : MonE (tChain r r' ta tb tc) := fun σ H Q Q' h q =>
  a _ _ _ _ (fun _ _ z => b _ _ _ _ (fun _ _ z' => m _ _ _ _ _ (fun _ _ ⟨k, e, y⟩ => ⟨k, e, by cases k; exact h _ _ y; exact d _ _ _ _ (fun _ _ y' => m' _ _ _ _ _ h y') y⟩) z') z) q
theorem me_sl {rl : V → Option Int → Option Int → Hp → VK → Prop} {tl th : TO} (m : MonL rl) (a : MonE te) (b : MonO tl) (d : MonO th) : MonE (tSl rl te tl th) := fun σ H Q Q' h q => a _ _ _ _ (fun _ _ z => b _ _ _ _ (fun _ _ z => d _ _ _ _ (fun _ _ z => m _ _ _ _ _ _ h z) z) z) q
theorem me_dget {td ty : TE} (a : MonE td) (b : MonE ty) : MonE (tDGet td ty) := fun σ H Q Q' h q => a _ _ _ _ (fun _ _ z => b _ _ _ _ (fun _ _ ⟨x, v, e1, e2, z⟩ => ⟨x, v, e1, e2, h _ _ z⟩) z) q
theorem me_dget2 {td ty tx : TE} (a : MonE td) (b : MonE ty) (d : MonE tx) : MonE (tDGet2 td ty tx) := fun σ H Q Q' h q => a _ _ _ _ (fun _ _ ⟨x, e1, e2, z⟩ => ⟨x, e1, e2, b _ _ _ _ (fun _ _ z => d _ _ _ _ (fun _ _ ⟨o, e3, z⟩ => ⟨o, e3, h _ _ z⟩) z) z⟩) q
theorem me_din {td ty : TE} (a : MonE td) (b : MonE ty) : MonE (tDIn ty td) := fun σ H Q Q' h q => b _ _ _ _ (fun _ _ z => a _ _ _ _ (fun _ _ ⟨x, v, e1, e2, z⟩ => ⟨x, v, e1, e2, h _ _ z⟩) z) q
theorem me_dnotin {td ty : TE} (a : MonE td) (b : MonE ty) : MonE (tDNotIn ty td) := fun σ H Q Q' h q => b _ _ _ _ (fun _ _ z => a _ _ _ _ (fun _ _ ⟨x, v, e1, e2, z⟩ => ⟨x, v, e1, e2, h _ _ z⟩) z) q
theorem me_dsetd {td ty tx : TE} (a : MonE td) (b : MonE ty) (d : MonE tx) : MonE (tDSetd td ty tx) := fun σ H Q Q' h q =>
  a _ _ _ _ (fun _ _ ⟨x, e1, e2, z⟩ => ⟨x, e1, e2, b _ _ _ _ (fun _ _ z => d _ _ _ _ (fun _ _ ⟨kvs, k, e3, e4, e5, z1, z2⟩ => ⟨kvs, k, e3, e4, e5, fun v hv => h _ _ (z1 v hv), fun hv => h _ _ (z2 hv)⟩) z) z⟩) q
theorem mt_test' (a : MonE te) : MonT (tTest te) := fun σ H Q Q' h q => a _ _ _ _ (fun _ _ ⟨k, e, z⟩ => ⟨k, e, h _ _ z⟩) q
theorem mt_B (a : MonE te) : MonT (tB te) := fun σ H Q Q' h q => a _ _ _ _ (fun _ _ ⟨k, e, z⟩ => ⟨k, e, h _ _ z⟩) q
theorem mt_and (a : MonT c) (b : MonT c') : MonT (tAnd c c') := fun σ H Q Q' h q => a _ _ _ _ (fun k _ z => by cases k; exact h _ _ z; exact b _ _ _ _ h z) q
theorem mt_or (a : MonT c) (b : MonT c') : MonT (tOr c c') := fun σ H Q Q' h q => a _ _ _ _ (fun k _ z => by cases k; exact b _ _ _ _ h z; exact h _ _ z) q
theorem mt_not (a : MonT c) : MonT (tNot c) := fun σ H Q Q' h q => a _ _ _ _ (fun k _ z => h _ _ z) q
theorem ma_nil : MonA tNil := fun σ H Q Q' h q => h _ _ q
theorem ma_cons (a : MonE ta) (b : MonA tr) : MonA (tCons ta tr) := fun σ H Q Q' h q => a _ _ _ _ (fun _ _ z => b _ _ _ _ (fun _ _ y => h _ _ y) z) q
theorem mo_none : MonO tNoPart := fun σ H Q Q' h q => h _ _ q
theorem mo_some (a : MonE te) : MonO (tPart te) := fun σ H Q Q' h q => a _ _ _ _ (fun _ _ ⟨i, e, z⟩ => ⟨i, e, h _ _ z⟩) q
theorem mr_I0 {f : Int → Int → V} : MonR (rI0 f) := fun x y H Q Q' h ⟨i, j, a, b, q⟩ => ⟨i, j, a, b, h _ _ q⟩
theorem mr_I {C : Int → Int → Prop} {f : Int → Int → V} : MonR (rI C f) := fun x y H Q Q' h ⟨i, j, a, b, d, q⟩ => ⟨i, j, a, b, d, h _ _ q⟩
theorem mr_eq : MonR rEq := fun x y H Q Q' h ⟨a, q⟩ => ⟨a, h _ _ q⟩
theorem mr_ne : MonR rNe := fun x y H Q Q' h ⟨a, q⟩ => ⟨a, h _ _ q⟩
theorem mr_ixL {K : PySem.W.Frag} : MonR (rIxL K) := fun x y H Q Q' h ⟨p, xs, i, v, a, b, c, d, q⟩ => ⟨p, xs, i, v, a, b, c, d, h _ _ q⟩
theorem mr_ixT {K : PySem.W.Frag} : MonR (rIxT K) := fun x y H Q Q' h ⟨p, xs, i, v, a, b, c, d, q⟩ => ⟨p, xs, i, v, a, b, c, d, h _ _ q⟩
theorem mr_ixS : MonR rIxS := fun x y H Q Q' h ⟨p, xs, i, a, b, c, d, q⟩ => ⟨p, xs, i, a, b, c, d, h _ _ q⟩
theorem mr_cat : MonR rCat := fun x y H Q Q' h ⟨l, b, xs, zs, e1, e2, e3, e4, e5, q⟩ => ⟨l, b, xs, zs, e1, e2, e3, e4, e5, fun p hp => h _ _ (q p hp)⟩
theorem mr_in {K : PySem.W.Frag} {neg : Bool} : MonR (rIn K neg) := fun x y H Q Q' h ⟨p, xs, e1, e2, e3, e4, q⟩ => ⟨p, xs, e1, e2, e3, e4, h _ _ q⟩
theorem mr_isN : MonR (fun x y H Q => y = V.non ∧ Q (.bl (decide (x = .non))) H) := fun x y H Q Q' h ⟨a, q⟩ => ⟨a, h _ _ q⟩
theorem mr_notN : MonR (fun x y H Q => y = V.non ∧ Q (.bl (!decide (x = .non))) H) := fun x y H Q Q' h ⟨a, q⟩ => ⟨a, h _ _ q⟩
theorem mu_U {f : Int → V} : MonU (rU f) := fun x H Q Q' h ⟨i, a, q⟩ => ⟨i, a, h _ _ q⟩
theorem mc_len {K : PySem.W.Frag} : MonC (rLenS K) := fun x H Q Q' h ⟨p, ys, a, b, q⟩ => ⟨p, ys, a, b, h _ _ q⟩
theorem mc_isi {K : PySem.W.Frag} : MonC (rIsi K) := fun x H Q Q' h ⟨x', c, t, u, b, a1, a2, a3, a4, q⟩ => ⟨x', c, t, u, b, a1, a2, a3, a4, h _ _ q⟩
theorem mm_append : MonM rAppend := fun x y H Q Q' h ⟨l, xs, z, a, b, c, d, q⟩ => ⟨l, xs, z, a, b, c, d, h _ _ q⟩
theorem mg_name {i : Nat} : MonG (gName i) := fun v σ H Q Q' h q => h _ _ q
theorem mg_tup {K : PySem.W.Frag} {n : Nat} (m : MonGs gs) : MonG (gTup K n gs) := fun v σ H Q Q' h ⟨a, xs, e1, e2, e3, q⟩ => ⟨a, xs, e1, e2, e3, m _ _ _ _ _ h q⟩
theorem mgs_nil : MonGs gNil := fun v σ H Q Q' h ⟨e, q⟩ => ⟨e, h _ _ q⟩
theorem mgs_cons (a : MonG g) (b : MonGs gs) : MonGs (gCons g gs) := fun v σ H Q Q' h ⟨x, r, e, q⟩ => ⟨x, r, e, a _ _ _ _ _ (fun _ _ z => b _ _ _ _ _ h z) q⟩
theorem mi_L {K : PySem.W.Frag} (a : MonE te) : MonI (iList K te) := fun σ H Q Q' h q => a _ _ _ _ (fun _ _ ⟨x, e1, e2, z⟩ => ⟨x, e1, e2, h _ _ z⟩) q
theorem mi_T {K : PySem.W.Frag} (a : MonE te) : MonI (iTup K te) := fun σ H Q Q' h q => a _ _ _ _ (fun _ _ ⟨x, e1, e2, z⟩ => ⟨x, e1, e2, h _ _ z⟩) q
theorem mi_R1 (a : MonA tr) : MonI (iRng1 tr) := fun σ H Q Q' h q => a _ _ _ _ (fun _ _ ⟨j, e1, e2, e3, z⟩ => ⟨j, e1, e2, e3, h _ _ z⟩) q
theorem mi_R2 (a : MonA tr) : MonI (iRng2 tr) := fun σ H Q Q' h q => a _ _ _ _ (fun _ _ ⟨i, j, e1, e2, z⟩ => ⟨i, j, e1, e2, h _ _ z⟩) q
theorem mi_R3 (a : MonA tr) : MonI (iRng3 tr) := fun σ H Q Q' h q => a _ _ _ _ (fun _ _ ⟨i, j, c, n, e1, e2, z⟩ => ⟨i, j, c, n, e1, e2, h _ _ z⟩) q
theorem mi_E {K : PySem.W.Frag} (a : MonA tr) : MonI (iEnum K tr) := fun σ H Q Q' h q => a _ _ _ _ (fun _ _ ⟨x, xs, e1, e2, z⟩ => ⟨x, xs, e1, e2, h _ _ z⟩) q
theorem mi_S (a : MonE te) : MonI (iStr te) := fun σ H Q Q' h q => a _ _ _ _ (fun _ _ ⟨x, e1, z⟩ => ⟨x, e1, h _ _ z⟩) q
theorem mi_Z {K : PySem.W.Frag} (a : MonA tr) : MonI (iZip K tr) := fun σ H Q Q' h q => a _ _ _ _ (fun _ _ ⟨x, y, xs, ys, e1, e2, e3, z⟩ => ⟨x, y, xs, ys, e1, e2, e3, h _ _ z⟩) q
theorem EndsLe.seq {D D' : Ends} (h : EndsLe D D') {P P' : L2.St → Hp → Prop} (hp : ∀ σ H, P σ H → P' σ H) : EndsLe { D with nx := P } { D' with nx := P' } := ⟨hp, h.2.1, h.2.2.1, h.2.2.2⟩
theorem ms_next : MonS tNext := fun D D' σ H h q => h.1 _ _ q
theorem ms_seq (a : MonS t) (b : MonS u) : MonS (tSeq t u) := fun D D' σ H h q => a _ _ _ _ (h.seq fun _ _ z => b _ _ _ _ h z) q
theorem ms_asg (a : MonE te) (b : MonG g) : MonS (tAsg te g) := fun D D' σ H h q => a _ _ _ _ (fun _ _ z => b _ _ _ _ _ h.1 z) q
theorem ms_drop (a : MonE te) : MonS (tDrop te) := fun D D' σ H h q => a _ _ _ _ (fun _ _ z => h.1 _ _ z) q
theorem ms_ret (a : MonE te) : MonS (tRet te) := fun D D' σ H h q => a _ _ _ _ h.2.1 q
theorem ms_retN : MonS tRetN := fun D D' σ H h q => h.2.1 _ _ q
theorem ms_if (a : MonT c) (b : MonS t) (d : MonS u) : MonS (tIfS c t u) := fun D D' σ H h q => a _ _ _ _ (fun k _ z => by cases k; exact d _ _ _ _ h z; exact b _ _ _ _ h z) q
theorem ms_brk : MonS tBreak := fun D D' σ H h q => h.2.2.1 _ _ q
theorem ms_cont : MonS tCont := fun D D' σ H h q => h.2.2.2 _ _ q
theorem ms_never : MonS tNever := fun D D' σ H h q => q
theorem ms_dput {td ty tv : TE} (a : MonE td) (b : MonE ty) (d : MonE tv) : MonS (sDPut td ty tv) := fun D D' σ H h q => d _ _ _ _ (fun _ _ z => a _ _ _ _ (fun _ _ z => b _ _ _ _ (fun _ _ ⟨x, H4, e1, e2, z⟩ => ⟨x, H4, e1, e2, h.1 _ _ z⟩) z) z) q
theorem ms_fldS {K : PySem.W.Frag} {f : Str} (a : MonE ta) (b : MonE tb) : MonS (sFld K ta tb f) := fun D D' σ H h q => b _ _ _ _ (fun _ _ z => a _ _ _ _ (fun _ _ ⟨x, C, dx, fs, e1, e2, e3, e4, e5, z⟩ => ⟨x, C, dx, fs, e1, e2, e3, e4, e5, h.1 _ _ z⟩) z) q
theorem ms_for (a : MonI wi) (b : MonG g) (d : MonS t) : MonS (tFor wi g t) := fun D D' σ H h q =>
  a _ _ _ _ (fun J H1 ⟨W, w0, z⟩ => ⟨W, w0, fun i m σ H hw => by
    rcases z i m σ H hw with ⟨s, y⟩ | ⟨s, N, hN, y⟩
    · exact .inl ⟨s, h.1 _ _ y⟩
    · exact .inr ⟨s, N, hN, fun x H' hy => b _ _ _ _ _ (fun _ _ y' => d { D with nx := N, ct := N, bk := D.nx } { D' with nx := N, ct := N, bk := D'.nx } _ _ ⟨fun _ _ z => z, h.2.1, h.1, fun _ _ z => z⟩ y') (y x H' hy)⟩⟩) q
theorem ms_while (a : MonT c) (b : MonS t) : MonS (tWhile c t) := fun D D' σ H h ⟨W, w0, z⟩ => ⟨W, w0, fun m σ H hw => a _ _ _ _ (fun k H1 y => by
  cases k
  · exact h.1 _ _ y
  · obtain ⟨N, hN, y⟩ := y
    exact ⟨N, hN, b { D with nx := N, ct := N, bk := D.nx } { D' with nx := N, ct := N, bk := D'.nx } _ _ ⟨fun _ _ z => z, h.2.1, h.1, fun _ _ z => z⟩ y⟩) (z m σ H hw)⟩
theorem me_lc {te' : TE} {tt' : TT} {g' : TG} {vs : List Nat} (a : MonI wi) : MonE (tLc wi g' tt' te' vs) := fun σ H Q Q' h q => a _ _ _ _ (fun J H1 z D hD => by
  obtain ⟨W, w0, z⟩ := z D hD
  exact ⟨W, w0, fun i m H hw => (z i m H hw).imp (fun ⟨s, y⟩ => ⟨s, h _ _ y⟩) id⟩) q
theorem me_m1 {rm : V → List V → Hp → VK → Prop} (m : MonM rm) (a : MonE ta) (b : MonE tb) : MonE (tM1 rm ta tb) := fun σ H Q Q' h q => a _ _ _ _ (fun _ _ ⟨e, z⟩ => ⟨e, b _ _ _ _ (fun _ _ z' => m _ _ _ _ _ h z') z⟩) q
theorem mm_split : MonM (fun x xs H Q => ∃ a b, x = .str a ∧ xs = [.str b] ∧ (b.length == 0) = false ∧ a.length + 2 ≤ sizeLine ∧ rNewStrs (Txt.split a b) H Q) := fun x y H Q Q' h ⟨a, b, e1, e2, e3, e4, q⟩ => ⟨a, b, e1, e2, e3, e4, fun p hp => h _ _ (q p hp)⟩
end
end JF

local macro_rules | `(tactic| walk_at "mono1") => `(tactic| first | assumption | (with_reducible apply JF.me_var) | (with_reducible apply JF.me_c) | (with_reducible apply JF.me_op) | (with_reducible apply JF.me_un) | (with_reducible apply JF.me_fld) | (with_reducible apply JF.me_tup) | (with_reducible apply JF.me_lst) | (with_reducible apply JF.me_call) | (with_reducible apply JF.me_meth) | (with_reducible apply JF.me_cb) | (with_reducible apply JF.me_bm) | (with_reducible apply JF.me_bm0) | (with_reducible apply JF.me_andV) | (with_reducible apply JF.me_orV) | (with_reducible apply JF.me_notV) | (with_reducible apply JF.me_if) | (with_reducible apply JF.me_chain) | (with_reducible apply JF.me_sl) | (with_reducible apply JF.me_dget) | (with_reducible apply JF.me_dget2) | (with_reducible apply JF.me_din) | (with_reducible apply JF.me_dnotin) | (with_reducible apply JF.me_dsetd) | (with_reducible apply JF.me_lc) | (with_reducible apply JF.me_m1) | (with_reducible exact JF.mm_split) | (with_reducible apply JF.mt_test') | (with_reducible apply JF.mt_B) | (with_reducible apply JF.mt_and) | (with_reducible apply JF.mt_or) | (with_reducible apply JF.mt_not) | (with_reducible apply JF.ma_nil) | (with_reducible apply JF.ma_cons) | (with_reducible apply JF.mo_none) | (with_reducible apply JF.mo_some) | (with_reducible apply JF.mr_I0) | (with_reducible apply JF.mr_I) | (with_reducible apply JF.mr_eq) | (with_reducible apply JF.mr_ne) | (with_reducible apply JF.mr_ixL) | (with_reducible apply JF.mr_ixT) | (with_reducible apply JF.mr_ixS) | (with_reducible apply JF.mr_cat) | (with_reducible apply JF.mr_in) | (with_reducible apply JF.mr_isN) | (with_reducible apply JF.mr_notN) | (with_reducible apply JF.mu_U) | (with_reducible apply JF.mc_len) | (with_reducible apply JF.mc_isi) | (with_reducible apply JF.mm_append) | (with_reducible apply JF.mg_name) | (with_reducible apply JF.mg_tup) | (with_reducible apply JF.mgs_nil) | (with_reducible apply JF.mgs_cons) | (with_reducible apply JF.mi_L) | (with_reducible apply JF.mi_T) | (with_reducible apply JF.mi_R1) | (with_reducible apply JF.mi_R2) | (with_reducible apply JF.mi_R3) | (with_reducible apply JF.mi_E) | (with_reducible apply JF.mi_S) | (with_reducible apply JF.mi_Z) | (with_reducible apply JF.ms_next) | (with_reducible apply JF.ms_seq) | (with_reducible apply JF.ms_asg) | (with_reducible apply JF.ms_drop) | (with_reducible apply JF.ms_ret) | (with_reducible apply JF.ms_retN) | (with_reducible apply JF.ms_if) | (with_reducible apply JF.ms_brk) | (with_reducible apply JF.ms_cont) | (with_reducible apply JF.ms_never) | (with_reducible apply JF.ms_dput) | (with_reducible apply JF.ms_fldS) | (with_reducible apply JF.ms_for) | (with_reducible apply JF.ms_while))
local macro_rules | `(tactic| walk_at "mono") => `(tactic| repeat' walk_at "mono1")
/-! ### a grove in the heap -/
namespace JF
open PySem PySem.Spec PyProof.Rows L2
theorem nodup_sub_len {α : Type} [DecidableEq α] : ∀ (l m : List α), l.Nodup → (∀ x ∈ l, x ∈ m) → l.length ≤ m.length
  | [], m, _, _ => Nat.zero_le _
  | x :: l, m, h, hs => by
    rw [List.nodup_cons] at h
    have hx : x ∈ m := hs x List.mem_cons_self
    have ih := nodup_sub_len l (m.erase x) h.2 fun y hy => (List.mem_erase_of_ne (fun e => h.1 (by rw [← e]; exact hy))).mpr (hs y (List.mem_cons_of_mem _ hy))
    rw [List.length_erase_of_mem hx] at ih
    have : 0 < m.length := List.length_pos_of_mem hx
    show l.length + 1 ≤ m.length
    omega
theorem states_len {l : List Int} (h : l.Nodup) (hs : ∀ x ∈ l, 0 ≤ x ∧ x ≤ 7) : l.length ≤ 8 :=
  nodup_sub_len l [0, 1, 2, 3, 4, 5, 6, 7] h fun x hx => by
    have := hs x hx
    simp only [List.mem_cons, List.not_mem_nil, or_false]
    omega
structure GA where
  g : Addr
  dx : Addr
  dn : Addr
  dm : Addr
  dl : Addr
  dv : Addr
  ds : Addr
  dp : Addr
def GA.flds (a : GA) : List (Str × V) := [("numbers", .ref a.dn), ("made", .ref a.dm), ("levels", .ref a.dl), ("lives", .ref a.dv), ("spans", .ref a.ds), ("plain", .ref a.dp)]
def GA.m5 (a : GA) : List Addr := [a.dn, a.dm, a.dl, a.dv, a.ds]
def GA.muts (a : GA) (rows : List (Int × Addr)) : List Addr := a.m5 ++ a.dp :: rows.map (·.2)
/-- a span as a value -/
def SpanV (H : Hp) (v : V) : Option Box → Prop
  | none => v = .non
  | some b => ∃ p, v = .ref p ∧ H p = some (.tup [.int b.1, .int b.2.1, .int b.2.2.1, .int b.2.2.2])
theorem SpanV.keep {H H' : Hp} {v : V} {o : Option Box} (h : SpanV H v o) (k : ∀ b xs, H b = some (.tup xs) → H' b = some (.tup xs)) : SpanV H' v o := by
  cases o with
  | none => exact h
  | some b =>
    obtain ⟨p, e, hp⟩ := h
    exact ⟨p, e, k _ _ hp⟩
/-- what the lists of a grove hold -/
structure GData (H : Hp) (a : GA) (q : List Sq) (tups : List Addr) (mk : List (List Int)) (spt : List V) : Prop where
  hn : H a.dn = some (.dT (kvsOf mk 0))
  hm : H a.dm = some (.lst (tups.map V.ref))
  hl : H a.dl = some (.lst (q.map fun S => V.int (S.level : Int)))
  hv : H a.dv = some (.lst (q.map fun S => V.int S.lives))
  hs : H a.ds = some (.lst spt)
  lt : tups.length = q.length
  lm : mk.length = q.length
  ls : spt.length = q.length
  tu : ∀ (i : Nat) t m, tups[i]? = some t → mk[i]? = some m → H t = some (.tup (m.map V.int))
  sp : ∀ (i : Nat) v S, spt[i]? = some v → q[i]? = some S → SpanV H v S.span
  md : ∀ (i : Nat) m S, mk[i]? = some m → q[i]? = some S → Made q S m
structure GAt (C : Addr) (H : Hp) (a : GA) (rows : List (Int × Addr)) (q : List Sq) : Prop where
  ob : H a.g = some (.ins C a.dx a.flds)
  da : ∃ tups mk spt, GData H a q tups mk spt
  wf : ∀ S ∈ q, S.wf
  qn : q.Nodup
  pl : H a.dp = some (.dK (rows.map fun sa => ((Sum.inl sa.1 : Key), V.ref sa.2)))
  nd : (a.g :: a.muts rows).Nodup
  rn : (rows.map (·.1)).Nodup
  rs : ∀ s ∈ rows.map (·.1), 0 ≤ s ∧ s ≤ 7
  ro : ∀ s b, (s, b) ∈ rows → ∃ ns : List Nat, H b = some (.lst (ns.map fun (n : Nat) => V.int (n : Int))) ∧ ∀ (i : Nat) n, ns[i]? = some n → q[n]? = some (Sq.even i s)
/-- all but what stands at these addresses is as it was -/
def Fr (S : List Addr) (H H' : Hp) : Prop := ∀ b o, H b = some o → b ∉ S → H' b = some o
theorem Fr.refl (S : List Addr) (H : Hp) : Fr S H H := fun _ _ h _ => h
theorem Fr.trans {S : List Addr} {H H1 H2 : Hp} (x : Fr S H H1) (y : Fr S H1 H2) : Fr S H H2 := fun b o h n => y b o (x b o h n) n
theorem Fr.mono {S S' : List Addr} {H H' : Hp} (x : Fr S H H') (h : ∀ b ∈ S, b ∈ S') : Fr S' H H' := fun b o e n => x b o e fun z => n (h b z)
theorem fr_of {S : List Addr} {H H' : Hp} (x : Same H H') : Fr S H H' := fun b o e _ => x b o e
def HO.still : HO → Prop
  | .tup _ | .ins _ _ _ | .own _ => True
  | _ => False
/-- a grove stands where its own lists, the tuples and the instances are kept -/
theorem GAt.keep {C : Addr} {H H' : Hp} {a : GA} {rows : List (Int × Addr)} {q : List Sq} (G : GAt C H a rows q) (k : ∀ b o, H b = some o → HO.still o ∨ b ∈ a.muts rows → H' b = some o) : GAt C H' a rows q := by
  obtain ⟨tups, mk, spt, D⟩ := G.da
  have mem : ∀ b, b ∈ a.m5 → b ∈ a.muts rows := fun b h => List.mem_append_left _ h
  refine ⟨k _ _ G.ob (.inl trivial), ⟨tups, mk, spt, k _ _ D.hn (.inr (mem _ (by simp [GA.m5]))), k _ _ D.hm (.inr (mem _ (by simp [GA.m5]))), k _ _ D.hl (.inr (mem _ (by simp [GA.m5]))), k _ _ D.hv (.inr (mem _ (by simp [GA.m5]))), k _ _ D.hs (.inr (mem _ (by simp [GA.m5]))), D.lt, D.lm, D.ls,
    fun i t m h1 h2 => k _ _ (D.tu i t m h1 h2) (.inl trivial), fun i v S h1 h2 => (D.sp i v S h1 h2).keep fun b xs e => k _ _ e (.inl trivial), D.md⟩, G.wf, G.qn, k _ _ G.pl (.inr (by simp [GA.muts])), G.nd, G.rn, G.rs, fun s b h => ?_⟩
  obtain ⟨ns, h1, h2⟩ := G.ro s b h
  refine ⟨ns, k _ _ h1 (.inr ?_), h2⟩
  unfold GA.muts
  exact List.mem_append_right _ (List.mem_cons_of_mem _ (List.mem_map_of_mem (f := fun sa : Int × Addr => sa.2) h))
theorem GAt.same {C : Addr} {H H' : Hp} {a : GA} {rows : List (Int × Addr)} {q : List Sq} (G : GAt C H a rows q) (s : Same H H') : GAt C H' a rows q := G.keep fun b o e _ => s b o e
/-- a new object is laid -/
theorem same_upd {H : Hp} {p : Addr} {o : HO} (h : H p = none) : Same H (upd H p o) := fun b u e => by rw [upd_ne (ne_of_none e h)]; exact e
/-- a list, a dict of the asker's own is changed -/
theorem GAt.upd {C : Addr} {H : Hp} {a : GA} {rows : List (Int × Addr)} {q : List Sq} {p : Addr} {o : HO} (G : GAt C H a rows q) (hp : ∀ u, H p = some u → ¬ HO.still u) (hn : p ∉ a.muts rows) : GAt C (upd H p o) a rows q :=
  G.keep fun b u e h => by
    rw [upd_ne]
    · exact e
    · rintro rfl
      rcases h with h | h
      · exact hp u e h
      · exact hn h
/-- a grove goes on: what was is as it was, squares were added -/
structure GStep (C : Addr) (H : Hp) (a : GA) (rows : List (Int × Addr)) (q : List Sq) (H' : Hp) (rows' : List (Int × Addr)) (q' : List Sq) : Prop where
  gat : GAt C H' a rows' q'
  pre : q <+: q'
  fr : Fr (a.muts rows) H H'
  new : ∀ b ∈ a.muts rows', b ∈ a.muts rows ∨ H b = none
theorem GStep.refl {C : Addr} {H : Hp} {a : GA} {rows : List (Int × Addr)} {q : List Sq} (G : GAt C H a rows q) : GStep C H a rows q H rows q := ⟨G, List.prefix_refl _, Fr.refl _ _, fun _ h => .inl h⟩
theorem GStep.trans {C : Addr} {H H1 H2 : Hp} {a : GA} {rows r1 r2 : List (Int × Addr)} {q q1 q2 : List Sq} (x : GStep C H a rows q H1 r1 q1) (y : GStep C H1 a r1 q1 H2 r2 q2) : GStep C H a rows q H2 r2 q2 := by
  refine ⟨y.gat, x.pre.trans y.pre, fun b o e n => ?_, fun b h => ?_⟩
  · refine y.fr b o (x.fr b o e n) fun z => ?_
    rcases x.new b z with z | z
    · exact n z
    · rw [e] at z; cases z
  · rcases y.new b h with z | z
    · exact x.new b z
    · by_cases hb : b ∈ a.muts rows
      · exact .inl hb
      · right
        cases q : H b with
        | none => rfl
        | some o =>
          rw [x.fr b o q hb] at z
          cases z
/-- the asker's own things are kept, and stay the asker's own -/
theorem GStep.own {C : Addr} {H H1 : Hp} {a : GA} {rows r1 : List (Int × Addr)} {q q1 : List Sq} (x : GStep C H a rows q H1 r1 q1) {b : Addr} {o : HO} (h : H b = some o) (n : b ∉ a.muts rows) : H1 b = some o ∧ b ∉ a.muts r1 :=
  ⟨x.fr b o h n, fun z => (x.new b z).elim n fun z => by rw [h] at z; cases z⟩
theorem pre_get {q q' : List Sq} (h : q <+: q') {n : Nat} {S : Sq} (e : q[n]? = some S) : q'[n]? = some S := by
  obtain ⟨t, rfl⟩ := h
  exact getElem?_app e t
theorem ne_app {H : Hp} {b : Addr} {o : HO} {S : List Addr} (h : H b = some o) (hs : ∀ c ∈ S, ∀ u, H c = some u → o ≠ u) (hn : ∀ c ∈ S, ∃ u, H c = some u) : b ∉ S := fun z => by
  obtain ⟨u, e⟩ := hn b z
  refine hs b z u e ?_
  rw [h] at e
  exact Option.some.inj e
/-- a tuple is none of a grove's own lists -/
theorem GAt.tup_out {C : Addr} {H : Hp} {a : GA} {rows : List (Int × Addr)} {q : List Sq} (G : GAt C H a rows q) {b : Addr} {xs : List V} (h : H b = some (.tup xs)) : b ∉ a.muts rows := by
  obtain ⟨tups, mk, spt, D⟩ := G.da
  intro z
  unfold GA.muts GA.m5 at z
  simp only [List.cons_append, List.nil_append, List.mem_cons, List.mem_map] at z
  rcases z with rfl | rfl | rfl | rfl | rfl | rfl | ⟨sa, hm, rfl⟩
  · rw [D.hn] at h; cases h
  · rw [D.hm] at h; cases h
  · rw [D.hl] at h; cases h
  · rw [D.hv] at h; cases h
  · rw [D.hs] at h; cases h
  · rw [G.pl] at h; cases h
  · obtain ⟨ns, e, _⟩ := G.ro sa.1 sa.2 hm
    rw [e] at h; cases h
/-- what is new is none of them -/
theorem GAt.new_out {C : Addr} {H : Hp} {a : GA} {rows : List (Int × Addr)} {q : List Sq} (G : GAt C H a rows q) {b : Addr} (h : H b = none) : b ∉ a.muts rows := by
  obtain ⟨tups, mk, spt, D⟩ := G.da
  intro z
  unfold GA.muts GA.m5 at z
  simp only [List.cons_append, List.nil_append, List.mem_cons, List.mem_map] at z
  rcases z with rfl | rfl | rfl | rfl | rfl | rfl | ⟨sa, hm, rfl⟩
  · rw [D.hn] at h; cases h
  · rw [D.hm] at h; cases h
  · rw [D.hl] at h; cases h
  · rw [D.hv] at h; cases h
  · rw [D.hs] at h; cases h
  · rw [G.pl] at h; cases h
  · obtain ⟨ns, e, _⟩ := G.ro sa.1 sa.2 hm
    rw [e] at h; cases h
end JF

/-! ### the grove's small defs -/
namespace JF
open PySem PySem.Spec PyProof.Rows L2
section
variable {P : Program} {w : World} {K : PySem.W.Frag} {mg : Str → Option Value} {base : Heap}
/-- is_whole of a whole number, a truth, a text, None -/
def wholeV : V → Bool
  | .int _ => true
  | _ => false
def sp_is_whole : Sp := fun vs H Q _ => ∃ x : V, vs = [x] ∧ ((∃ i, x = .int i) ∨ (∃ b, x = .bl b) ∨ (∃ z, x = .str z) ∨ x = .non) ∧ Q (.bl (wholeV x)) H
theorem isi_ty {H : Hp} {Q : VK} {x : V} {a b : String} {r : Bool} (h : TyX K H x (.type a)) (k : kitB a b = some r) (q : Q (.bl r) H) : rIsi K [x, .ty b] H Q :=
  ⟨x, .ty b, _, _, r, rfl, .ty b, h, kit_ty k, q⟩
/-! ### a state -/
def stateV : V → Bool
  | .int i => decide (0 ≤ i) && decide (i ≤ 7)
  | _ => false
theorem stateV_ok {s : Int} (h0 : 0 ≤ s) (h7 : s ≤ 7) : stateV (.int s) = true := by show (decide (0 ≤ s) && decide (s ≤ 7)) = true; rw [decide_eq_true h0, decide_eq_true h7]; rfl
def sp_is_state : Sp := fun vs H Q _ => ∃ x : V, vs = [x] ∧ ((∃ i, x = .int i) ∨ (∃ b, x = .bl b) ∨ (∃ z, x = .str z) ∨ x = .non) ∧ Q (.bl (stateV x)) H
/-! ### boxes -/
def sp_round_both : Sp := fun vs H Q _ => ∃ (v : V) (o : Option Box) (p : Addr) (b : Box), vs = [v, .ref p] ∧ SpanV H v o ∧ SpanV H (.ref p) (some b) ∧ ∀ H' u, Same H H' → SpanV H' u (some (rb o b)) → Q u H'
theorem min_if (a b : Int) : (if b < a then b else a) = min a b := by rw [Int.min_def]; split <;> split <;> omega
theorem max_if (a b : Int) : (if b > a then b else a) = max a b := by rw [Int.max_def]; split <;> split <;> omega
/-! ### the span of four -/
def acc4 (half : Int) (os : List (Option Box)) : Nat → Option Box
  | 0 => none
  | k + 1 => r4step half (k : Int) (acc4 half os k) (os.getD k none)
def sp_round_four : Sp := fun vs H Q _ => ∃ (p : Addr) (us : List V) (os : List (Option Box)) (half : Int), vs = [.ref p, .int half] ∧ H p = some (.lst us) ∧ us.length = 4 ∧ os.length = 4 ∧ (∀ (i : Nat) v o, us[i]? = some v → os[i]? = some o → SpanV H v o) ∧
  0 ≤ half ∧ half < 2 ^ 64 ∧ ∀ H' u, Same H H' → SpanV H' u (acc4 half os 4) → Q u H'
theorem half_ok {h x : Int} (h0 : 0 ≤ h) (h1 : h < 2 ^ 64) (x0 : 0 ≤ x) (x1 : x < 4) : CMulW h x := by
  have e1 : (2 : Int) ^ 64 ≤ 2 ^ 2000 := by decide +kernel
  have e2 : (4 : Int) ≤ 2 ^ 2000 := by decide +kernel
  exact mulW_of (by omega) (by omega) (by omega) (by omega)
end
end JF

/-! ### the grove's methods: kept, cell, knit -/
namespace JF
open PySem PySem.Spec PyProof.Rows L2
/-- the class stands at -/
abbrev CG (K : PySem.W.Frag) : Addr := He.ga K "Grove"
theorem nd_of {a : GA} {rows : List (Int × Addr)} (h : (a.g :: a.muts rows).Nodup) :
    (a.g ≠ a.dn ∧ a.g ≠ a.dm ∧ a.g ≠ a.dl ∧ a.g ≠ a.dv ∧ a.g ≠ a.ds ∧ a.g ≠ a.dp) ∧ (a.dn ≠ a.dm ∧ a.dn ≠ a.dl ∧ a.dn ≠ a.dv ∧ a.dn ≠ a.ds ∧ a.dn ≠ a.dp) ∧ (a.dm ≠ a.dl ∧ a.dm ≠ a.dv ∧ a.dm ≠ a.ds ∧ a.dm ≠ a.dp) ∧ (a.dl ≠ a.dv ∧ a.dl ≠ a.ds ∧ a.dl ≠ a.dp) ∧ (a.dv ≠ a.ds ∧ a.dv ≠ a.dp) ∧ a.ds ≠ a.dp ∧
      ∀ s b, (s, b) ∈ rows → b ≠ a.g ∧ b ≠ a.dn ∧ b ≠ a.dm ∧ b ≠ a.dl ∧ b ≠ a.dv ∧ b ≠ a.ds ∧ b ≠ a.dp := by
  simp only [GA.muts, GA.m5, List.cons_append, List.nil_append, List.nodup_cons, List.mem_cons, not_or] at h
  obtain ⟨⟨g1, g2, g3, g4, g5, g6, g7⟩, ⟨n1, n2, n3, n4, n5, n6⟩, ⟨m1, m2, m3, m4, m5⟩, ⟨l1, l2, l3, l4⟩, ⟨v1, v2, v3⟩, ⟨s1, s2⟩, p1, _⟩ := h
  refine ⟨⟨g1, g2, g3, g4, g5, g6⟩, ⟨n1, n2, n3, n4, n5⟩, ⟨m1, m2, m3, m4⟩, ⟨l1, l2, l3⟩, ⟨v1, v2⟩, s1, fun s b hb => ?_⟩
  have hm : b ∈ rows.map (·.2) := List.mem_map_of_mem (f := fun sa : Int × Addr => sa.2) hb
  exact ⟨fun z => g7 (z ▸ hm), fun z => n6 (z ▸ hm), fun z => m5 (z ▸ hm), fun z => l4 (z ▸ hm), fun z => v3 (z ▸ hm), fun z => s2 (z ▸ hm), fun z => p1 (z ▸ hm)⟩
theorem inl_kV (m : List Int) : (m.map (Sum.inl : Int → Key)).map kV = m.map V.int := by
  rw [List.map_map]; rfl
theorem snoc_get {α β : Type} {l : List α} {x : α} {l' : List β} {y : β} (hl : l.length = l'.length) {i : Nat} {u : α} {v : β} (h1 : (l ++ [x])[i]? = some u) (h2 : (l' ++ [y])[i]? = some v) : (l[i]? = some u ∧ l'[i]? = some v) ∨ (i = l.length ∧ u = x ∧ v = y) := by
  by_cases h : i < l.length
  · rw [List.getElem?_append_left h] at h1
    rw [List.getElem?_append_left (by omega)] at h2
    exact .inl ⟨h1, h2⟩
  · have hi : i < (l ++ [x]).length := (List.getElem?_eq_some_iff.mp h1).1
    have e : i = l.length := by simp at hi; omega
    subst e
    simp at h1
    rw [hl] at h2
    simp at h2
    exact .inr ⟨rfl, h1.symm, h2.symm⟩
/-- a square that is there stands in the dict by its own number; one that is not there does not -/
theorem look_of {q : List Sq} {mk : List (List Int)} (qn : q.Nodup) (lm : mk.length = q.length) (md : ∀ (i : Nat) m S, mk[i]? = some m → q[i]? = some S → Made q S m) {S : Sq} {m : List Int} (hm : Made q S m) :
    (∀ n, lookI mk m 0 = some n → q[n]? = some S) ∧ (lookI mk m 0 = none → S ∉ q) := by
  constructor
  · intro n h
    obtain ⟨_, h2⟩ := lookI_some h
    simp only [Nat.sub_zero] at h2
    have hn : n < q.length := by rw [← lm]; exact (List.getElem?_eq_some_iff.mp h2).1
    have e : q[n]? = some q[n] := by simp [hn]
    rw [e]
    exact congrArg some (made_same (md n m _ h2 e) hm)
  · intro h hS
    obtain ⟨n, hn, e⟩ := List.mem_iff_getElem.mp hS
    have hn' : n < mk.length := by omega
    have e1 : mk[n]? = some mk[n] := by simp [hn']
    have e2 : q[n]? = some S := by simp [hn, e]
    refine lookI_none h ?_
    rw [made_inj qn hm (md n _ S e1 e2)]
    exact List.getElem_mem hn'
/-- the heap behind kept -/
theorem gat_kept {C : Addr} {H H' : Hp} {a : GA} {rows : List (Int × Addr)} {q : List Sq} {tups : List Addr} {mk : List (List Int)} {spt : List V} {S : Sq} {t : Addr} {m : List Int} {v : V} (G : GAt C H a rows q) (D : GData H a q tups mk spt)
    (ht : H t = some (.tup (m.map V.int))) (hm : Made q S m) (hw : S.wf) (hS : S ∉ q) (hv : SpanV H v S.span)
    (h1 : H' a.dn = some (.dT (kvsOf (mk ++ [m]) 0))) (h2 : H' a.dm = some (.lst ((tups ++ [t]).map V.ref))) (h3 : H' a.dl = some (.lst ((q ++ [S]).map fun S => V.int (S.level : Int)))) (h4 : H' a.dv = some (.lst ((q ++ [S]).map fun S => V.int S.lives))) (h5 : H' a.ds = some (.lst (spt ++ [v])))
    (fr : Fr a.m5 H H') : GAt C H' a rows (q ++ [S]) := by
  obtain ⟨⟨g1, g2, g3, g4, g5, g6⟩, ⟨n1, n2, n3, n4, n5⟩, ⟨m1, m2, m3, m4⟩, ⟨l1, l2, l3⟩, ⟨v1, v2⟩, s1, hr⟩ := nd_of G.nd
  have out : ∀ b xs, H b = some (.tup xs) → H' b = some (.tup xs) := fun b xs e => fr b _ e fun z => G.tup_out e (List.mem_append_left _ z)
  refine ⟨fr _ _ G.ob (by simp [GA.m5, g1, g2, g3, g4, g5]), ⟨tups ++ [t], mk ++ [m], spt ++ [v], h1, h2, h3, h4, h5, by simp [D.lt], by simp [D.lm], by simp [D.ls], fun i t' m' e1 e2 => ?_, fun i v' S' e1 e2 => ?_, fun i m' S' e1 e2 => ?_⟩, fun S' h => ?_, ?_, fr _ _ G.pl (by simp [GA.m5, Ne.symm n5, Ne.symm m4, Ne.symm l3, Ne.symm v2, Ne.symm s1]), G.nd, G.rn, G.rs, fun s b hb => ?_⟩
  · rcases snoc_get (by rw [D.lt, D.lm]) e1 e2 with ⟨e1, e2⟩ | ⟨_, rfl, rfl⟩
    · exact out _ _ (D.tu i t' m' e1 e2)
    · exact out _ _ ht
  · rcases snoc_get D.ls e1 e2 with ⟨e1, e2⟩ | ⟨_, rfl, rfl⟩
    · exact (D.sp i v' S' e1 e2).keep out
    · exact hv.keep out
  · rcases snoc_get D.lm e1 e2 with ⟨e1, e2⟩ | ⟨_, rfl, rfl⟩
    · exact (D.md i m' S' e1 e2).app _
    · exact hm.app _
  · rcases List.mem_append.mp h with h | h
    · exact G.wf S' h
    · simp only [List.mem_singleton] at h; subst h; exact hw
  · rw [List.nodup_append]
    refine ⟨G.qn, by simp, fun x hx y hy e => ?_⟩
    simp only [List.mem_singleton] at hy
    subst hy
    exact hS (e ▸ hx)
  · obtain ⟨ns, e, k⟩ := G.ro s b hb
    obtain ⟨_, b1, b2, b3, b4, b5, _⟩ := hr s b hb
    refine ⟨ns, fr _ _ e (by simp [GA.m5, b1, b2, b3, b4, b5]), fun i n hn => getElem?_app (k i n hn) _⟩
section
variable {P : Program} {w : World} {K : PySem.W.Frag} {mg : Str → Option Value} {base : Heap}
def sp_kept (C : Addr) : Sp := fun vs H Q _ => ∃ (a : GA) (rows : List (Int × Addr)) (q : List Sq) (S : Sq) (t : Addr) (m : List Int) (v : V), vs = [.ref a.g, .ref t, .int (S.level : Int), .int S.lives, v] ∧ GAt C H a rows q ∧ H t = some (.tup (m.map V.int)) ∧ Made q S m ∧ S.wf ∧ S ∉ q ∧ SpanV H v S.span ∧ q.length < 16000000 ∧
  ∀ H', GAt C H' a rows (q ++ [S]) → Fr a.m5 H H' → Q (.int (q.length : Int)) H'
theorem sizeBig : 16000000 < sizeLine := by decide
/-! ### cell and knit -/
theorem take_snoc {α : Type} {l : List α} {i : Nat} {v : α} (h : l[i]? = some v) : l.take (i + 1) = l.take i ++ [v] := by
  rw [List.take_add_one, h]; rfl
def sp_cell (C : Addr) : Sp := fun vs H Q _ => ∃ (a : GA) (rows : List (Int × Addr)) (q : List Sq) (s : Int), vs = [.ref a.g, .int s] ∧ GAt C H a rows q ∧ 0 ≤ s ∧ s ≤ 7 ∧ q.length < 16000000 ∧
  ∀ H' q' (n : Nat), GAt C H' a rows q' → q <+: q' → q'.length ≤ q.length + 1 → q'[n]? = some (.leaf s) → Fr a.m5 H H' → Q (.int (n : Int)) H'
def sp_knit (C : Addr) : Sp := fun vs H Q _ => ∃ (a : GA) (rows : List (Int × Addr)) (q : List Sq) (A B C' D : Sq) (na nb nc nd : Nat), vs = [.ref a.g, .int (na : Int), .int (nb : Int), .int (nc : Int), .int (nd : Int)] ∧ GAt C H a rows q ∧
  q[na]? = some A ∧ q[nb]? = some B ∧ q[nc]? = some C' ∧ q[nd]? = some D ∧ (Sq.node A B C' D).wf ∧ A.level ≤ 60 ∧ q.length < 16000000 ∧
  ∀ H' q' (n : Nat), GAt C H' a rows q' → q <+: q' → q'.length ≤ q.length + 1 → q'[n]? = some (.node A B C' D) → Fr a.m5 H H' → Q (.int (n : Int)) H'
theorem map_get {α β : Type} {l : List α} {n : Nat} {x : α} (f : α → β) (h : l[n]? = some x) : (l.map f)[n]? = some (f x) := by
  rw [List.getElem?_map, h]; rfl
theorem acc4_r4 (half : Int) (a b c d : Option Box) : acc4 half [a, b, c, d] 4 = r4 half a b c d := rfl
theorem mp_kept {C : Addr} : MonP (sp_kept C) := fun vs H Q Q' E h ⟨a, rows, q, S, t, m, v, x1, x2, x3, x4, x5, x6, x7, x8, k⟩ => ⟨a, rows, q, S, t, m, v, x1, x2, x3, x4, x5, x6, x7, x8, fun H' g f => h _ _ (k H' g f)⟩
theorem mp_cell {C : Addr} : MonP (sp_cell C) := fun vs H Q Q' E h ⟨a, rows, q, s, x1, x2, x3, x4, x5, k⟩ => ⟨a, rows, q, s, x1, x2, x3, x4, x5, fun H' q' n g p l e f => h _ _ (k H' q' n g p l e f)⟩
theorem mp_knit {C : Addr} : MonP (sp_knit C) := fun vs H Q Q' E h ⟨a, rows, q, A, B, C', D, na, nb, nc, nd, x1, x2, x3, x4, x5, x6, x7, x8, x9, k⟩ => ⟨a, rows, q, A, B, C', D, na, nb, nc, nd, x1, x2, x3, x4, x5, x6, x7, x8, x9, fun H' q' n g p l e f => h _ _ (k H' q' n g p l e f)⟩
end
end JF

/-! ### the grove's methods: __init__, even -/
namespace JF
open PySem PySem.Spec PyProof.Rows L2
section
variable {P : Program} {w : World} {K : PySem.W.Frag} {mg : Str → Option Value} {base : Heap}
def sp_ginit (C : Addr) : Sp := fun vs H Q _ => ∃ (p dx : Addr), vs = [.ref p] ∧ H p = some (.ins C dx []) ∧ ∀ (a : GA) (H' : Hp), a.g = p → GAt C H' a [] [] → (∀ b ∈ a.muts [], H b = none) → (∀ b o, H b = some o → b ≠ p → H' b = some o) → Q .non H'
end
end JF

/-! ### even, and the asking methods -/
namespace JF
open PySem PySem.Spec PyProof.Rows L2
/-- a row of plain squares grows -/
theorem GAt.row {C : Addr} {H : Hp} {a : GA} {rows : List (Int × Addr)} {q : List Sq} {s : Int} {b : Addr} {ns : List Nat} (G : GAt C H a rows q) (h : (s, b) ∈ rows) (hv : ∀ (i : Nat) n, ns[i]? = some n → q[n]? = some (Sq.even i s)) :
    GAt C (L2.upd H b (.lst (ns.map fun (n : Nat) => V.int (n : Int)))) a rows q := by
  obtain ⟨tups, mk, spt, D⟩ := G.da
  obtain ⟨⟨g1, g2, g3, g4, g5, g6⟩, _, _, _, _, _, hr⟩ := nd_of G.nd
  obtain ⟨r1, r2, r3, r4', r5, r6, r7⟩ := hr s b h
  obtain ⟨ns0, hb0, _⟩ := G.ro s b h
  have out : ∀ c xs, H c = some (.tup xs) → L2.upd H b (.lst (ns.map fun (n : Nat) => V.int (n : Int))) c = some (.tup xs) := fun c xs e => by
    rw [upd_ne (by rintro rfl; rw [hb0] at e; cases e)]; exact e
  refine ⟨by rw [upd_ne r1.symm]; exact G.ob, ⟨tups, mk, spt, by rw [upd_ne r2.symm]; exact D.hn, by rw [upd_ne r3.symm]; exact D.hm, by rw [upd_ne r4'.symm]; exact D.hl, by rw [upd_ne r5.symm]; exact D.hv, by rw [upd_ne r6.symm]; exact D.hs, D.lt, D.lm, D.ls,
    fun i t m h1 h2 => out _ _ (D.tu i t m h1 h2), fun i v S h1 h2 => (D.sp i v S h1 h2).keep out, D.md⟩, G.wf, G.qn, by rw [upd_ne r7.symm]; exact G.pl, G.nd, G.rn, G.rs, fun s' b' h' => ?_⟩
  by_cases e : b' = b
  · subst e
    have hs : s' = s := by
      have nd2 : (rows.map (·.2)).Nodup := by
        have z := (List.nodup_cons.mp G.nd).2
        unfold GA.muts at z
        exact (List.nodup_cons.mp (List.nodup_append.mp z).2.1).2
      obtain ⟨i, hi, e1⟩ := List.mem_iff_getElem.mp h
      obtain ⟨j, hj, e2⟩ := List.mem_iff_getElem.mp h'
      have e3 : i = j := (List.getElem_inj (xs := rows.map (·.2)) (h₀ := by simpa using hi) (h₁ := by simpa using hj) nd2).mp (by simp [e1, e2])
      subst e3
      rw [e1] at e2
      exact (congrArg Prod.fst e2).symm
    subst hs
    exact ⟨ns, upd_same, hv⟩
  · obtain ⟨ns', e1, e2⟩ := G.ro s' b' h'
    exact ⟨ns', by rw [upd_ne e]; exact e1, e2⟩
theorem rows_look {rows : List (Int × Addr)} {s : Int} : (∀ v, valV (rows.map fun sa => ((Sum.inl sa.1 : Key), V.ref sa.2)) (Sum.inl s) = some v → ∃ b, (s, b) ∈ rows ∧ v = .ref b) ∧ (valV (rows.map fun sa => ((Sum.inl sa.1 : Key), V.ref sa.2)) (Sum.inl s) = none → s ∉ rows.map (·.1)) := by
  induction rows with
  | nil => exact ⟨fun v h => (by cases h), fun _ => by simp⟩
  | cons x r ih =>
    by_cases e : x.1 = s
    · constructor
      · intro v h
        have h' : some (V.ref x.2) = some v := by rw [← h]; simp [valV, e]
        exact ⟨x.2, by rw [← e]; exact List.mem_cons_self, (Option.some.inj h').symm⟩
      · intro h
        have h' : valV (((x :: r).map fun sa => ((Sum.inl sa.1 : Key), V.ref sa.2))) (Sum.inl s) = some (V.ref x.2) := by simp [valV, e]
        rw [h'] at h; cases h
    · have e' : ¬ ((Sum.inl x.1 : Key) = Sum.inl s) := fun z => e (Sum.inl.inj z)
      have eq : valV (((x :: r).map fun sa => ((Sum.inl sa.1 : Key), V.ref sa.2))) (Sum.inl s) = valV ((r.map fun sa => ((Sum.inl sa.1 : Key), V.ref sa.2))) (Sum.inl s) := by
        simp [valV, e]
      rw [eq]
      refine ⟨fun v h => ?_, fun h => ?_⟩
      · obtain ⟨b, h1, h2⟩ := ih.1 v h
        exact ⟨b, List.mem_cons_of_mem _ h1, h2⟩
      · simp only [List.map_cons, List.mem_cons, not_or]
        exact ⟨fun z => e z.symm, ih.2 h⟩
/-- a new row -/
theorem GAt.addrow {C : Addr} {H : Hp} {a : GA} {rows : List (Int × Addr)} {q : List Sq} {s : Int} {p : Addr} (G : GAt C H a rows q) (hp : H p = none) (hs : s ∉ rows.map (·.1)) (h0 : 0 ≤ s) (h7 : s ≤ 7) :
    GAt C (L2.upd (L2.upd H p (.lst [])) a.dp (.dK ((rows.map fun sa => ((Sum.inl sa.1 : Key), V.ref sa.2)) ++ [((Sum.inl s : Key), V.ref p)]))) a (rows ++ [(s, p)]) q := by
  have G1 := G.same (same_upd (o := .lst []) hp)
  obtain ⟨tups, mk, spt, D⟩ := G1.da
  obtain ⟨⟨g1, g2, g3, g4, g5, g6⟩, ⟨n1, n2, n3, n4, n5⟩, ⟨m1, m2, m3, m4⟩, ⟨l1, l2, l3⟩, ⟨v1, v2⟩, s1, hr⟩ := nd_of G.nd
  have hdp : ∀ xs, L2.upd H p (.lst []) a.dp ≠ some (.tup xs) := fun xs e => by rw [G1.pl] at e; cases e
  have out : ∀ c xs o, L2.upd H p (.lst []) c = some (.tup xs) → L2.upd (L2.upd H p (.lst [])) a.dp o c = some (.tup xs) := fun c xs o e => by
    rw [upd_ne (by rintro rfl; exact hdp _ e)]; exact e
  refine ⟨by rw [upd_ne g6]; exact G1.ob, ⟨tups, mk, spt, by rw [upd_ne n5]; exact D.hn, by rw [upd_ne m4]; exact D.hm, by rw [upd_ne l3]; exact D.hl, by rw [upd_ne v2]; exact D.hv, by rw [upd_ne s1]; exact D.hs, D.lt, D.lm, D.ls,
    fun i t m h1 h2 => out _ _ _ (D.tu i t m h1 h2), fun i v S h1 h2 => (D.sp i v S h1 h2).keep fun b xs e => out _ _ _ e, D.md⟩, G1.wf, G1.qn, by rw [upd_same, List.map_append]; rfl, ?_, ?_, fun s' h' => ?_, fun s' b' h' => ?_⟩
  · have hout := G.new_out hp
    have hg : a.g ≠ p := ne_of_none G.ob hp
    have z := G.nd
    rw [List.nodup_cons] at z ⊢
    have em : a.muts (rows ++ [(s, p)]) = a.muts rows ++ [p] := by simp [GA.muts]
    rw [em]
    refine ⟨fun h => ?_, ?_⟩
    · rcases List.mem_append.mp h with h | h
      · exact z.1 h
      · simp only [List.mem_singleton] at h; exact hg h
    · rw [List.nodup_append]
      refine ⟨z.2, by simp, fun x hx y hy e => ?_⟩
      simp only [List.mem_singleton] at hy
      subst hy
      exact hout (e ▸ hx)
  · rw [List.map_append, List.nodup_append]
    refine ⟨G.rn, by simp, fun x hx y hy e => ?_⟩
    simp only [List.map_cons, List.map_nil, List.mem_singleton] at hy
    subst hy
    exact hs (e ▸ hx)
  · rw [List.map_append] at h'
    rcases List.mem_append.mp h' with h' | h'
    · exact G.rs s' h'
    · simp only [List.map_cons, List.map_nil, List.mem_singleton] at h'
      subst h'; exact ⟨h0, h7⟩
  · rcases List.mem_append.mp h' with h' | h'
    · obtain ⟨ns, e1, e2⟩ := G1.ro s' b' h'
      obtain ⟨_, _, _, _, _, _, r7⟩ := hr s' b' h'
      exact ⟨ns, by rw [upd_ne r7]; exact e1, e2⟩
    · simp only [List.mem_singleton, Prod.mk.injEq] at h'
      obtain ⟨rfl, rfl⟩ := h'
      have : b' ≠ a.dp := (ne_of_none G.pl hp).symm
      exact ⟨[], by rw [upd_ne this, upd_same]; rfl, fun i n h => by simp at h⟩
theorem fr_muts {a : GA} {rows : List (Int × Addr)} {H H' : Hp} (h : Fr a.m5 H H') : Fr (a.muts rows) H H' := h.mono fun b hb => List.mem_append_left _ hb
theorem row_mem {a : GA} {rows : List (Int × Addr)} {s : Int} {b : Addr} (h : (s, b) ∈ rows) : b ∈ a.muts rows :=
  List.mem_append_right _ (List.mem_cons_of_mem _ (List.mem_map_of_mem (f := fun sa : Int × Addr => sa.2) h))
/-- knit's and cell's way: the rows stay -/
theorem GStep.m5 {C : Addr} {H H1 H2 : Hp} {a : GA} {rows r1 : List (Int × Addr)} {q q1 q2 : List Sq} (x : GStep C H a rows q H1 r1 q1) (G : GAt C H2 a r1 q2) (p : q1 <+: q2) (f : Fr a.m5 H1 H2) : GStep C H a rows q H2 r1 q2 :=
  x.trans ⟨G, p, fr_muts f, fun _ h => .inl h⟩
theorem GStep.row {C : Addr} {H H1 : Hp} {a : GA} {rows r1 : List (Int × Addr)} {q q1 : List Sq} {s : Int} {b : Addr} {ns : List Nat} (x : GStep C H a rows q H1 r1 q1) (h : (s, b) ∈ r1) (hv : ∀ (i : Nat) n, ns[i]? = some n → q1[n]? = some (Sq.even i s)) :
    GStep C H a rows q (L2.upd H1 b (.lst (ns.map fun (n : Nat) => V.int (n : Int)))) r1 q1 :=
  x.trans ⟨x.gat.row h hv, List.prefix_refl _, fun c o e n => by rw [upd_ne (by rintro rfl; exact n (row_mem h))]; exact e, fun _ h => .inl h⟩
theorem GStep.same {C : Addr} {H H1 H2 : Hp} {a : GA} {rows r1 : List (Int × Addr)} {q q1 : List Sq} (x : GStep C H a rows q H1 r1 q1) (s : Same H1 H2) : GStep C H a rows q H2 r1 q1 :=
  x.trans ⟨x.gat.same s, List.prefix_refl _, fr_of s, fun _ h => .inl h⟩
theorem row_not5 {C : Addr} {H : Hp} {a : GA} {rows : List (Int × Addr)} {q : List Sq} {s : Int} {b : Addr} (G : GAt C H a rows q) (h : (s, b) ∈ rows) : b ∉ a.m5 := by
  obtain ⟨_, _, _, _, _, _, hr⟩ := nd_of G.nd
  obtain ⟨r1, r2, r3, r4', r5, r6, r7⟩ := hr s b h
  simp [GA.m5, r2, r3, r4', r5, r6]
theorem map_int_len (ns : List Nat) : (ns.map fun (n : Nat) => V.int (n : Int)).length = ns.length := List.length_map _
section
variable {P : Program} {w : World} {K : PySem.W.Frag} {mg : Str → Option Value} {base : Heap}
def sp_even (C : Addr) : Sp := fun vs H Q _ => ∃ (a : GA) (rows : List (Int × Addr)) (q : List Sq) (l : Nat) (s : Int), vs = [.ref a.g, .int (l : Int), .int s] ∧ GAt C H a rows q ∧ l ≤ 60 ∧ 0 ≤ s ∧ s ≤ 7 ∧ q.length + 100 < 16000000 ∧
  ∀ H' rows' q' (n : Nat), GStep C H a rows q H' rows' q' → q'.length ≤ q.length + l + 1 → q'[n]? = some (Sq.even l s) → Q (.int (n : Int)) H'
end
end JF

/-! ### the asking methods (no refusal) -/
namespace JF
open PySem PySem.Spec PyProof.Rows L2
section
variable {P : Program} {w : World} {K : PySem.W.Frag} {mg : Str → Option Value} {base : Heap}
theorem at_lt {q : List Sq} {n : Nat} {S : Sq} (h : q[n]? = some S) : n < q.length := (List.getElem?_eq_some_iff.mp h).1
def sp_asked (C : Addr) : Sp := fun vs H Q _ => ∃ (a : GA) (rows : List (Int × Addr)) (q : List Sq) (n : Nat) (S : Sq), vs = [.ref a.g, .int (n : Int)] ∧ GAt C H a rows q ∧ q[n]? = some S ∧ q.length ≤ 16000000 ∧ Q (.int (S.level : Int)) H
theorem mp_asked {C : Addr} : MonP (sp_asked C) := fun vs H Q Q' E h ⟨a, rows, q, n, S, x1, x2, x3, x4, k⟩ => ⟨a, rows, q, n, S, x1, x2, x3, x4, h _ _ k⟩
/-- what asks one square, and tells a value: the level and so on -/
def sp_level_of (C : Addr) : Sp := sp_asked C
def sp_living (C : Addr) : Sp := fun vs H Q _ => ∃ (a : GA) (rows : List (Int × Addr)) (q : List Sq) (n : Nat) (S : Sq), vs = [.ref a.g, .int (n : Int)] ∧ GAt C H a rows q ∧ q[n]? = some S ∧ q.length ≤ 16000000 ∧ Q (.int S.lives) H
theorem mp_living {C : Addr} : MonP (sp_living C) := fun vs H Q Q' E h ⟨a, rows, q, n, S, x1, x2, x3, x4, k⟩ => ⟨a, rows, q, n, S, x1, x2, x3, x4, h _ _ k⟩
def sp_span (C : Addr) : Sp := fun vs H Q _ => ∃ (a : GA) (rows : List (Int × Addr)) (q : List Sq) (n : Nat) (S : Sq), vs = [.ref a.g, .int (n : Int)] ∧ GAt C H a rows q ∧ q[n]? = some S ∧ q.length ≤ 16000000 ∧ ∀ v, SpanV H v S.span → Q v H
theorem mp_span {C : Addr} : MonP (sp_span C) := fun vs H Q Q' E h ⟨a, rows, q, n, S, x1, x2, x3, x4, k⟩ => ⟨a, rows, q, n, S, x1, x2, x3, x4, fun v hv => h _ _ (k v hv)⟩
/-- the quarters, as the tuple that stands there -/
def sp_quarters (C : Addr) : Sp := fun vs H Q _ => ∃ (a : GA) (rows : List (Int × Addr)) (q : List Sq) (n : Nat) (A B C' D : Sq), vs = [.ref a.g, .int (n : Int)] ∧ GAt C H a rows q ∧ q[n]? = some (.node A B C' D) ∧ q.length ≤ 16000000 ∧
  ∀ (t : Addr) (x y z u : Nat), H t = some (.tup [.int (x : Int), .int (y : Int), .int (z : Int), .int (u : Int)]) → q[x]? = some A → q[y]? = some B → q[z]? = some C' → q[u]? = some D → Q (.ref t) H
theorem mp_quarters {C : Addr} : MonP (sp_quarters C) := fun vs H Q Q' E h ⟨a, rows, q, n, A, B, C', D, x1, x2, x3, x4, k⟩ => ⟨a, rows, q, n, A, B, C', D, x1, x2, x3, x4, fun t x y z u e1 e2 e3 e4 e5 => h _ _ (k t x y z u e1 e2 e3 e4 e5)⟩
def sp_state_of (C : Addr) : Sp := fun vs H Q _ => ∃ (a : GA) (rows : List (Int × Addr)) (q : List Sq) (n : Nat) (s : Int), vs = [.ref a.g, .int (n : Int)] ∧ GAt C H a rows q ∧ q[n]? = some (.leaf s) ∧ q.length ≤ 16000000 ∧ Q (.int s) H
theorem mp_state_of {C : Addr} : MonP (sp_state_of C) := fun vs H Q Q' E h ⟨a, rows, q, n, S, x1, x2, x3, x4, k⟩ => ⟨a, rows, q, n, S, x1, x2, x3, x4, h _ _ k⟩
def sp_leaf (C : Addr) : Sp := sp_cell C
def sp_solid (C : Addr) : Sp := fun vs H Q _ => ∃ (a : GA) (rows : List (Int × Addr)) (q : List Sq) (l : Nat) (s : Int), vs = [.ref a.g, .int (l : Int), .int s] ∧ GAt C H a rows q ∧ l ≤ 48 ∧ 0 ≤ s ∧ s ≤ 7 ∧ q.length + 100 < 16000000 ∧
  ∀ H' rows' q' (n : Nat), GStep C H a rows q H' rows' q' → q'.length ≤ q.length + l + 1 → q'[n]? = some (Sq.even l s) → Q (.int (n : Int)) H'
theorem mp_even {C : Addr} : MonP (sp_even C) := fun vs H Q Q' E h ⟨a, rows, q, l, s, x1, x2, x3, x4, x5, x6, k⟩ => ⟨a, rows, q, l, s, x1, x2, x3, x4, x5, x6, fun H' r' q' n g p l => h _ _ (k H' r' q' n g p l)⟩
theorem mp_solid {C : Addr} : MonP (sp_solid C) := fun vs H Q Q' E h ⟨a, rows, q, l, s, x1, x2, x3, x4, x5, x6, k⟩ => ⟨a, rows, q, l, s, x1, x2, x3, x4, x5, x6, fun H' r' q' n g p l => h _ _ (k H' r' q' n g p l)⟩
/-- four are joined -/
def sp_joined (C : Addr) : Sp := fun vs H Q _ => ∃ (a : GA) (rows : List (Int × Addr)) (q : List Sq) (A B C' D : Sq) (na nb nc nd : Nat), vs = [.ref a.g, .int (na : Int), .int (nb : Int), .int (nc : Int), .int (nd : Int)] ∧ GAt C H a rows q ∧
  q[na]? = some A ∧ q[nb]? = some B ∧ q[nc]? = some C' ∧ q[nd]? = some D ∧ B.level = A.level ∧ C'.level = A.level ∧ D.level = A.level ∧ A.level ≤ 47 ∧ q.length < 16000000 ∧
  ∀ H' q' (n : Nat), GStep C H a rows q H' rows q' → q'.length ≤ q.length + 1 → q'[n]? = some (.node A B C' D) → Fr a.m5 H H' → Q (.int (n : Int)) H'
theorem mp_joined {C : Addr} : MonP (sp_joined C) := fun vs H Q Q' E h ⟨a, rows, q, A, B, C', D, na, nb, nc, nd, x1, x2, x3, x4, x5, x6, x7, x8, x9, y1, y2, k⟩ => ⟨a, rows, q, A, B, C', D, na, nb, nc, nd, x1, x2, x3, x4, x5, x6, x7, x8, x9, y1, y2, fun H' q' n g p l f => h _ _ (k H' q' n g p l f)⟩
end
end JF

/-! ### helpers of the laws: the script's numbers, lists of tuples of numbers -/
namespace JF
open PySem PySem.Spec PyProof.Rows L2
/-- tuples of whole numbers, one by one -/
def TR (H : Hp) : List Addr → List (List Int) → Prop
  | [], [] => True
  | r :: rs, x :: xs => H r = some (.tup (x.map V.int)) ∧ TR H rs xs
  | _, _ => False
theorem TR.len {H : Hp} : ∀ {rs : List Addr} {xs : List (List Int)}, TR H rs xs → rs.length = xs.length
  | [], [], _ => rfl
  | r :: rs, x :: xs, h => congrArg (· + 1) (TR.len h.2)
  | [], _ :: _, h => h.elim
  | _ :: _, [], h => h.elim
theorem TR.keep {H H' : Hp} (k : ∀ b ys, H b = some (.tup ys) → H' b = some (.tup ys)) : ∀ {rs : List Addr} {xs : List (List Int)}, TR H rs xs → TR H' rs xs
  | [], [], _ => trivial
  | r :: rs, x :: xs, h => ⟨k _ _ h.1, TR.keep k h.2⟩
  | [], _ :: _, h => h.elim
  | _ :: _, [], h => h.elim
theorem TR.app {H : Hp} {r : Addr} {x : List Int} (hr : H r = some (.tup (x.map V.int))) : ∀ {rs : List Addr} {xs : List (List Int)}, TR H rs xs → TR H (rs ++ [r]) (xs ++ [x])
  | [], [], _ => ⟨hr, trivial⟩
  | _ :: _, _ :: _, h => ⟨h.1, TR.app hr h.2⟩
  | [], _ :: _, h => h.elim
  | _ :: _, [], h => h.elim
theorem TR.get {H : Hp} : ∀ {rs : List Addr} {xs : List (List Int)} {i : Nat} {r : Addr}, TR H rs xs → rs[i]? = some r → ∃ x, xs[i]? = some x ∧ H r = some (.tup (x.map V.int))
  | [], [], _, _, _, e => by simp at e
  | r :: rs, x :: xs, 0, _, h, e => by
    simp only [List.getElem?_cons_zero, Option.some.injEq] at e
    subst e
    exact ⟨x, rfl, h.1⟩
  | r :: rs, x :: xs, i + 1, _, h, e => by
    simp only [List.getElem?_cons_succ] at e ⊢
    exact TR.get h.2 e
  | [], _ :: _, _, _, h, _ => h.elim
  | _ :: _, [], _, _, h, _ => h.elim
/-- a list of tuples of whole numbers -/
def TL (H : Hp) (p : Addr) (xs : List (List Int)) : Prop := ∃ rs : List Addr, H p = some (.lst (rs.map V.ref)) ∧ TR H rs xs
theorem at_get {α : Type} {l : List α} {i : Nat} (h : i < l.length) : l[i]? = some l[i] := by simp [h]
section
variable {K : PySem.W.Frag} {σ : L2.St} {H : Hp} {Q : VK}
/-- [x[c] for x in list] of tuples of numbers -/
theorem rd_colT {L i n : Nat} {c : Int} {p : Addr} {xs : List (List Int)} (hi : i < σ.length) (hv : σ[L]? = some (some (.ref p))) (h : TL H p xs) (hx : ∀ x ∈ xs, x.length = n) (hc0 : 0 ≤ c) (hcn : c.toNat < n) (hz : xs.length ≤ sizeLine)
    (hd : ∀ D, H D = none → Q (.ref D) (upd H D (.lst ((xs.map fun x => x.getD c.toNat 0).map V.int)))) : tLc (iList K (tVar L)) (gName i) tYes (tOp (rIxT K) (tVar i) (tC (.int c))) [i] σ H Q := by
  obtain ⟨rs, hp, ht⟩ := h
  refine ⟨_, hv, p, rfl, ⟨_, SqL.of hp⟩, fun D hD => ?_⟩
  have sm : ∀ o, Same H (upd H D o) := fun o => same_upd hD
  refine lc_list (K := K) (xs := rs.map V.ref) (fun i H' => H' = upd H D (.lst (((xs.take i).map fun x => x.getD c.toNat 0).map V.int))) (by simp) (fun i H' _ e => SqL.of (by rw [e]; exact sm _ _ _ hp)) ?_ ?_
  · rintro j x H' hj rfl
    obtain ⟨r, hr, rfl⟩ : ∃ r, rs[j]? = some r ∧ x = .ref r := by
      rw [List.getElem?_map] at hj
      cases e : rs[j]? with
      | none => rw [e] at hj; cases hj
      | some r => rw [e] at hj; exact ⟨r, rfl, (Option.some.inj hj).symm⟩
    obtain ⟨x, hx1, hx2⟩ := ht.get hr
    have hl := hx x (List.mem_of_getElem? hx1)
    have hlt : c.toNat < x.length := by omega
    have hset : (((wipe σ [i]).set i (some (.ref r)))[i]? : Option (Option V)) = some (some (.ref r)) := by
      rw [List.getElem?_set_self (by rw [wipe_length]; exact hi)]
    refine ⟨by simp only [wipe, List.set_set], ?_⟩
    refine rd_yes (iteT' (rd_op (rd_var hset (rd_c ?_))))
    have e1 : atI (x.map V.int) c = some (V.int (x.getD c.toNat 0)) := by
      obtain ⟨m, rfl⟩ : ∃ m : Nat, c = m := ⟨c.toNat, by omega⟩
      refine atI_nat ?_
      rw [Int.toNat_natCast] at hlt ⊢
      rw [List.getElem?_map, at_get hlt]
      simp [List.getD, hlt]
    refine rd_ixT (SqT.of (sm _ _ _ hx2)) e1 ?_
    refine ⟨_, upd_same, ?_, ?_⟩
    · have hj2 : j < xs.length := (List.getElem?_eq_some_iff.mp hx1).1
      simp only [List.length_map, List.length_take]
      omega
    · rw [upd_upd]
      have : xs.take (j + 1) = xs.take j ++ [x] := by rw [List.take_succ, hx1]; rfl
      rw [this, List.map_append, List.map_append]; rfl
  · rintro H' rfl
    have e : xs.take (rs.map V.ref).length = xs := by rw [List.length_map, ht.len, List.take_length]
    rw [e]
    exact hd D hD
/-- min, max, of a list of numbers -/
theorem rd_min {p : Addr} {ns : List Int} (m0 : Int) (h : H p = some (.lst (ns.map V.int))) (hm : m0 ∈ ns) (hle : ∀ y ∈ ns, m0 ≤ y) (q : Q (.int m0) H) : rMin K [.ref p] H Q :=
  ⟨p, ns, rfl, SqL.of h, List.length_pos_of_mem hm, fun m h1 h2 => by
    have e : m = m0 := Int.le_antisymm (h2 m0 hm) (hle m h1)
    rw [e]; exact q⟩
theorem rd_max {p : Addr} {ns : List Int} (m0 : Int) (h : H p = some (.lst (ns.map V.int))) (hm : m0 ∈ ns) (hle : ∀ y ∈ ns, y ≤ m0) (q : Q (.int m0) H) : rMax K [.ref p] H Q :=
  ⟨p, ns, rfl, SqL.of h, List.length_pos_of_mem hm, fun m h1 h2 => by
    have e : m = m0 := Int.le_antisymm (hle m h1) (h2 m0 hm)
    rw [e]; exact q⟩
/-! lists of tuples, compared -/
theorem dp_tr : ∀ {rs : List Addr} {xs : List (List Int)}, TR H rs xs → DpAll K H (rs.map V.ref) (xs.map fun x => PyData.tuple (x.map PyData.int))
  | [], [], _ => .nil
  | r :: rs, x :: xs, h => .cons (.tup (SqT.of h.1) dp_ints) (dp_tr h.2)
  | [], _ :: _, h => h.elim
  | _ :: _, [], h => h.elim
theorem lay_ints : ∀ x : List Int, PyData.canLayAll0 (x.map PyData.int) = true
  | [] => by simp [PyData.canLayAll0]
  | i :: x => by simp [PyData.canLayAll0, PyData.canLay0, lay_ints x]
theorem depth_ints : ∀ x : List Int, PyData.depthAll (x.map PyData.int) ≤ 1
  | [] => by simp [PyData.depthAll]
  | i :: x => by simp [PyData.depthAll, PyData.depth, depth_ints x]
theorem lay_tr : ∀ xs : List (List Int), PyData.canLayAll0 (xs.map fun x => PyData.tuple (x.map PyData.int)) = true
  | [] => by simp [PyData.canLayAll0]
  | x :: xs => by simp [PyData.canLayAll0, PyData.canLay0, lay_tr xs, lay_ints x]
theorem depth_tr : ∀ xs : List (List Int), PyData.depthAll (xs.map fun x => PyData.tuple (x.map PyData.int)) ≤ 2
  | [] => by simp [PyData.depthAll]
  | x :: xs => by
    have h1 := depth_tr xs
    have h2 := depth_ints x
    simp only [List.map_cons, PyData.depthAll, PyData.depth]
    omega
theorem shaped_tr (xs : List (List Int)) : SeqAt.shaped (.list (xs.map fun x => PyData.tuple (x.map PyData.int))) = true := by
  have h1 := depth_tr xs
  have h2 := lay_tr xs
  have h3 : PyData.depth (.list (xs.map fun x => PyData.tuple (x.map PyData.int))) ≤ 64 := by
    simp only [PyData.depth]
    omega
  unfold SeqAt.shaped
  rw [decide_eq_true h3, Bool.and_true]
  simp only [PyData.canLay0, h2]
theorem TL.same {H H' : Hp} {p : Addr} {xs : List (List Int)} (h : TL H p xs) (s : Same H H') : TL H' p xs := by
  obtain ⟨rs, h1, h2⟩ := h
  exact ⟨rs, s _ _ h1, h2.keep fun _ _ e => s _ _ e⟩
/-- rows == [] -/
theorem rd_eqTL0 {p pe : Addr} {xs : List (List Int)} (h : TL H p xs) (he : H pe = some (.lst [])) (q : Q (.bl (decide (xs = []))) H) : rEqD K (.ref p) (.ref pe) H Q := by
  obtain ⟨rs, h1, h2⟩ := h
  refine ⟨_, _, .lst (SqL.of h1) (dp_tr h2), .lst (SqL.of he) .nil, shaped_tr xs, rfl, ?_⟩
  cases xs with
  | nil => exact q
  | cons x xs => exact q
/-- isinstance(tuple of the law's, tuple) -/
theorem rd_isiT {p : Addr} {xs : List V} (h : H p = some (.tup xs)) (q : Q (.bl true) H) : rIsi K [.ref p, .ty "tuple"] H Q :=
  isi_ty (.base (.tup h)) (by decide +kernel : kitB "tuple" "tuple" = some true) q
theorem rd_isiI {i : Int} (q : Q (.bl true) H) : rIsi K [.int i, .ty "int"] H Q := isi_ty (.base (.int i)) (by decide +kernel : kitB "int" "int" = some true) q
theorem rd_isiB {i : Int} (q : Q (.bl false) H) : rIsi K [.int i, .ty "bool"] H Q := isi_ty (.base (.int i)) (by decide +kernel : kitB "int" "bool" = some false) q
end
theorem sqL_on {K : PySem.W.Frag} {H H' : Hp} {a : Addr} {xs : List V} (h : SqL K H a xs) (e : ∀ o, H a = some o → H' a = some o) : SqL K H' a xs :=
  h.elim (fun h => .inl (h.elim (fun h => .inl (e _ h)) fun ⟨o, h⟩ => .inr ⟨o, e _ h⟩)) fun h => .inr h
theorem walk_r0 {n : Nat} : Walk (Itr 0 n) n (fun _ => True) (YFn fun i => .int (i : Int)) :=
  walk_range.mono (fun _ h => h) fun i H x H' _ _ y => ⟨y.1, y.2.trans (by show V.int (0 + (i : Int)) = V.int (i : Int); rw [Int.zero_add])⟩
def cutI (ns : List Int) (lo hi : Option Int) : List Int := (ns.drop (HT.sIx ns.length 0 lo)).take (HT.sIx ns.length ns.length hi - HT.sIx ns.length 0 lo)
theorem cutV_ints (ns : List Int) (lo hi : Option Int) : cutV (ns.map V.int) lo hi = (cutI ns lo hi).map V.int := by
  unfold cutV cutI
  rw [List.length_map, List.map_take, List.map_drop]
/-- Grove() -/
theorem rd_grove {K : PySem.W.Frag} {σ : L2.St} {H : Hp} {Q : VK} (h : ∀ (a : GA) H', GAt (CG K) H' a [] [] → (∀ b ∈ a.muts [], H b = none) → Same H H' → Q (.ref a.g) H') : tMake (CG K) (sp_ginit (CG K)) [] E0 tNil σ H Q := by
  intro x dx hx hdx hne
  refine ⟨x, dx, rfl, upd_same, fun a H' e G hn hk => ⟨rfl, ?_⟩⟩
  subst e
  have out : ∀ (b u : Addr) (Hx : Hp) (o : HO), upd Hx u o b = none → Hx b = none := fun b u Hx o e => by
    by_cases z : b = u
    · subst z; rw [upd_same] at e; cases e
    · rw [upd_ne z] at e; exact e
  refine h a H' G (fun b hb => out _ _ _ _ (out _ _ _ _ (hn b hb))) fun b o e => ?_
  have b1 : b ≠ a.g := ne_of_none e hx
  have b2 : b ≠ dx := ne_of_none e hdx
  exact hk b o (by rw [upd_ne b1, upd_ne b2]; exact e) b1
/-! #### the asker's own lists beside a grove -/
/-- tuples stay -/
def Tup (H H' : Hp) : Prop := ∀ b ys, H b = some (.tup ys) → H' b = some (.tup ys)
theorem Tup.refl (H : Hp) : Tup H H := fun _ _ h => h
theorem Tup.trans {H H1 H2 : Hp} (x : Tup H H1) (y : Tup H1 H2) : Tup H H2 := fun b ys h => y b ys (x b ys h)
theorem Tup.of {H H' : Hp} (x : Same H H') : Tup H H' := fun b ys h => x b _ h
theorem Tup.put {H : Hp} {p : Addr} {xs : List V} (h : H p = some (.lst xs)) (o : HO) : Tup H (upd H p o) := fun b ys e => by
  rw [upd_ne (by rintro rfl; rw [h] at e; cases e)]; exact e
theorem GStep.tup {C : Addr} {H H1 : Hp} {a : GA} {rows r1 : List (Int × Addr)} {q q1 : List Sq} (x : GStep C H a rows q H1 r1 q1) (G : GAt C H a rows q) : Tup H H1 := fun b ys e => x.fr b _ e (G.tup_out e)
/-- own lists, by their addresses -/
structure OwnL (a : GA) (rows : List (Int × Addr)) (H : Hp) (l : List (Addr × List V)) : Prop where
  nd : (l.map (·.1)).Nodup
  at_ : ∀ p xs, (p, xs) ∈ l → H p = some (.lst xs)
  out : ∀ p xs, (p, xs) ∈ l → p ∉ a.muts rows
theorem OwnL.same {a : GA} {rows : List (Int × Addr)} {H H' : Hp} {l : List (Addr × List V)} (h : OwnL a rows H l) (s : Same H H') : OwnL a rows H' l := ⟨h.nd, fun p xs m => s _ _ (h.at_ p xs m), h.out⟩
theorem OwnL.step {C : Addr} {H H1 : Hp} {a : GA} {rows r1 : List (Int × Addr)} {q q1 : List Sq} {l : List (Addr × List V)} (h : OwnL a rows H l) (x : GStep C H a rows q H1 r1 q1) : OwnL a r1 H1 l :=
  ⟨h.nd, fun p xs m => (x.own (h.at_ p xs m) (h.out p xs m)).1, fun p xs m => (x.own (h.at_ p xs m) (h.out p xs m)).2⟩
theorem OwnL.nil {a : GA} {rows : List (Int × Addr)} {H : Hp} : OwnL a rows H [] := ⟨by simp, fun _ _ m => by simp at m, fun _ _ m => by simp at m⟩
theorem OwnL.new {C : Addr} {a : GA} {rows : List (Int × Addr)} {q : List Sq} {H : Hp} {l : List (Addr × List V)} {p : Addr} {xs : List V} (h : OwnL a rows H l) (G : GAt C H a rows q) (hp : H p = none) : OwnL a rows (upd H p (.lst xs)) ((p, xs) :: l) := by
  refine ⟨?_, fun p' ys m => ?_, fun p' ys m => ?_⟩
  · rw [List.map_cons, List.nodup_cons]
    refine ⟨fun z => ?_, h.nd⟩
    obtain ⟨⟨p', ys⟩, m, e⟩ := List.mem_map.mp z
    have e' : p' = p := e
    subst e'
    rw [h.at_ _ _ m] at hp
    cases hp
  · rcases List.mem_cons.mp m with m | m
    · cases m; exact upd_same
    · exact same_upd hp _ _ (h.at_ _ _ m)
  · rcases List.mem_cons.mp m with m | m
    · cases m; exact G.new_out hp
    · exact h.out _ _ m
theorem OwnL.put {a : GA} {rows : List (Int × Addr)} {H : Hp} {p : Addr} {xs : List V} (l1 l2 : List (Addr × List V)) (ys : List V) (h : OwnL a rows H (l1 ++ (p, xs) :: l2)) : OwnL a rows (upd H p (.lst ys)) (l1 ++ (p, ys) :: l2) := by
  have nd := h.nd
  rw [List.map_append, List.map_cons] at nd
  have ne : ∀ p' zs, (p', zs) ∈ l1 ∨ (p', zs) ∈ l2 → p' ≠ p := fun p' zs m e => by
    subst e
    rw [List.nodup_append, List.nodup_cons] at nd
    rcases m with m | m
    · exact nd.2.2 p' (List.mem_map_of_mem (f := fun x : Addr × List V => x.1) (a := (p', zs)) m) p' List.mem_cons_self rfl
    · exact nd.2.1.1 (List.mem_map_of_mem (f := fun x : Addr × List V => x.1) (a := (p', zs)) m)
  refine ⟨by rw [List.map_append, List.map_cons]; exact nd, fun p' zs m => ?_, fun p' zs m => ?_⟩
  · rcases List.mem_append.mp m with m | m
    · rw [upd_ne (ne p' zs (.inl m))]; exact h.at_ _ _ (List.mem_append_left _ m)
    · rcases List.mem_cons.mp m with m | m
      · cases m; exact upd_same
      · rw [upd_ne (ne p' zs (.inr m))]; exact h.at_ _ _ (List.mem_append_right _ (List.mem_cons_of_mem _ m))
  · rcases List.mem_append.mp m with m | m
    · exact h.out _ _ (List.mem_append_left _ m)
    · rcases List.mem_cons.mp m with m | m
      · cases m; exact h.out _ xs (List.mem_append_right _ List.mem_cons_self)
      · exact h.out _ _ (List.mem_append_right _ (List.mem_cons_of_mem _ m))
theorem GAt.own {C : Addr} {H : Hp} {a : GA} {rows : List (Int × Addr)} {q : List Sq} {l : List (Addr × List V)} {p : Addr} {xs : List V} {o : HO} (G : GAt C H a rows q) (h : OwnL a rows H l) (m : (p, xs) ∈ l) : GAt C (L2.upd H p o) a rows q :=
  G.upd (fun u e => by rw [h.at_ _ _ m] at e; cases e; exact fun z => z) (h.out _ _ m)
theorem OwnL.ix {a : GA} {rows : List (Int × Addr)} {H : Hp} {l : List (Addr × List V)} {p : Addr} {xs : List V} (h : OwnL a rows H l) (i : Nat) (e : l[i]? = some (p, xs)) : H p = some (.lst xs) := h.at_ p xs (List.mem_of_getElem? e)
theorem GAt.ownI {C : Addr} {H : Hp} {a : GA} {rows : List (Int × Addr)} {q : List Sq} {l : List (Addr × List V)} {p : Addr} {xs : List V} (G : GAt C H a rows q) (h : OwnL a rows H l) (i : Nat) (e : l[i]? = some (p, xs)) (o : HO) : GAt C (L2.upd H p o) a rows q := G.own h (List.mem_of_getElem? e)
theorem OwnL.putI {a : GA} {rows : List (Int × Addr)} {H : Hp} {l : List (Addr × List V)} {p : Addr} {xs : List V} (h : OwnL a rows H l) (i : Nat) (e : l[i]? = some (p, xs)) (ys : List V) : OwnL a rows (upd H p (.lst ys)) (l.set i (p, ys)) := by
  obtain ⟨hi, e'⟩ := List.getElem?_eq_some_iff.mp e
  have e1 : l = l.take i ++ (p, xs) :: l.drop (i + 1) := by rw [← e']; simp
  rw [List.set_eq_take_append_cons_drop, if_pos hi]
  rw [e1] at h
  exact h.put (l.take i) (l.drop (i + 1)) ys
theorem OwnL.tup {a : GA} {rows : List (Int × Addr)} {H : Hp} {l : List (Addr × List V)} {p : Addr} {xs : List V} (h : OwnL a rows H l) (i : Nat) (e : l[i]? = some (p, xs)) (o : HO) : Tup H (L2.upd H p o) := Tup.put (h.ix i e) o
section
variable {P : Program} {w : World} {K : PySem.W.Frag} {mg : Str → Option Value} {base : Heap}
def atN (ns : List Int) (k : Nat) : Int := (ns[k]?).getD 0
def sp_at (K : PySem.W.Frag) : Sp := fun vs H Q _ => ∃ (a : Addr) (ns : List Int) (k : Int), vs = [.ref a, .int k] ∧ SqL K H a (ns.map V.int) ∧ 0 ≤ k ∧ Q (.int (atN ns k.toNat)) H
theorem mp_at : MonP (sp_at K) := fun vs H Q Q' E h ⟨a, ns, k, x1, x2, x3, q⟩ => ⟨a, ns, k, x1, x2, x3, h _ _ q⟩
theorem ok_at (T : Env fa fn K mg) : Good P w K mg base CX0 1 ("_law_at", none) ["_law_script", "_law_k"] (sp_at K) := by
  refine good_mk T 26 (d := d_w_at) (N := ["_law_script", "_law_k"]) (ps := ["_law_script", "_law_k"]) rfl rfl sc_w_at (fun _ _ _ _ _ _ us hl => match us, hl with | [_, _], _ => rfl) (fun vs H Q E h => ?_) (fun f cdv A outer s H vs Q E hr h => ?_)
  · obtain ⟨a, ns, k, rfl, _⟩ := h; rfl
  · obtain ⟨a, ns, k, rfl, hs, h0, q⟩ := h
    refine ⟨_, (pss_cons (ps_if (pt_cmpR op_lt (pv 1) (pe_callB (call_lenK K rfl) (by rfl) (T.free 15) (by decide +kernel) (pa_cons (pv 0) pa_nil)) (nomark _)) (pss_one (ps_ret (pe_ix (ix_listK K rfl) (pv 0) (pv 1) (fun _ _ => rfl)))) pss_nil)
      (pss_one (ps_ret pe_int))), ?_⟩
    obtain ⟨m, rfl⟩ : ∃ m : Nat, k = m := ⟨k.toNat, by omega⟩
    rw [Int.toNat_natCast] at q
    walk_at "rd"
    refine rd_len hs ?_
    walk_at "rd"
    rw [List.length_map]
    refine ite_d (fun hk => ?_) (fun hk => ?_)
    · walk_at "rd"
      have hlt : m < ns.length := by omega
      refine rd_ixL hs (v := .int (atN ns m)) (atI_nat ?_) q
      rw [List.getElem?_map, at_get hlt]
      simp [atN, hlt]
    · walk_at "rd"
      have e : atN ns m = 0 := by unfold atN; rw [List.getElem?_eq_none (by omega)]; rfl
      rw [e] at q
      exact q
end
end JF

/-! ### helpers of the laws: dicts by tuples, zips of tuples -/
namespace JF
open PySem PySem.Spec PyProof.Rows L2
section
variable {X : Cx}
/-- d.setdefault(tuple, x), the dict by tuples -/
def rSetdT : V → List V → Hp → VK → Prop := fun u us H Q => ∃ (d t : Addr) (k : List Key) (z : V) (tab : List (List Key × V)), u = .ref d ∧ us = [.ref t, z] ∧ H d = some (.dT tab) ∧ H t = some (.tup (k.map kV)) ∧ tab.length < sizeLine ∧
  (∀ v, valV tab k = some v → Q v H) ∧ (valV tab k = none → Q z (upd H d (.dT (putK tab k z))))
theorem mt_setdT (room : X.A.units + 64 < cLine) : MtR X "dict.setdefault" rSetdT := by
  intro pins s σ H u us uv uvs Q I ru rus h
  obtain ⟨d, t, k, z, tab, rfl, rfl, hd, ht, hlt, there, away⟩ := h
  cases ru
  obtain ⟨kv, zv, rfl, rk, rz⟩ := vals2 rus
  cases rk
  obtain ⟨hle, hsys, ys, tie, dict⟩ := dt_of I.hok hd
  have hys : ys.length ≤ sizeLine := Paired.length tie ▸ hle
  have look := tie.val k
  refine call_setdefault_heap (knd := tupleKind (mixKind X.prog X.w)) (k := k) (tupleKind_room_in1 (by omega)) (key_of I.hok ht) hsys dict ?got ?new hys
  case got =>
    intro p hp
    rw [hp] at look
    cases ev : valV tab k with
    | none => rw [ev] at look; exact False.elim look
    | some v =>
      rw [ev] at look
      exact ⟨v, H, I.tok _, look, there v ev⟩
  case new =>
    intro hn h2 dict2 but
    have ev : valV tab k = none := by
      cases ev : valV tab k with
      | none => rfl
      | some v => rw [hn, ev] at look; exact False.elim look
    obtain ⟨o, es, ep, ho, m1, m2, m3, _, m4⟩ := dict2
    have tie2 : KT (upd H d (.dT (putK tab k z))) (putK tab k z) (storedH ys k t zv) := (tie.put k ht rz).keeps fun b items e => by
      rw [upd_ne (ne_of e hd (fun x => nomatch x))]
      exact e
    have hle2 : (putK tab k z).length ≤ sizeLine := by
      rw [putK_new _ ev, List.length_append]
      exact hlt
    have I2 := d_write (t' := s.toks + (tupleKind (mixKind X.prog X.w)).draws k) I (by rw [hd]; exact True.intro) but ⟨o, ho⟩ (ob := .dT (putK tab k z)) ⟨hle2, hsys, _, tie2, o, es, ep, ho, m1, m2, m3, m4⟩
    exact ⟨z, _, I2, rz, away ev⟩
end
section
variable {X : Cx} {p pos tpos : Pos} {e e2 : Expr} {ta : TA} {elts : List Expr} {kk : Nat}
theorem pi_zipAK (K : PySem.W.Frag) (hK : X.K = K) (hg : Gl X "zip") (hm : X.mg "zip" = none) (ha : PA X [e, e2] ta) (hs : starEach [e, e2] X.env = (false, eval e X.env) :: starEach [e2] X.env := by rfl) (hpl : (backTo pos (starEach [e2] X.env)).any (·.1) = false := by rfl) :
    PI X (.Tuple elts kk tpos) (.Call (.Name "zip" p) [e, e2] [] pos) (RZ.iZipA K ta) := by subst hK; exact RZ.pi_zipA hg hm ha hs hpl
end
section
variable {K : PySem.W.Frag} {σ : L2.St} {H : Hp} {Q : VK}
theorem rd_iZA {tr : TA} {R : It → Hp → Prop} (h : tr σ H fun vs H1 => ∃ a b xs ys, vs = [.ref a, .ref b] ∧ ((SqL K H1 a xs ∧ SqL K H1 b ys ∧ R (Itz K a b) H1) ∨ (SqT K H1 a xs ∧ SqT K H1 b ys ∧ R (RZ.ItzT K a b) H1))) : RZ.iZipA K tr σ H R := h
theorem rd_tyD {l : Addr} {xs : List (Key × V)} {R : Prop} (h1 : H l = some (.dK xs)) (q : R) : tyV K "dict" (.ref l) H ∧ R := ⟨Or.inr (Or.inr (Or.inl ⟨rfl, Or.inl ⟨_, h1⟩⟩)), q⟩
theorem rd_tyDT {l : Addr} {xs : List (List Key × V)} {R : Prop} (h1 : H l = some (.dT xs)) (q : R) : tyV K "dict" (.ref l) H ∧ R := ⟨Or.inr (Or.inr (Or.inl ⟨rfl, Or.inr ⟨_, h1⟩⟩)), q⟩
theorem rd_iK {td : TE} {R : It → Hp → Prop} (h : td σ H fun x H1 => ∃ d o, x = .ref d ∧ ((∃ kvs, H1 d = some (.frz o (.dK kvs)) ∧ R (Itk d o kvs) H1) ∨ ∃ kvs, H1 d = some (.frz o (.dT kvs)) ∧ R (Itkt d o kvs) H1)) : iKeys td σ H R := h
theorem shaped_tup {ns : List Int} : SeqAt.shaped (.tuple (ns.map PyData.int)) = true := by
  have h1 := depth_ints ns
  have h2 := lay_ints ns
  have h3 : PyData.depth (.tuple (ns.map PyData.int)) ≤ 64 := by
    simp only [PyData.depth]
    omega
  unfold SeqAt.shaped
  rw [decide_eq_true h3, Bool.and_true]
  simp only [PyData.canLay0, h2]
theorem rd_neDT {p p' : Addr} {ns ms : List Int} (h1 : H p = some (.tup (ns.map V.int))) (h2 : H p' = some (.tup (ms.map V.int)))
    (q : Q (.bl (!PyData.eqv (.tuple (ns.map PyData.int)) (.tuple (ms.map PyData.int)))) H) : rNeD K (.ref p) (.ref p') H Q := ⟨_, _, .tup (SqT.of h1) dp_ints, .tup (SqT.of h2) dp_ints, shaped_tup, shaped_tup, q⟩
theorem eqvT_refl (ns : List Int) : PyData.eqv (.tuple (ns.map PyData.int)) (.tuple (ns.map PyData.int)) = true := SeqAt.eqv_refl _ (by simp only [PyData.canLay0]; exact lay_ints ns)
end
theorem eqvAll_ints : ∀ ns ms : List Int, PyData.eqvAll (ns.map PyData.int) (ms.map PyData.int) = decide (ns = ms)
  | [], [] => by simp [PyData.eqvAll]
  | [], _ :: _ => by simp [PyData.eqvAll]
  | _ :: _, [] => by simp [PyData.eqvAll]
  | n :: ns, m :: ms => by
    simp only [List.map_cons, PyData.eqvAll, PyData.eqv, eqvAll_ints ns ms, List.cons.injEq]
    by_cases a : n = m <;> by_cases b : ns = ms <;> simp [a, b]
theorem shaped_list {ns : List Int} : SeqAt.shaped (.list (ns.map PyData.int)) = true := by
  have h1 := depth_ints ns
  have h2 := lay_ints ns
  have h3 : PyData.depth (.list (ns.map PyData.int)) ≤ 64 := by
    simp only [PyData.depth]
    omega
  unfold SeqAt.shaped
  rw [decide_eq_true h3, Bool.and_true]
  simp only [PyData.canLay0, h2]
/-- lists, tuples of whole numbers, compared -/
theorem rd_eqLI {K : PySem.W.Frag} {H : Hp} {Q : VK} {p p' : Addr} {ns ms : List Int} (h1 : SqL K H p (ns.map V.int)) (h2 : SqL K H p' (ms.map V.int)) (q : Q (.bl (decide (ns = ms))) H) : rEqD K (.ref p) (.ref p') H Q :=
  rd_eqDI h1 h2 shaped_list shaped_list (by
    have e : PyData.eqv (.list (ns.map PyData.int)) (.list (ms.map PyData.int)) = decide (ns = ms) := by rw [← eqvAll_ints]; simp only [PyData.eqv]
    rw [e]; exact q)
theorem rd_neLI {K : PySem.W.Frag} {H : Hp} {Q : VK} {p p' : Addr} {ns ms : List Int} (h1 : SqL K H p (ns.map V.int)) (h2 : SqL K H p' (ms.map V.int)) (q : Q (.bl (!decide (ns = ms))) H) : rNeD K (.ref p) (.ref p') H Q :=
  rd_neDI h1 h2 shaped_list shaped_list (by
    have e : PyData.eqv (.list (ns.map PyData.int)) (.list (ms.map PyData.int)) = decide (ns = ms) := by rw [← eqvAll_ints]; simp only [PyData.eqv]
    rw [e]; exact q)
theorem rd_neTI {K : PySem.W.Frag} {H : Hp} {Q : VK} {p p' : Addr} {ns ms : List Int} (h1 : H p = some (.tup (ns.map V.int))) (h2 : H p' = some (.tup (ms.map V.int))) (q : Q (.bl (!decide (ns = ms))) H) : rNeD K (.ref p) (.ref p') H Q :=
  rd_neDT h1 h2 (by
    have e : PyData.eqv (.tuple (ns.map PyData.int)) (.tuple (ms.map PyData.int)) = decide (ns = ms) := by rw [← eqvAll_ints]; simp only [PyData.eqv]
    rw [e]; exact q)
theorem mm_setdT : MonM rSetdT := fun x y H Q Q' h ⟨d, t, k, z, tab, e1, e2, e3, e4, e5, q1, q2⟩ => ⟨d, t, k, z, tab, e1, e2, e3, e4, e5, fun v hv => h _ _ (q1 v hv), fun hv => h _ _ (q2 hv)⟩
theorem mr_neD {K : PySem.W.Frag} : MonR (rNeD K) := fun x y H Q Q' h ⟨a, b, e1, e2, e3, e4, q⟩ => ⟨a, b, e1, e2, e3, e4, h _ _ q⟩
theorem mr_eqD {K : PySem.W.Frag} : MonR (rEqD K) := fun x y H Q Q' h ⟨a, b, e1, e2, e3, e4, q⟩ => ⟨a, b, e1, e2, e3, e4, h _ _ q⟩
/-! own objects beside a grove: lists, dicts -/
structure OwnO (a : GA) (rows : List (Int × Addr)) (H : Hp) (l : List (Addr × HO)) : Prop where
  nd : (l.map (·.1)).Nodup
  at_ : ∀ p o, (p, o) ∈ l → H p = some o
  mv : ∀ p o, (p, o) ∈ l → ¬ HO.still o
  out : ∀ p o, (p, o) ∈ l → p ∉ a.muts rows
theorem OwnO.same {a : GA} {rows : List (Int × Addr)} {H H' : Hp} {l : List (Addr × HO)} (h : OwnO a rows H l) (s : Same H H') : OwnO a rows H' l := ⟨h.nd, fun p xs m => s _ _ (h.at_ p xs m), h.mv, h.out⟩
theorem OwnO.step {C : Addr} {H H1 : Hp} {a : GA} {rows r1 : List (Int × Addr)} {q q1 : List Sq} {l : List (Addr × HO)} (h : OwnO a rows H l) (x : GStep C H a rows q H1 r1 q1) : OwnO a r1 H1 l :=
  ⟨h.nd, fun p xs m => (x.own (h.at_ p xs m) (h.out p xs m)).1, h.mv, fun p xs m => (x.own (h.at_ p xs m) (h.out p xs m)).2⟩
theorem OwnO.nil {a : GA} {rows : List (Int × Addr)} {H : Hp} : OwnO a rows H [] := ⟨by simp, fun _ _ m => by simp at m, fun _ _ m => by simp at m, fun _ _ m => by simp at m⟩
theorem OwnO.new {C : Addr} {a : GA} {rows : List (Int × Addr)} {q : List Sq} {H : Hp} {l : List (Addr × HO)} {p : Addr} {o : HO} (h : OwnO a rows H l) (G : GAt C H a rows q) (hp : H p = none) (ho : ¬ HO.still o) : OwnO a rows (upd H p o) ((p, o) :: l) := by
  refine ⟨?_, fun p' ys m => ?_, fun p' ys m => ?_, fun p' ys m => ?_⟩
  · rw [List.map_cons, List.nodup_cons]
    refine ⟨fun z => ?_, h.nd⟩
    obtain ⟨⟨p', ys⟩, m, e⟩ := List.mem_map.mp z
    have e' : p' = p := e
    subst e'
    rw [h.at_ _ _ m] at hp
    cases hp
  · rcases List.mem_cons.mp m with m | m
    · cases m; exact upd_same
    · exact same_upd hp _ _ (h.at_ _ _ m)
  · rcases List.mem_cons.mp m with m | m
    · cases m; exact ho
    · exact h.mv _ _ m
  · rcases List.mem_cons.mp m with m | m
    · cases m; exact G.new_out hp
    · exact h.out _ _ m
theorem OwnO.ix {a : GA} {rows : List (Int × Addr)} {H : Hp} {l : List (Addr × HO)} {p : Addr} {o : HO} (h : OwnO a rows H l) (i : Nat) (e : l[i]? = some (p, o)) : H p = some o := h.at_ p o (List.mem_of_getElem? e)
theorem mem_set {α : Type} {l : List α} {i : Nat} {y x : α} (h : x ∈ l.set i y) : x = y ∨ ∃ j, j ≠ i ∧ l[j]? = some x := by
  obtain ⟨j, hj, e⟩ := List.mem_iff_getElem.mp h
  by_cases z : i = j
  · subst z; left; rw [← e, List.getElem_set_self]
  · right
    refine ⟨j, Ne.symm z, ?_⟩
    rw [List.getElem_set_ne z] at e
    rw [List.length_set] at hj
    rw [at_get hj, e]
theorem OwnO.ne {a : GA} {rows : List (Int × Addr)} {H : Hp} {l : List (Addr × HO)} (h : OwnO a rows H l) {i j : Nat} {p p' : Addr} {o o' : HO} (e : l[i]? = some (p, o)) (e' : l[j]? = some (p', o')) (n : j ≠ i) : p' ≠ p := fun z => by
  obtain ⟨hi, ei⟩ := List.getElem?_eq_some_iff.mp e
  obtain ⟨hj, ej⟩ := List.getElem?_eq_some_iff.mp e'
  exact n ((List.getElem_inj (xs := l.map (·.1)) (h₀ := by simpa using hj) (h₁ := by simpa using hi) h.nd).mp (by simp [ei, ej, z]))
theorem OwnO.put {a : GA} {rows : List (Int × Addr)} {H : Hp} {l : List (Addr × HO)} {p : Addr} {o : HO} (h : OwnO a rows H l) (i : Nat) (e : l[i]? = some (p, o)) (o' : HO) (ho : ¬ HO.still o') : OwnO a rows (upd H p o') (l.set i (p, o')) := by
  have nd' : ((l.set i (p, o')).map (·.1)) = l.map (·.1) := by
    rw [List.map_set]
    obtain ⟨hi, ei⟩ := List.getElem?_eq_some_iff.mp e
    refine List.ext_getElem (by simp) fun j h1 h2 => ?_
    by_cases z : i = j
    · subst z; simp [ei]
    · rw [List.getElem_set_ne z]
  have cases_ : ∀ p' u, (p', u) ∈ l.set i (p, o') → (p' = p ∧ u = o') ∨ (p' ≠ p ∧ (p', u) ∈ l) := fun p' u m => by
    rcases mem_set m with m | ⟨j, hj, m⟩
    · cases m; exact .inl ⟨rfl, rfl⟩
    · exact .inr ⟨h.ne e m hj, List.mem_of_getElem? m⟩
  refine ⟨by rw [nd']; exact h.nd, fun p' u m => ?_, fun p' u m => ?_, fun p' u m => ?_⟩
  · rcases cases_ p' u m with ⟨rfl, rfl⟩ | ⟨n, m⟩
    · exact upd_same
    · rw [upd_ne n]; exact h.at_ _ _ m
  · rcases cases_ p' u m with ⟨rfl, rfl⟩ | ⟨n, m⟩
    · exact ho
    · exact h.mv _ _ m
  · rcases cases_ p' u m with ⟨rfl, rfl⟩ | ⟨n, m⟩
    · exact h.out _ o (List.mem_of_getElem? e)
    · exact h.out _ _ m
theorem GAt.ownO {C : Addr} {H : Hp} {a : GA} {rows : List (Int × Addr)} {q : List Sq} {l : List (Addr × HO)} {p : Addr} {o : HO} (G : GAt C H a rows q) (h : OwnO a rows H l) (i : Nat) (e : l[i]? = some (p, o)) (o' : HO) : GAt C (L2.upd H p o') a rows q :=
  G.upd (fun u e' => by rw [h.ix i e] at e'; cases e'; exact h.mv _ _ (List.mem_of_getElem? e)) (h.out _ _ (List.mem_of_getElem? e))
theorem OwnO.tup {a : GA} {rows : List (Int × Addr)} {H : Hp} {l : List (Addr × HO)} {p : Addr} {o : HO} (h : OwnO a rows H l) (i : Nat) (e : l[i]? = some (p, o)) (o' : HO) : Tup H (L2.upd H p o') := fun b ys e' => by
  rw [upd_ne (by rintro rfl; rw [h.ix i e] at e'; cases e'; exact h.mv _ _ (List.mem_of_getElem? e) trivial)]; exact e'
/-! the law's promise -/
def sp_law (K : PySem.W.Frag) : Sp := fun vs H Q _ => ∃ (a : Addr) (ns : List Int), vs = [.ref a] ∧ SqL K H a (ns.map V.int) ∧ ns.length ≤ 63 ∧ Only H ∧ ∀ H', Q (.bl true) H'
theorem sp_law_in {K : PySem.W.Frag} (H : Hp) (a : Addr) (ns : List Int) (hl : ns.length ≤ 63) (hO : Only H) (hS : SqL K H a (ns.map V.int)) : sp_law K [.ref a] H (fun v _ => v = .bl true) (fun _ _ _ => False) := ⟨a, ns, rfl, hS, hl, hO, fun _ => rfl⟩
theorem shl_ok {i : Nat} : (1 : Int) * 2 ^ ((i : Int)).toNat = 2 ^ i := by rw [Int.one_mul, Int.toNat_natCast]
/-! solid squares: what lives, the span -/
theorem even_none : ∀ l : Nat, (Sq.even l 0).lives = 0 ∧ (Sq.even l 0).span = none
  | 0 => ⟨rfl, rfl⟩
  | l + 1 => by
    obtain ⟨h1, h2⟩ := even_none l
    refine ⟨?_, ?_⟩
    · show (Sq.even l 0).lives + (Sq.even l 0).lives + (Sq.even l 0).lives + (Sq.even l 0).lives = 0
      rw [h1]; rfl
    · show r4 _ (Sq.even l 0).span (Sq.even l 0).span (Sq.even l 0).span (Sq.even l 0).span = none
      rw [h2]; rfl
theorem even_some {s : Int} (hs : s ≠ 0) : ∀ l : Nat, (Sq.even l s).lives = 2 ^ l * 2 ^ l ∧ (Sq.even l s).span = some (0, 0, 2 ^ l, 2 ^ l)
  | 0 => by simp [Sq.even, Sq.lives, Sq.span, hs]
  | l + 1 => by
    obtain ⟨h1, h2⟩ := even_some hs l
    have e : (2 : Int) ^ (l + 1) = 2 * 2 ^ l := by rw [Int.pow_succ]; omega
    have h0 : (0 : Int) < 2 ^ l := Int.pow_pos (by decide)
    refine ⟨?_, ?_⟩
    · show (Sq.even l s).lives + (Sq.even l s).lives + (Sq.even l s).lives + (Sq.even l s).lives = _
      rw [h1, e]
      generalize (2 : Int) ^ l = h
      have e2 : 2 * h * (2 * h) = 4 * (h * h) := by rw [Int.mul_assoc, Int.mul_left_comm h 2 h, ← Int.mul_assoc]; rfl
      rw [e2]; omega
    · show r4 (2 ^ (Sq.even l s).level) (Sq.even l s).span (Sq.even l s).span (Sq.even l s).span (Sq.even l s).span = _
      rw [h2, Sq.level_even, e]
      generalize (2 : Int) ^ l = h at h0
      simp only [r4, r4step, rb, Option.some.injEq, Prod.mk.injEq]
      refine ⟨?_, ?_, ?_, ?_⟩ <;> omega
theorem even_inj {s s' : Int} : ∀ {l l' : Nat}, Sq.even l s = Sq.even l' s' → l = l' ∧ s = s'
  | 0, 0, h => by cases h; exact ⟨rfl, rfl⟩
  | 0, _ + 1, h => by cases h
  | _ + 1, 0, h => by cases h
  | l + 1, l' + 1, h => by
    injection h with h1
    obtain ⟨a, b⟩ := even_inj h1
    exact ⟨by rw [a], b⟩
theorem pow64 {i : Nat} (h : i ≤ 60) : (0 : Int) < 2 ^ i ∧ (2 : Int) ^ i < 2 ^ 64 := by
  refine ⟨Int.pow_pos (by decide), ?_⟩
  have e2 : 2 ^ i < 2 ^ 64 := Nat.pow_lt_pow_right (by decide) (by omega)
  exact_mod_cast e2
theorem sq_ok {i : Nat} (h : i ≤ 60) : CMulW ((2 : Int) ^ i) (2 ^ i) := by
  obtain ⟨h1, h2⟩ := pow64 h
  have e1 : (2 : Int) ^ 64 ≤ 2 ^ 2000 := by decide +kernel
  exact mulW_of (by omega) (by omega) (by omega) (by omega)
section
variable {P : Program} {w : World} {K : PySem.W.Frag} {mg : Str → Option Value} {base : Heap}
def sp_same : Sp := fun vs H Q _ => ∃ i d : Int, vs = [.int i, .int d] ∧ Q (.bl (decide (i = d))) H
theorem mp_same : MonP sp_same := fun vs H Q Q' E h ⟨i, d, x1, q⟩ => ⟨i, d, x1, h _ _ q⟩
theorem sp_sameT {i : Int} {H : Hp} {Q : VK} {E : XK} (q : Q (.bl true) H) : sp_same [.int i, .int i] H Q E := ⟨i, i, rfl, by rw [decide_eq_true rfl]; exact q⟩
end
end JF

/-! ### helpers of the laws: the script beside a grove -/
namespace JF
open PySem PySem.Spec PyProof.Rows L2
/-- the script stays as it was, and is none of the grove's own -/
def Scr (H0 : Hp) (a0 : Addr) (a : GA) (rows : List (Int × Addr)) (H : Hp) : Prop := ∀ o, H0 a0 = some o → H a0 = some o ∧ a0 ∉ a.muts rows
theorem Scr.new {H0 H1 : Hp} {a0 : Addr} {a : GA} (hnew : ∀ b ∈ a.muts [], H0 b = none) (sm : Same H0 H1) : Scr H0 a0 a [] H1 := fun o e => ⟨sm _ _ e, fun z => by
  have y := hnew _ z
  rw [e] at y
  cases y⟩
theorem Scr.same {H0 H H' : Hp} {a0 : Addr} {a : GA} {rows : List (Int × Addr)} (h : Scr H0 a0 a rows H) (s : Same H H') : Scr H0 a0 a rows H' := fun o e => ⟨s _ _ (h o e).1, (h o e).2⟩
theorem Scr.step {C : Addr} {H0 H H1 : Hp} {a0 : Addr} {a : GA} {rows r1 : List (Int × Addr)} {q q1 : List Sq} (h : Scr H0 a0 a rows H) (x : GStep C H a rows q H1 r1 q1) : Scr H0 a0 a r1 H1 := fun o e => x.own (h o e).1 (h o e).2
theorem Scr.put {H0 H : Hp} {a0 p : Addr} {a : GA} {rows : List (Int × Addr)} {xs : List V} {o' : HO} (h : Scr H0 a0 a rows H) (hO : Only H0) (hp : H p = some (.lst xs)) : Scr H0 a0 a rows (upd H p o') := fun o e => by
  refine ⟨?_, (h o e).2⟩
  rw [upd_ne]
  · exact (h o e).1
  · rintro rfl
    rw [(h o e).1] at hp
    cases hp
    rcases hO a0 with z | ⟨u, ys, z⟩
    · rw [z] at e; cases e
    · rw [z] at e; cases e
theorem Scr.sq {K : PySem.W.Frag} {H0 H : Hp} {a0 : Addr} {a : GA} {rows : List (Int × Addr)} {xs : List V} (h : Scr H0 a0 a rows H) (hS : SqL K H0 a0 xs) : SqL K H a0 xs := sqL_on hS fun o e => (h o e).1
/-- the number read at a place -/
theorem rd_at {K : PySem.W.Frag} {H : Hp} {Q : VK} {E : XK} {a0 : Addr} {ns : List Int} {k : Int} (hs : SqL K H a0 (ns.map V.int)) (h0 : 0 ≤ k) (q : Q (.int (atN ns k.toNat)) H) : sp_at K [.ref a0, .int k] H Q E := ⟨a0, ns, k, rfl, hs, h0, q⟩
theorem nat_of {z : Int} (h : 0 ≤ z) : ∃ n : Nat, z = (n : Int) := ⟨z.toNat, by omega⟩
/-- range(i, j, c), small and upwards -/
theorem rgc_up {i j c : Int} (h1 : 0 ≤ i) (h2 : i ≤ 1000) (h3 : 0 ≤ j) (h4 : j ≤ 1000) (h5 : 1 ≤ c) (h6 : c ≤ 1000) : ∃ n : Nat, RgC i j c n ∧ ∀ k : Nat, k < n → i + (k : Int) * c < j := by
  have hq : 0 ≤ (j - i + c - 1) / c ∨ j ≤ i := by
    rcases Int.lt_or_le i j with h | h
    · left; exact Int.ediv_nonneg (by omega) (by omega)
    · exact .inr h
  have hle : (j - i + c - 1) / c ≤ 3000 := by
    rcases Int.lt_or_le (j - i + c - 1) 0 with h | h
    · have := Int.ediv_neg_of_neg_of_pos h (by omega : 0 < c); omega
    · exact Int.le_trans (Int.ediv_le_self _ h) (by omega)
  have es : Builtin.Range.rangeSize i j c = if i < j then (j - i - 1) / c + 1 else 0 := by
    unfold Builtin.Range.rangeSize
    rw [if_pos (by omega : c > 0)]
  have hdn : i < j → 0 ≤ (j - i - 1) / c := fun h => Int.ediv_nonneg (by omega) (by omega)
  have hdl : i < j → (j - i - 1) / c ≤ 1000 := fun h => Int.le_trans (Int.ediv_le_self _ (by omega)) (by omega)
  refine ⟨(Builtin.Range.rangeSize i j c).toNat, ⟨by omega, by omega, ?_, ?_⟩, fun k hk => ?_⟩
  · unfold Builtin.Range.small
    rw [es]
    simp only [Builtin.Range.rangeFitsLong, Bool.and_eq_true, Bool.or_eq_true, decide_eq_true_eq, beq_iff_eq, show c > 0 by omega, if_true]
    split
    · have a := hdn (by assumption); have b := hdl (by assumption); omega
    · omega
  · rw [es]
    split
    · have a := hdn (by assumption); omega
    · rfl
  · rw [es] at hk
    split at hk
    · have a := hdn (by assumption)
      have e := Int.mul_ediv_add_emod (j - i - 1) c
      have r := Int.emod_nonneg (j - i - 1) (by omega : c ≠ 0)
      have hk' : (k : Int) ≤ (j - i - 1) / c := by omega
      have hm : (k : Int) * c ≤ (j - i - 1) / c * c := Int.mul_le_mul_of_nonneg_right hk' (by omega)
      rw [Int.mul_comm ((j - i - 1) / c) c] at hm
      omega
    · omega
theorem rd_rng3 {i j c : Int} {R : It → Prop} (h1 : 0 ≤ i) (h2 : i ≤ 1000) (h3 : 0 ≤ j) (h4 : j ≤ 1000) (h5 : 1 ≤ c) (h6 : c ≤ 1000) (h : ∀ n : Nat, (∀ k : Nat, k < n → i + (k : Int) * c < j) → R (Itc i c n)) : ∃ (i' j' c' : Int) (n : Nat), [V.int i, V.int j, V.int c] = [.int i', .int j', .int c'] ∧ RgC i' j' c' n ∧ R (Itc i' c' n) := by
  obtain ⟨n, a, b⟩ := rgc_up h1 h2 h3 h4 h5 h6
  exact ⟨i, j, c, n, rfl, a, h n b⟩
end JF

/-! ### walks that the hand layer lacks: zip over lists and tuples alike, enumerate of a text -/
namespace JF
open PySem PySem.Spec PyProof.Rows L2
/-- a tuple, or a list -/
def sqB (t : Bool) (K : PySem.W.Frag) (H : Hp) (a : Addr) (xs : List V) : Prop := match t with
  | true => SqT K H a xs
  | false => SqL K H a xs
def isB (t : Bool) (h : Heap) (a : Addr) (its : Array Value) : Prop := match t with
  | true => h.IsTuple a its
  | false => h.IsList a its
def itB (t : Bool) (h : Heap) (it a : Addr) (i : Nat) : Prop := match t with
  | true => h.IsTupleIter it a i
  | false => h.IsListIter it a i
def obB (t : Bool) (a : Addr) : Obj := match t with
  | true => { cls := .type "tuple_iterator", data := .fields #[.ref a, .int 0 0] }
  | false => { cls := .type "list_iterator", data := .fields #[.ref a, .int 0 0] }
theorem itB.obj {t : Bool} {h : Heap} {it a : Addr} {i : Nat} (s : itB t h it a i) : ∃ o vs, h.get? it = some o ∧ o.data = .fields vs := by
  cases t with
  | true => obtain ⟨o, e, _, d⟩ := s; exact ⟨o, _, e, d⟩
  | false => obtain ⟨o, e, _, d⟩ := s; exact ⟨o, _, e, d⟩
theorem itB.at {t : Bool} {h h' : Heap} {it a : Addr} {i : Nat} (s : itB t h it a i) (k : ∀ o, h.get? it = some o → h'.get? it = some o) : itB t h' it a i := by
  cases t with
  | true => exact Heap.IsTupleIter.at s k
  | false => exact Heap.IsListIter.at s k
theorem isB.at {t : Bool} {h h' : Heap} {a : Addr} {its : Array Value} (s : isB t h a its) (k : ∀ o, h.get? a = some o → h'.get? a = some o) : isB t h' a its := by
  cases t with
  | true => exact Heap.IsTuple.at s k
  | false => exact Heap.IsList.at s k
theorem isB.lt {t : Bool} {h : Heap} {a : Addr} {its : Array Value} (s : isB t h a its) : a < h.objs.size := by
  cases t with
  | true => obtain ⟨o, e, _⟩ := s; exact Heap.lt_size e
  | false => obtain ⟨o, e, _⟩ := s; exact Heap.lt_size e
theorem isB.ne {t u : Bool} {h : Heap} {a b it : Addr} {i : Nat} {its : Array Value} (p : isB t h a its) (s : itB u h it b i) : a ≠ it := fun q => by
  obtain ⟨o', vs, e', d'⟩ := s.obj
  rw [← q] at e'
  cases t with
  | true => obtain ⟨o, e, _, n, d⟩ := p; rw [e] at e'; cases e'; rw [d] at d'; cases d'
  | false => obtain ⟨o, e, _, n, d⟩ := p; rw [e] at e'; cases e'; rw [d] at d'; cases d'
theorem drawsB {P : Program} {w : World} {A : Around} (hh : A.handled = none) (t : Bool) (it a : Addr) (hne : a ≠ it) (its : Array Value) :
    Draws P w A it [it, a] its.size (fun i v => its[i]? = some v) (fun i h => itB t h it a i ∧ isB t h a its) := by
  cases t with
  | true => exact Draws.tuple hh it a hne its
  | false => exact Draws.list hh it a hne its
theorem beginsB (t : Bool) (a : Addr) (its : Array Value) : Begins (.ref a) (obB t a) fun h => isB t h a its := by
  cases t with
  | true => exact begins_tuple a its
  | false => exact begins_list a its
theorem itB0 {t : Bool} {h : Heap} {it a : Addr} (e : h.get? it = some (obB t a)) : itB t h it a 0 := by
  cases t with
  | true => exact ⟨_, e, rfl, rfl⟩
  | false => exact ⟨_, e, rfl, rfl⟩
theorem sqB_inv {X : Cx} {pins : List (Addr × Obj)} {σ : L2.St} {H : Hp} {s : Shared} {t : Bool} {a : Addr} {xs : List V} (I : Inv X pins σ H s) (h : sqB t X.K H a xs) : ∃ its : List Value, Vals xs its ∧ isB t s.heap a its.toArray := by
  cases t with
  | true => obtain ⟨its, r, p, _⟩ := I.tuple h; exact ⟨its, r, p⟩
  | false => obtain ⟨its, r, p, _⟩ := I.list h; exact ⟨its, r, p.isList⟩
theorem sqB_inj {X : Cx} {pins : List (Addr × Obj)} {σ : L2.St} {H : Hp} {s : Shared} {t : Bool} {a : Addr} {xs ys : List V} (I : Inv X pins σ H s) (h : sqB t X.K H a xs) (h' : sqB t X.K H a ys) : xs = ys := by
  cases t with
  | true => exact I.tuple_inj h h'
  | false => exact I.list_inj h h'
/-- the things at a and b, in step, each turn a new pair -/
def ItzQ (K : PySem.W.Frag) (t u : Bool) (a b : Addr) : It :=
  ⟨fun i H => ∃ (xs ys : List V) (x y : V), sqB t K H a xs ∧ sqB u K H b ys ∧ xs[i]? = some x ∧ ys[i]? = some y,
    fun i H v H' => ∃ T x y, v = .ref T ∧ H T = none ∧ H' = upd H T (.tup [x, y]) ∧ (∀ xs, sqB t K H a xs → xs[i]? = some x) ∧ ∀ ys, sqB u K H b ys → ys[i]? = some y,
    fun i H => ∃ xs ys : List V, sqB t K H a xs ∧ sqB u K H b ys ∧ i ≤ xs.length ∧ i ≤ ys.length ∧ (xs.length = i ∨ ys.length = i)⟩
theorem turn_zipQ {P : Program} {w : World} {K : PySem.W.Frag} {elts : List Expr} {kk : Nat} {tpos : Pos} {t u : Bool} {a b z TI TO i1 i2 : Addr} (D : ZipSep2 z TI TO i1 i2 [i1, a] [i2, b]) :
    Turn P w K (.Tuple elts kk tpos) (ItzQ K t u a b) [z, TI, TO, i1, i2] z (fun i h => IsZip h z TI TO .none ∧ IsPair h TI (.ref i1) (.ref i2) ∧ (∃ x y, IsPair h TO x y) ∧ itB t h i1 a i ∧ itB u h i2 b i) where
  mem := by simp
  obj := fun i h st c hc => by
    obtain ⟨hz, hI, ⟨x, y, hO⟩, h1, h2⟩ := st
    obtain ⟨o1, v1, e1, d1⟩ := h1.obj
    obtain ⟨o2, v2, e2, d2⟩ := h2.obj
    have five : c = z ∨ c = TI ∨ c = TO ∨ c = i1 ∨ c = i2 := by simpa using hc
    rcases five with rfl | rfl | rfl | rfl | rfl
    · exact ⟨_, hz, fun v q => nomatch q⟩
    · exact ⟨_, hI, fun v q => nomatch q⟩
    · exact ⟨_, hO, fun v q => nomatch q⟩
    · exact ⟨o1, e1, fun v q => by rw [d1] at q; cases q⟩
    · exact ⟨o2, e2, fun v q => by rw [d2] at q; cases q⟩
  keep := fun i h h' st k => by
    obtain ⟨hz, hI, ⟨x, y, hO⟩, h1, h2⟩ := st
    exact ⟨k _ (by simp) _ hz, k _ (by simp) _ hI, ⟨x, y, k _ (by simp) _ hO⟩, h1.at fun o => k _ (by simp) o, h2.at fun o => k _ (by simp) o⟩
  item := by
    intro X eP ew eK hc i pins s σ H E I hf st hg
    subst eP ew eK
    obtain ⟨hz, hI, ⟨x0, y0, hO⟩, h1, h2⟩ := st
    obtain ⟨xs, ys, x, y, qa, qb, hx, hy⟩ := hg
    obtain ⟨its, rv, p⟩ := sqB_inv I qa
    obtain ⟨its2, rv2, p2⟩ := sqB_inv I qb
    obtain ⟨v, hv, ru⟩ := rv.get hx
    obtain ⟨v2, hv2, ru2⟩ := rv2.get hy
    have l1 : i < its.toArray.size := by rw [List.size_toArray]; exact (List.getElem?_eq_some_iff.mp hv).1
    have l2 : i < its2.toArray.size := by rw [List.size_toArray]; exact (List.getElem?_eq_some_iff.mp hv2).1
    have zl := Heap.lt_size hz
    obtain ⟨o1, _, e1, _⟩ := h1.obj
    obtain ⟨o2, _, e2, _⟩ := h2.obj
    have na : a ≠ i1 := p.ne h1
    have nb : b ≠ i2 := p2.ne h2
    refine wpAny_pyNext_zipD2_item D (drawsB (P := X.prog) (w := X.w) (A := X.A.in1) (show X.A.in1.handled = none from I.ok.hd hc) t i1 a na its.toArray) (drawsB (P := X.prog) (w := X.w) (A := X.A.in1) (show X.A.in1.handled = none from I.ok.hd hc) u i2 b nb its2.toArray) hz hI hO ⟨h1, p⟩ ⟨h2, p2⟩ l1 l2 fun w1 w2 g tk m1 m2 z' tO d1 d2 hT hsz hk => ?_
    have ew1 : w1 = v := by
      have q : its.toArray[i]? = some v := by simpa using hv
      exact Option.some.inj (m1.symm.trans q)
    have ew2 : w2 = v2 := by
      have q : its2.toArray[i]? = some v2 := by simpa using hv2
      exact Option.some.inj (m2.symm.trans q)
    subst ew1 ew2
    refine ⟨_, rfl, wpAny_letOwnedTupleGo_zip (s := { s with heap := g, toks := tk }) z' fun g2 z2 sb => ?_⟩
    have hT2 : g2.get? s.heap.objs.size = some { cls := .type "tuple", data := .seq #[w1, w2] } := (sb.2 _ (Nat.ne_of_gt zl)).trans hT
    have hob : ObjOk X.prog X.w (upd H s.heap.objs.size (.tup [x, y])) g2 s.heap.objs.size (.tup [x, y]) :=
      ⟨by show 2 ≤ sizeLine; decide, [w1, w2], .cons ru (.cons ru2 .nil), _, hT2, rfl, _, rfl⟩
    have kk : ∀ c o, c ∉ [z, TI, TO, i1, i2] → s.heap.get? c = some o → g2.get? c = some o := fun c o hb e => by
      simp only [List.mem_cons, List.not_mem_nil, or_false, not_or] at hb
      exact (sb.2 c hb.1).trans (hk c o hb.1 hb.2.2.1 hb.2.2.2.1 hb.2.2.2.2 e)
    refine ⟨.ref s.heap.objs.size, _, I.turnedNew (t' := tk) kk hf (Nat.le_refl _) hob, rfl, ⟨_, x, y, rfl, I.hok.fresh (Nat.le_refl _), rfl, fun l hl => by rw [sqB_inj I hl qa]; exact hx, fun l hl => by rw [sqB_inj I hl qb]; exact hy⟩, ⟨z2, ?_, ⟨w1, w2, ?_⟩, ?_, ?_⟩, fun c hcm => ?_⟩
    · exact Eq.trans (sb.2 _ D.TIz) (hk _ _ D.TIz D.TITO D.TIi1 D.TIi2 hI)
    · exact (sb.2 _ D.TOz).trans tO
    · exact d1.1.at fun o q => (sb.2 _ (Ne.symm D.zi1)).trans q
    · exact d2.1.at fun o q => (sb.2 _ (Ne.symm D.zi2)).trans q
    · have lt : c < s.heap.objs.size := by
        have five : c = z ∨ c = TI ∨ c = TO ∨ c = i1 ∨ c = i2 := by simpa using hcm
        rcases five with rfl | rfl | rfl | rfl | rfl
        · exact zl
        · exact Heap.lt_size hI
        · exact Heap.lt_size hO
        · exact Heap.lt_size e1
        · exact Heap.lt_size e2
      rw [upd_ne (Nat.ne_of_lt lt)]
      exact (hf c hcm).1
  done := by
    intro X eP ew eK hc i pins s σ H E I hf st hg
    subst eP ew eK
    obtain ⟨hz, hI, ⟨x0, y0, hO⟩, h1, h2⟩ := st
    obtain ⟨xs, ys, qa, qb, lx, ly, hend⟩ := hg
    obtain ⟨its, rv, p⟩ := sqB_inv I qa
    obtain ⟨its2, rv2, p2⟩ := sqB_inv I qb
    have l1 := rv.length
    have l2 := rv2.length
    have na : a ≠ i1 := p.ne h1
    have nb : b ≠ i2 := p2.ne h2
    exact wpAny_pyNext_zipD2_end D (drawsB (P := X.prog) (w := X.w) (A := X.A.in1) (show X.A.in1.handled = none from I.ok.hd hc) t i1 a na its.toArray) (drawsB (P := X.prog) (w := X.w) (A := X.A.in1) (show X.A.in1.handled = none from I.ok.hd hc) u i2 b nb its2.toArray) hz hI hO ⟨h1, p⟩ ⟨h2, p2⟩ (by simp; omega) (by simp; omega) (by simp; omega) fun g tk hk =>
      ⟨rfl, I.turnedL (t' := tk) (ch := [z, TI, TO, i1, i2]) (fun c o hb q => by
        simp only [List.mem_cons, List.not_mem_nil, or_false, not_or] at hb
        exact hk c o hb.1 hb.2.2.1 hb.2.2.2.1 hb.2.2.2.2 q) hf⟩
  self := fun A i s Q E sg => wpAny_pyIter_zip sg.1
theorem sep2 (I l1 l2 : Nat) (h1 : l1 < I) (h2 : l2 < I) : ZipSep2 (I + 4) (I + 2) (I + 3) I (I + 1) [I, l1] [I + 1, l2] := by
  have n0 : ∀ {x y : Nat}, x ≠ y → ¬ ((x : Addr) = y) := fun h => h
  constructor
  all_goals first
    | exact List.mem_cons_self
    | (intro q; rcases List.mem_cons.mp q with q | q
       · revert q; refine n0 ?_; omega
       · rw [List.mem_singleton] at q; revert q; refine n0 ?_; omega)
    | (refine n0 ?_; omega)
def iZipQ (K : PySem.W.Frag) (t u : Bool) (ta : TA) : TI := fun σ H R => ta σ H fun vs H1 => ∃ a b xs ys, vs = [.ref a, .ref b] ∧ sqB t K H1 a xs ∧ sqB u K H1 b ys ∧ R (ItzQ K t u a b) H1
theorem pi_zipQ {X : Cx} (K : PySem.W.Frag) (hK : X.K = K) (t u : Bool) {e e2 : Expr} {ta : TA} {p pos tpos : Pos} {elts : List Expr} {kk : Nat} (hg : Gl X "zip") (hm : X.mg "zip" = none) (ha : PA X [e, e2] ta)
    (hs : starEach [e, e2] X.env = (false, eval e X.env) :: starEach [e2] X.env := by rfl) (hpl : (backTo pos (starEach [e2] X.env)).any (·.1) = false := by rfl) : PI X (.Tuple elts kk tpos) (.Call (.Name "zip" p) [e, e2] [] pos) (iZipQ K t u ta) := by
  subst hK
  refine ⟨fun pins s σ H R I hh => ?_⟩
  refine Call_ (ld_blt I hg hm PyProof.Rows.boot_zip (PyProof.Rows.callWith_type1 (thn (ha.run pos pins s σ H _ I hh) fun _ s1 ⟨_, H1, I1, r1, q1⟩ => ?_) hs hpl))
  obtain ⟨a, b, xs, ys, rfl, qa, qb, q⟩ := q1
  obtain ⟨v1, v2, rfl, r, r'⟩ := vals2 r1
  cases r
  cases r'
  obtain ⟨its, rv, p1⟩ := sqB_inv I1 qa
  obtain ⟨its2, rv2, p2⟩ := sqB_inv I1 qb
  refine zip_begins2 (beginsB t a its.toArray) (beginsB u b its2.toArray) p1 p2 fun g hz hI hO h1 h2 hsz hk => wpAny_pyIter_zip hz ?_
  have I2 : Inv X pins σ H1 { s1 with heap := g } := I1.kept (t' := s1.toks) hk
  refine ⟨s1.heap.objs.size + 4, [s1.heap.objs.size + 4, s1.heap.objs.size + 2, s1.heap.objs.size + 3, s1.heap.objs.size, s1.heap.objs.size + 1], _, _, H1, rfl, I2, turn_zipQ (sep2 s1.heap.objs.size a b p1.lt p2.lt), ⟨hz, hI, ⟨_, _, hO⟩, itB0 h1, itB0 h2⟩, fun c hcm => ?_, q⟩
  have le : s1.heap.objs.size ≤ c := by
    simp only [List.mem_cons, List.not_mem_nil, or_false] at hcm
    rcases hcm with rfl | rfl | rfl | rfl | rfl
    · exact Nat.le_add_right _ _
    · exact Nat.le_add_right _ _
    · exact Nat.le_add_right _ _
    · exact Nat.le_refl _
    · exact Nat.le_add_right _ _
  exact I1.fpOk le (I1.hok.fresh le)
theorem walk_zipQ {K : PySem.W.Frag} {t u : Bool} {a b : Addr} {xs ys : List V} (hl : xs.length = ys.length) : Walk (ItzQ K t u a b) xs.length (fun H => sqB t K H a xs ∧ sqB u K H b ys) (YPair (fun i => xs[i]?) (fun i => ys[i]?)) :=
  ⟨fun i H hi ⟨p, q⟩ => ⟨xs, ys, xs[i], ys[i]'(hl ▸ hi), p, q, List.getElem?_eq_getElem hi, List.getElem?_eq_getElem (hl ▸ hi)⟩, fun H ⟨p, q⟩ => ⟨xs, ys, p, q, Nat.le_refl _, by omega, .inl rfl⟩,
    fun i H x H' hi ⟨p, q⟩ ⟨T, x', y', e, hT, eH, f1, f2⟩ => ⟨T, x', y', e, hT, eH, f1 xs p, f2 ys q⟩⟩
/-! enumerate(text) -/
def ItES (x : Str) : It :=
  ⟨fun i _ => i < x.cps.size, fun i H v H' => ∃ T c, v = .ref T ∧ H T = none ∧ x.cps[i]? = some c ∧ H' = upd H T (.tup [.int (i : Nat), .str ⟨#[c]⟩]), fun i _ => i = x.cps.size⟩
theorem turn_enumS {P : Program} {w : World} {K : PySem.W.Frag} {elts : List Expr} {kk : Nat} {tpos : Pos} (x : Str) (tk0 : Tok) (e it : Addr) (hne : e ≠ it) :
    Turn P w K (.Tuple elts kk tpos) (ItES x) [e, it] e (fun i h => (∃ old, IsEnum h e it ((i : Nat) : Int) old) ∧ h.IsStrIter it (strIterType x) x tk0 i) where
  mem := by simp
  obj := fun i h st b hb => by
    obtain ⟨⟨old, he⟩, o, ho, hc, hd⟩ := st
    have two : b = e ∨ b = it := by simpa using hb
    rcases two with rfl | rfl
    · exact ⟨_, he, fun v q => nomatch q⟩
    · exact ⟨o, ho, fun v q => by rw [hd] at q; cases q⟩
  keep := fun i h h' st k => by
    obtain ⟨⟨old, he⟩, o, ho, hc, hd⟩ := st
    exact ⟨⟨old, k e (by simp) _ he⟩, o, k it (by simp) _ ho, hc, hd⟩
  item := by
    intro X eP ew eK hc i pins s σ H E I hf st hg
    subst eP ew eK
    obtain ⟨⟨old, he⟩, hit⟩ := st
    have el := Heap.lt_size he
    have il : it < s.heap.objs.size := by obtain ⟨_, q, _⟩ := hit; exact Heap.lt_size q
    refine wpAny_pyNext_enum_itemD (Draws.text (prog := X.prog) (w := X.w) (A := X.A.in1) (show X.A.in1.handled = none from I.ok.hd hc) it x tk0) he hit hg hne (by simp [hne]) fun v g tk m ho hit2 hT hsz hk => ?_
    obtain ⟨c, tk2, hx, rfl⟩ := m
    refine ⟨_, rfl, wpAny_letOwnedTupleGo_enum (s := { s with heap := g, toks := tk + 1 }) ho fun g2 he2 sb => ?_⟩
    have hT2 : g2.get? s.heap.objs.size = some { cls := .type "tuple", data := .seq #[.int i tk, .str ⟨#[c]⟩ tk2] } := (sb.2 _ (Nat.ne_of_gt el)).trans hT
    have hob : ObjOk X.prog X.w (upd H s.heap.objs.size (.tup [.int (i : Nat), .str ⟨#[c]⟩])) g2 s.heap.objs.size (.tup [.int (i : Nat), .str ⟨#[c]⟩]) :=
      ⟨by show 2 ≤ sizeLine; decide, [.int i tk, .str ⟨#[c]⟩ tk2], .cons ⟨_, rfl⟩ (.cons ⟨_, rfl⟩ .nil), _, hT2, rfl, _, rfl⟩
    have kk : ∀ b o, b ∉ [e, it] → s.heap.get? b = some o → g2.get? b = some o := fun b o hb q => by
      simp only [List.mem_cons, List.not_mem_nil, or_false, not_or] at hb
      exact (sb.2 b hb.1).trans (hk b o hb.1 hb.2 q)
    refine ⟨.ref s.heap.objs.size, _, I.turnedNew (t' := tk + 1) kk hf (Nat.le_refl _) hob, rfl, ⟨_, c, rfl, I.hok.fresh (Nat.le_refl _), hx, rfl⟩, ⟨⟨.str ⟨#[c]⟩ tk2, ?_⟩, ?_⟩, fun b hb => ?_⟩
    · have q : ((i + 1 : Nat) : Int) = (i : Int) + 1 := by omega
      rw [q]; exact he2
    · obtain ⟨o, q, r⟩ := hit2
      exact ⟨o, (sb.2 it (Ne.symm hne)).trans q, r⟩
    · have lt : b < s.heap.objs.size := by
        have two : b = e ∨ b = it := by simpa using hb
        rcases two with rfl | rfl
        · exact el
        · exact il
      rw [upd_ne (Nat.ne_of_lt lt)]
      exact (hf b hb).1
  done := by
    intro X eP ew eK hc i pins s σ H E I hf st hg
    subst eP ew eK
    obtain ⟨⟨old, he⟩, hit⟩ := st
    obtain rfl : i = x.cps.size := hg
    obtain ⟨c0, c1, c2, c3, c4, c5⟩ := hf it (by simp)
    exact wpAny_pyNext_enum_endD (Draws.text (prog := X.prog) (w := X.w) (A := X.A.in1) (show X.A.in1.handled = none from I.ok.hd hc) it x tk0) he hit fun g eb => ⟨rfl, I.turned (t' := s.toks) (fun b o hb q => eb b o hb q) c0 c1 c3 c4 c5⟩
  self := fun A i s Q E sg => let ⟨⟨_, he⟩, _⟩ := sg; wpAny_pyIter_enum he
def iEnumS (ta : TA) : TI := fun σ H R => ta σ H fun vs H1 => ∃ x, vs = [.str x] ∧ R (ItES x) H1
theorem pi_enumS {X : Cx} {e : Expr} {ta : TA} {p pos tpos : Pos} {elts : List Expr} {kk : Nat} (hg : Gl X "enumerate") (hm : X.mg "enumerate" = none) (ha : PA X [e] ta) (hs : starEach [e] X.env = [(false, eval e X.env)] := by rfl) :
    PI X (.Tuple elts kk tpos) (.Call (.Name "enumerate" p) [e] [] pos) (iEnumS ta) := by
  refine ⟨fun pins s σ H R I hh => ?_⟩
  refine Call_ (ld_blt I hg hm boot_enumerate (PyProof.Rows.callWith_type1 (thn (ha.run pos pins s σ H _ I hh) fun _ s1 ⟨_, H1, I1, r1, q1⟩ => ?_) hs rfl))
  obtain ⟨x, rfl, q⟩ := q1
  obtain ⟨v, rfl, tk0, rfl⟩ := vals1 r1
  refine call_enumerate_str fun g he hit hsz hk => wpAny_pyIter_enum he ?_
  have I2 : Inv X pins σ H1 { s1 with heap := g } := I1.kept (t' := s1.toks) hk
  refine ⟨s1.heap.objs.size + 1, [s1.heap.objs.size + 1, s1.heap.objs.size], _, _, H1, rfl, I2, turn_enumS x tk0 (s1.heap.objs.size + 1) s1.heap.objs.size (Nat.succ_ne_self _), ⟨⟨.none, he⟩, hit⟩, fun b hb => ?_, q⟩
  have le : s1.heap.objs.size ≤ b := by
    simp only [List.mem_cons, List.not_mem_nil, or_false] at hb
    rcases hb with rfl | rfl
    · exact Nat.le_add_right _ _
    · exact Nat.le_refl _
  exact I1.fpOk le (I1.hok.fresh le)
theorem walk_enumS {x : Str} : Walk (ItES x) x.cps.size (fun _ => True) (fun i H v H' => ∃ T c, v = .ref T ∧ H T = none ∧ x.cps[i]? = some c ∧ H' = upd H T (.tup [.int (i : Nat), .str ⟨#[c]⟩])) :=
  ⟨fun _ _ h _ => h, fun _ _ => rfl, fun _ _ _ _ _ _ y => y⟩
theorem pg_tupK {X : Cx} (K : PySem.W.Frag) (hK : X.K = K) {n : Nat} {es : List Expr} {k : Nat} {t : TGs} {pos : Pos} (hc : X.calm = true) (h : PGs X es t) (hn : (assignEach es X.env).length = n := by rfl)
    (hst : (assignEach es X.env).findIdx? (·.1) = none := by rfl) : PG X (.Tuple es k pos) (gTup K n t) := by subst hK; exact pg_tup hc h hn hst
theorem pe_lenSetIK {X : Cx} (K : PySem.W.Frag) (hK : X.K = K) {a : Expr} {ta : TE} {p p2 q pos : Pos} (hg : Gl X "len") (hm : X.mg "len" = none) (hg2 : Gl X "set") (hm2 : X.mg "set" = none) (ha : PE X a ta) (hc : X.calm = true := by rfl)
    (na : starEach [a] X.env = (false, eval a X.env) :: starEach [] X.env := by rfl) : PE X (.Call (.Name "len" p) [.Call (.Name "set" p2) [a] [] q] [] pos) (RZ.tLenSetI K ta) := by subst hK; exact RZ.pe_lenSetI hg hm hg2 hm2 ha hc na
section
variable {K : PySem.W.Frag} {σ : L2.St} {H : Hp} {Q : VK}
theorem rd_lenSet {ta : TE} (h : ta σ H fun x H1 => ∃ (l : Addr) (ns : List Int), x = .ref l ∧ SqL K H1 l (ns.map V.int) ∧ ns.Nodup ∧ ns.length ≤ 4000 ∧ Q (.int (ns.length : Nat)) H1) : RZ.tLenSetI K ta σ H Q := h
theorem rd_iZQ {t u : Bool} {tr : TA} {R : It → Hp → Prop} (h : tr σ H fun vs H1 => ∃ a b xs ys, vs = [.ref a, .ref b] ∧ sqB t K H1 a xs ∧ sqB u K H1 b ys ∧ R (ItzQ K t u a b) H1) : iZipQ K t u tr σ H R := h
theorem rd_iES {tr : TA} {R : It → Hp → Prop} (h : tr σ H fun vs H1 => ∃ x, vs = [.str x] ∧ R (ItES x) H1) : iEnumS tr σ H R := h
end
end JF

/-! ### refusals: own exceptions raised, caught, asked for their class; defs called in an except clause -/
namespace JF
open PySem PySem.Spec PyProof.Rows L2
/-- what the written part says of an exception class -/
structure ExF (K : PySem.W.Frag) (x : Str) : Prop where
  q : PySem.W.excIn K (He.ga K x) veT "ValueError.__new__" = true
  kp : PySem.W.keepIn K (.ref (He.ga K x)) = true
  sb : PySem.W.subIn K (.ref (He.ga K x)) (.type "BaseException") = some true
  ty : PySem.W.typeIn K (.ref (He.ga K x)) = some (.type "type")
  ec : ExcC K (He.ga K x)
section
variable {fa : List He.Fa} {fn : List He.DefD} {K : PySem.W.Frag} {mg : Str → Option Value}
theorem exF_of {x : Str} (h : exB1 K x = true) : ExF K x := by
  unfold exB1 at h
  simp only [Bool.and_eq_true, beq_iff_eq] at h
  obtain ⟨⟨⟨⟨⟨⟨⟨⟨⟨⟨h1, h2⟩, h3⟩, h4⟩, h5⟩, h6⟩, h7⟩, h8⟩, h9⟩, h10⟩, h11⟩ := h
  exact ⟨h1, h2, h3, h4, ⟨h5, h6, h3, h7, h8, h9, h10, h11⟩⟩
theorem Env.exf (T : Env fa fn K mg) {x : Str} (h : x ∈ JF.exN) : ExF K x := exF_of (T.ex1 h)
theorem Env.exm (T : Env fa fn K mg) {x : Str} {c : Sum Str String} {b : Bool} (h : (x, c, b) ∈ JF.exP) : PySem.W.exmOne K (.ref (He.ga K x)) (exV K c) = some b := by
  have z := T.ex2 h
  unfold exB2 at z
  simp only [Bool.and_eq_true, beq_iff_eq] at z
  exact z.1
theorem Env.exk (T : Env fa fn K mg) {x : Str} {c : Sum Str String} {b : Bool} (h : (x, c, b) ∈ JF.exP) : PySem.W.kitOne K (.ref (He.ga K x)) (exV K c) = some b := by
  have z := T.ex2 h
  unfold exB2 at z
  simp only [Bool.and_eq_true, beq_iff_eq] at z
  exact z.2
end
/-! #### raise -/
def sRaise (W : WX) (c : Value) : TS := fun _ σ H => W c none σ H
theorem ps_raiseT {X : Cx} (K : PySem.W.Frag) (hK : X.K = K) {x m : Str} {j : Nat} {p p2 pos pos2 : Pos} {W : WX} (F : ExF K x) (gC : X.mg x = some (.ref (He.ga K x))) (hc : X.calm = true) (tk : L2N.Takes X W) (hg : Gl X x) (hdb : (x == ("__debug__" : Str)) = false := by decide) :
    PS X (.Raise (some (.Call (.Name x p) [.Constant (.str m) j p2] [] pos)) none pos2) (sRaise W (.ref (He.ga K x))) := by
  subst hK
  exact L2N.ps_raise hc tk (L2N.pmk_own PySem.F.excBase_ValueError F.q gC F.kp (raises_own F.sb F.ty) hg hdb)
theorem rd_raise {W : WX} {c : Value} {D : Ends} {σ : L2.St} {H : Hp} (h : W c none σ H) : sRaise W c D σ H := h
/-! #### defs that may raise -/
section
variable {P : Program} {w : World} {K : PySem.W.Frag} {mg : Str → Option Value} {base : Heap} {fa : List He.Fa} {fn : List He.DefD}
theorem good_mkX (T : Env fa fn K mg) (i : Nat) {d : He.DefD} {k : Nat} {N ps : List Str} {sp : Sp} {x qual : Str} {st : Stmt} {at_ : Str × Option Str} (hi : fn[i]? = some d) (hd : d = ⟨at_, x, qual, defArgs st, defBody st, defScope st, [], []⟩) (S : FnScope N ps (defScope st))
    (hb : ∀ (kV doc pm : Value) (an : Option Addr) (cdv ct : Value) (us : List Value), us.length = ps.length → bindArgs (PySem.W.fnOf x qual (defArgs st) (defBody st) (defScope st) .none kV doc pm an cdv ct) ⟨us, []⟩ = pure (ps.zip us))
    (len : ∀ vs H Q E, sp vs H Q E → vs.length = ps.length)
    (hbody : ∀ (f : Addr) (cdv : Value) (A : Around) (outer : List PySem.Env) (s : Shared) (H : Hp) (vs : List V) (Q : VK) (E : XK), Room k (A.deeper (envOfC qual (defScope st) s.heap.objs.size f cdv)) → sp vs H Q E →
      ∃ t, PSs (cxOf (L2N.CX P w) P w K mg base N qual (defScope st) f cdv A outer s H E) (defBody st) t ∧ t { nx := fun _ H' => Q .non H', rt := Q } (start N vs) H) : Good P w K mg base (L2N.CX P w) (k + 1) at_ ps sp := by
  subst hd
  obtain ⟨fd, F⟩ := T.c.def_ i hi
  exact ⟨fd, FunD.ok F S len fun cdv A outer s H vs Q E hr h => hbody _ cdv A outer s H vs Q E hr h, FunD.bindsN F hb, F.kp, fdAt_of F⟩
end
section
variable {X : Cx} {k : Nat} {x m : Str} {ps : List Str} {sp : Sp} {p pos apos : Pos} {e o : Expr} {es : List Expr} {ta : TE} {t : TA} {W : WX} {K : PySem.W.Frag}
/-- the call of a def that may raise -/
theorem pe_cgX (K : PySem.W.Frag) (hK : X.K = K) (tk : L2N.Takes X W) (G : Good X.prog X.w K X.mg X.base (L2N.CX X.prog X.w) k (x, none) ps sp) (hr : Room k X.A) (hm : X.mg x = some (.ref (He.ga K x))) (ha : PA X (e :: es) t) (hg : Gl X x := by rfl)
    (hdb : (x == ("__debug__" : Str)) = false := by decide) (he : starEach (e :: es) X.env = (false, eval e X.env) :: starEach es X.env := by rfl) (hpl : (backTo pos (starEach es X.env)).any (·.1) = false := by rfl) :
    PE X (.Call (.Name x p) (e :: es) [] pos) (tCallS sp (fun σ cls d H' => W cls d σ H') t) := by
  subst hK
  obtain ⟨fd, F, b, kp, lk⟩ := G
  exact pe_callS F hr hg hm kp b (fun σ => L2N.passAt tk σ) ha hdb he hpl
theorem rd_callS {E : L2.St → XK} {σ : L2.St} {H : Hp} {Q : VK} (h : t σ H fun vs H1 => sp vs H1 Q (E σ)) : tCallS sp E t σ H Q := h
end
theorem takes0N {X : Cx} : L2N.Takes X (fun _ _ _ _ => False) := fun _ _ x => by
  obtain ⟨_, _, _, _, _, _, _, _, _, _, _, _, _, _, _, _, z⟩ := x
  exact z.elim
/-! #### try: .. except X as n -/
def sTryAs (K : PySem.W.Frag) (c : Value) (i : Nat) (tb : WX → TS) (ts : Addr → Value → Option Addr → TS) (Wo : WX) : TS := fun D σ H => tb (wAs K c i ts Wo D) D σ H
theorem ps_tryA {X : Cx} (K : PySem.W.Frag) (hK : X.K = K) {x n : Str} {c : Value} {i : Nat} {body suite : List Stmt} {b₀ : Stmt} {np pos pos' : Pos} {tb : WX → TS} {ts : Addr → Value → Option Addr → TS} {Wo : WX} (hs : X.stack = X.env :: X.outer) (hf : X.env.frame = some X.env.locals) (hN : X.N.Nodup)
    (hi : X.N[i]? = some n) (hln : X.env.kindOf n = some .local) (hc : Names X x c) (tk : L2N.Takes X Wo)
    (hb : ∀ (W : WX) (pn : List (Addr × Obj)) (xe : Value → Shared → Prop), L2N.Takes (X.tr pn xe) W → PassesOwn (model X.prog X.w) X.A X.env xe → PSs (X.tr pn xe) body (tb W))
    (hsu : ∀ (a : Addr) (oe : Obj) (cls : Value) (d : Option Addr) (pn : List (Addr × Obj)), L2N.Zn cls d oe → (∃ vs, oe.data = .fields vs) → PSs (X.suite a ((a, oe) :: pn)) (b₀ :: suite) (ts a cls d)) :
    PS X (.Try body [.ExceptHandler (some (.Name x np)) (some n) (b₀ :: suite) pos'] [] [] pos) (sTryAs K c i tb ts Wo) := by
  subst hK
  exact L2N.ps_try_as hs hf hN hi hln hc tk hb hsu
theorem rd_tryA {K : PySem.W.Frag} {c : Value} {i : Nat} {tb : WX → TS} {ts : Addr → Value → Option Addr → TS} {Wo : WX} {D : Ends} {σ : L2.St} {H : Hp} (h : tb (wAs K c i ts Wo D) D σ H) : sTryAs K c i tb ts Wo D σ H := h
/-- the exception is of the class -/
theorem wAs_yes {K : PySem.W.Frag} {c cls : Value} {i : Nat} {ts : Addr → Value → Option Addr → TS} {Wo : WX} {D : Ends} {d : Option Addr} {σ : L2.St} {H : Hp} (e : PySem.W.exmOne K cls c = some true)
    (h : ∀ a, H a = none → ts a cls d { nx := fun σ' H' => D.nx (σ'.set i none) H', rt := D.rt, bk := fun σ' H' => D.bk (σ'.set i none) H', ct := fun σ' H' => D.ct (σ'.set i none) H' } (σ.set i (some (.ref a))) H) : wAs K c i ts Wo D cls d σ H :=
  ⟨true, e, fun _ => h, fun z => nomatch z⟩
/-! #### try: .. except X -/
def sTry1 (K : PySem.W.Frag) (c : Value) (tb : WX → TS) (ts : Addr → Value → Option Addr → TS) (Wo : WX) : TS := fun D σ H => tb (wMany K Wo D [(c, ts)]) D σ H
theorem ps_try1 {X : Cx} (K : PySem.W.Frag) (hK : X.K = K) {x : Str} {c : Value} {body suite : List Stmt} {b₀ : Stmt} {np pos pos' : Pos} {tb : WX → TS} {ts : Addr → Value → Option Addr → TS} {Wo : WX} (hs : X.stack = X.env :: X.outer) (hf : X.env.frame = some X.env.locals) (hc : Names X x c) (tk : L2N.Takes X Wo)
    (hb : ∀ (W : WX) (pn : List (Addr × Obj)) (xe : Value → Shared → Prop), L2N.Takes (X.tr pn xe) W → PassesOwn (model X.prog X.w) X.A X.env xe → PSs (X.tr pn xe) body (tb W))
    (hsu : ∀ (a : Addr) (oe : Obj) (cls : Value) (d : Option Addr) (pn : List (Addr × Obj)), L2N.Zn cls d oe → (∃ vs, oe.data = .fields vs) → PSs (X.suite a ((a, oe) :: pn)) (b₀ :: suite) (ts a cls d)) :
    PS X (.Try body [.ExceptHandler (some (.Name x np)) none (b₀ :: suite) pos'] [] [] pos) (sTry1 K c tb ts Wo) := by
  subst hK
  exact L2N.ps_try_many hs hf tk hb (.cons hc hsu .nil)
theorem rd_try1 {K : PySem.W.Frag} {c : Value} {tb : WX → TS} {ts : Addr → Value → Option Addr → TS} {Wo : WX} {D : Ends} {σ : L2.St} {H : Hp} (h : tb (wMany K Wo D [(c, ts)]) D σ H) : sTry1 K c tb ts Wo D σ H := h
/-! #### isinstance of the exception -/
def rIsX (K : PySem.W.Frag) (cls : Value) (d : Option Addr) (a : Addr) : List V → Hp → VK → Prop := fun xs H Q => ∃ D, cls = .ref D ∧ d = none ∧ ExcC K D ∧ rIsE K D a xs H Q
theorem call_isP {X : Cx} (K : PySem.W.Frag) (hK : X.K = K) {a : Addr} {oe : Obj} {cls : Value} {d : Option Addr} (hp : (a, oe) ∈ X.pn) (hz : Zc cls d oe) (hf : ∃ vs, oe.data = .fields vs) : CallR X (.builtin "isinstance") (rIsX K cls d a) := by
  subst hK
  intro pins s σ H xs us Q I r h
  obtain ⟨D, rfl, rfl, C, c, cv, b, rfl, hcv, e, q⟩ := h
  obtain ⟨u1, u2, rfl, rx, rt⟩ := vals2 r
  cases rx
  obtain rfl := hcv _ rt
  obtain ⟨hget, _⟩ := I.pin (a, oe) (List.mem_append_left _ hp)
  obtain ⟨vs, hv⟩ := hf
  have J : PySem.W.InstAt s.heap a oe D none := by
    obtain ⟨oc, od, oda, osl⟩ := oe
    obtain ⟨h1, h2⟩ := hz
    simp only at h1 h2 hv
    subst h1 h2 hv
    exact ⟨hget, rfl, rfl, trivial⟩
  exact PySem.W.kia_one (PySem.W.handS_kitx_exc C.hg C.hk C.hs C.hd C.ha C.hn C.ht C.hm) I.kIn J e (fun z => nomatch z) fun tk => ⟨.bl b, H, I.kept (t' := tk) fun _ _ z => z, rfl, q⟩
section
variable {K : PySem.W.Frag} {H : Hp} {Q : VK} {D a : Addr}
theorem rd_isX {c : Addr} {b : Bool} (C : ExcC K D) (e : PySem.W.kitOne K (.ref D) (.ref c) = some b) (q : Q (.bl b) H) : rIsX K (.ref D) none a [.ref a, .ref c] H Q := ⟨D, rfl, rfl, C, .ref c, .ref c, b, rfl, fun _ r => r, e, q⟩
theorem rd_isXT {t : String} {b : Bool} (C : ExcC K D) (e : PySem.W.kitOne K (.ref D) (.type t) = some b) (q : Q (.bl b) H) : rIsX K (.ref D) none a [.ref a, .ty t] H Q := ⟨D, rfl, rfl, C, .ty t, .type t, b, rfl, fun _ r => r, e, q⟩
end
/-! #### a def called with the exception in an except clause -/
structure FnE (P : Program) (w : World) (K : PySem.W.Frag) (mg : Str → Option Value) (base : Heap) (k : Nat) (f : Addr) (fd : FuncData) (ps : List Str) (sp : Value → Option Addr → Addr → Sp) : Prop where
  len : ∀ cls d a vs H Q E, sp cls d a vs H Q E → vs.length = ps.length
  run : ∀ (A : Around) (outer : List PySem.Env) (s : Shared) (H : Hp) (args : Args) (us : List Value) (vs : List V) (Q : VK) (E : XK) (p : Addr × Obj) (cls : Value) (d : Option Addr), L2H.RoomH k A → (∃ vs : Array Value, p.2.data = .fields vs) → L2H.PinOk outer H s p → Zc cls d p.2 → Env0 P w K mg base A outer s H →
    BindsTo s fd args (ps.zip us) → Vals vs us → sp cls d p.1 vs H Q E → codeAny (model P w) A (.call (.ref f) args) (CR CX0 outer P w H s Q E) s
theorem fn_mkE {P : Program} {w : World} {K : PySem.W.Frag} {mg : Str → Option Value} {base : Heap} {k : Nat} {f : Addr} {name qual : Str} {params : Arguments} {body : List Stmt} {scope : Scope} {dV kV doc pm cdv ct oc : Value} {an od : Option Addr} {osl : Array (Option Value)} {N ps : List Str} {sp : Value → Option Addr → Addr → Sp}
    (lk : K.lookup f = some ⟨oc, od, .func (PySem.W.fnOf name qual params body scope dV kV doc pm an cdv ct), osl⟩) (hcd : PySem.W.codeIn K cdv qual = true) (S : FnScope N ps scope) (len : ∀ cls d a vs H Q E, sp cls d a vs H Q E → vs.length = ps.length)
    (hbody : ∀ (A : Around) (outer : List PySem.Env) (s : Shared) (H : Hp) (vs : List V) (Q : VK) (E : XK) (p : Addr × Obj) (cls : Value) (d : Option Addr), (∃ vs : Array Value, p.2.data = .fields vs) → Zc cls d p.2 → L2H.RoomH k (A.deeper (envOfC qual scope s.heap.objs.size f cdv)) → sp cls d p.1 vs H Q E →
      ∃ t, PSs (L2H.cxH CX0 P w K mg base N qual scope f cdv A outer s H E p) body t ∧ t { nx := fun _ H' => Q .non H', rt := Q } (L2.start N vs) H) :
    FnE P w K mg base (k + 1) f (PySem.W.fnOf name qual params body scope dV kV doc pm an cdv ct) ps sp := by
  refine ⟨len, fun A outer s H args us vs Q E p cls d hr hot pok hz e0 hb r h => ?_⟩
  have KX : K.In s.heap := e0.mod.kin.keeps fun b o e => (e0.bs b o e).1
  have nl : s.heap.NoLimit := e0.mod.nolimit.keeps fun b o e => (e0.bs b o e).1
  have kinds : ∀ y ∈ ps.zip us, scope.names.lookup y.1 = some .local ∨ (scope.names.lookup y.1 = some .cell ∧ ((cellsFrom (s.heap.objs.size + 1) scope.names []).lookup y.1).isSome = true) := by
    rintro ⟨n, v⟩ hy
    rcases S.par n (List.of_mem_zip hy).1 with z | z
    · exact .inl z
    · exact .inr ⟨z, PySem.W.cellsFrom_some _ _ _ (.inl z)⟩
  refine codeAny_call_function hr.depth (KX _ _ lk) rfl S.co S.gen rfl (PySem.W.codeRec_of KX hcd) (hb _ _ _ _ (wpAny_newFunctionEnv_cells S.kind kinds fun env he s1 x => ?_))
  subst he
  refine ⟨nl.keeps x.toInCall.keep, codeAny_func ?_⟩
  obtain ⟨t, ht, hq⟩ := hbody A outer s H vs Q E p cls d hot hz (hr.deeper _) h
  have I := L2H.inv_startH (CX := CX0) (E := E) S pok e0 (len _ _ _ _ _ _ _ h) r x
  refine wpAny_mono (ht.run [] s1 (L2.start N vs) H _ I hq) (fun fl s2 hs => ?_) fun _ _ hs => hs
  cases fl with
  | next => obtain ⟨σ2, H2, J, q⟩ := hs; exact ⟨V.non, H2, J.os, J.bare, J.base, J.hok, rfl, q⟩
  | ret u => obtain ⟨v, σ2, H2, J, rv, q⟩ := hs; exact ⟨v, H2, J.os, J.bare, J.base, J.hok, rv, q⟩
  | brk => obtain ⟨_, _, _, q⟩ := hs; exact q.elim
  | cont => obtain ⟨_, _, _, q⟩ := hs; exact q.elim
def GoodE (P : Program) (w : World) (K : PySem.W.Frag) (mg : Str → Option Value) (base : Heap) (k : Nat) (p : Str × Option Str) (ps : List Str) (sp : Value → Option Addr → Addr → Sp) : Prop :=
  ∃ fd, FnE P w K mg base k (He.fAd K p) fd ps sp ∧ Binds K fd ps [] ∧ PySem.W.keepIn K (.ref (He.fAd K p)) = true
theorem good_mkE {P : Program} {w : World} {K : PySem.W.Frag} {mg : Str → Option Value} {base : Heap} {fa : List He.Fa} {fn : List He.DefD} (T : Env fa fn K mg) (i : Nat) {d : He.DefD} {k : Nat} {N ps : List Str} {sp : Value → Option Addr → Addr → Sp} {x qual : Str} {st : Stmt} {at_ : Str × Option Str} (hi : fn[i]? = some d)
    (hd : d = ⟨at_, x, qual, defArgs st, defBody st, defScope st, [], []⟩) (S : FnScope N ps (defScope st))
    (hb : ∀ (kV doc pm : Value) (an : Option Addr) (cdv ct : Value) (us : List Value), us.length = ps.length → bindArgs (PySem.W.fnOf x qual (defArgs st) (defBody st) (defScope st) .none kV doc pm an cdv ct) ⟨us, []⟩ = pure (ps.zip us))
    (len : ∀ cls d a vs H Q E, sp cls d a vs H Q E → vs.length = ps.length)
    (hbody : ∀ (f : Addr) (cdv : Value) (A : Around) (outer : List PySem.Env) (s : Shared) (H : Hp) (vs : List V) (Q : VK) (E : XK) (p : Addr × Obj) (cls : Value) (d : Option Addr), Zc cls d p.2 → (∃ vs, p.2.data = .fields vs) → L2H.RoomH k (A.deeper (envOfC qual (defScope st) s.heap.objs.size f cdv)) → sp cls d p.1 vs H Q E →
      ∃ t, PSs (L2H.cxH CX0 P w K mg base N qual (defScope st) f cdv A outer s H E p) (defBody st) t ∧ t { nx := fun _ H' => Q .non H', rt := Q } (start N vs) H) : GoodE P w K mg base (k + 1) at_ ps sp := by
  subst hd
  obtain ⟨fd, F⟩ := T.c.def_ i hi
  refine ⟨fd, ?_, FunD.bindsN F hb, F.kp⟩
  obtain ⟨oc, od, dV, kV, doc, pm, an, cdv, ct, osl, rfl, lk, hcd, _, _⟩ := F.ex
  exact fn_mkE lk hcd S len fun A outer s H vs Q E p cls d hot hz hr h => hbody _ cdv A outer s H vs Q E p cls d hz hot hr h
section
variable {X : Cx} {k : Nat} {x : Str} {ps : List Str} {sp : Value → Option Addr → Addr → Sp} {q pos : Pos} {e : Expr} {es : List Expr} {t : TA} {cls : Value} {d : Option Addr} {a : Addr} {oe : Obj}
def tCallE (sp : Sp) (t : TA) : TE := fun σ H Q => t σ H fun vs H1 => sp vs H1 Q E0
theorem pe_callE (K : PySem.W.Frag) (hK : X.K = K) (G : GoodE X.prog X.w K X.mg X.base k (x, none) ps sp) (hr : L2H.RoomH k X.A) (hot : ∃ vs : Array Value, oe.data = .fields vs) (hp : (a, oe) ∈ X.pn) (hz : Zc cls d oe) (hm : X.mg x = some (.ref (He.ga K x))) (ha : PA X (e :: es) t) (hg : Gl X x := by rfl)
    (hdb : (x == ("__debug__" : Str)) = false := by decide) (he : starEach (e :: es) X.env = (false, eval e X.env) :: starEach es X.env := by rfl) (hpl : (backTo pos (starEach es X.env)).any (·.1) = false := by rfl) :
    PE X (.Call (.Name x q) (e :: es) [] pos) (tCallE (sp cls d a) t) := by
  subst hK
  obtain ⟨fd, F, hb, hk⟩ := G
  refine ⟨fun pins s σ H Q I h => wpAny_Call_Name_kw (ld_glob I hg hm ?_ hdb)⟩
  refine PySem.W.callWith_K (h₀ := X.base) I.ok.mod.kin hk (thn (ha.run pos pins s σ H _ I h) fun us s1 ⟨vs, H1, I1, r, h1⟩ => ⟨I1.kIn, ?_⟩) he hpl
  have hl : us.length = ps.length := by rw [← r.length]; exact F.len _ _ _ _ _ _ _ h1
  have b := hb s1 us I1.kIn (by rw [List.append_nil]; exact hl)
  rw [List.append_nil] at b
  have p1 := I1.pin (a, oe) (List.mem_append_left _ hp)
  have pok : L2H.PinOk X.stack H1 s1 (a, oe) := ⟨p1.1, p1.2.1, fun hm => (List.mem_cons.mp (I1.stkSub a hm)).elim p1.2.2.1 p1.2.2.2.1, p1.2.2.2.2⟩
  refine wpAny_call (codeAny_mono (F.run X.A X.stack s1 H1 ⟨us, []⟩ us vs Q E0 (a, oe) cls d hr hot pok hz I1.env0 b r h1) fun z s2 hq => ?_)
  cases z with
  | error e => exact hq.elim
  | ok fl =>
    cases fl with
    | ret u => exact I1.after hq
    | next => exact hq.elim
    | brk => exact hq.elim
    | cont => exact hq.elim
theorem rd_callE {sp : Sp} {σ : L2.St} {H : Hp} {Q : VK} (h : t σ H fun vs H1 => sp vs H1 Q E0) : tCallE sp t σ H Q := h
end
theorem roomH_suite {X : Cx} {k j : Nat} {a : Addr} {pn : List (Addr × Obj)} (hr : Room k X.A) (h : j ≤ k) : L2H.RoomH j (X.suite a pn).A := ⟨(hr.mono h).dp, (hr.mono h).un⟩
theorem hot_of {A : Around} {a : Addr} {oe : Obj} {cls : Value} {d : Option Addr} (h : A.handled = some (.ref a)) (hz : L2N.Zn cls d oe) (hf : ∃ vs, oe.data = .fields vs) : L2H.Hot1 A (a, oe) := ⟨h, let ⟨vs, e⟩ := hf; ⟨vs, e, hz.2.2 vs e⟩⟩
end JF

/-! ### methods that may raise -/
namespace JF
open PySem PySem.Spec PyProof.Rows L2
section
variable {X : Cx} {k : Nat} {x m : Str} {ps : List Str} {sp : Sp} {p pos apos : Pos} {e o : Expr} {es : List Expr} {ta : TE} {t : TA} {W : WX} {K : PySem.W.Frag}
def tMethX (C : Addr) (m : Str) (sp : Sp) (E : L2.St → XK) (ta : TE) (t : TA) : TE := fun σ H Q => ta σ H fun x H1 => ∃ a dx fs, x = .ref a ∧ H1 a = some (.ins C dx fs) ∧ fs.lookup m = none ∧ t σ H1 fun vs H2 => sp (x :: vs) H2 Q (E σ)
theorem pe_mgX (K : PySem.W.Frag) (hK : X.K = K) {cn : Str} {pl : Sem Bool} (tk : L2N.Takes X W) (he : PE X o ta) (c : Cls K (He.ga K cn)) (hm : Meth K (He.ga K cn) m (He.ma K (He.ga K cn) m)) (G : Good X.prog X.w K X.mg X.base (L2N.CX X.prog X.w) k (cn, some m) ps sp) (hr : Room k X.A) (ha : PA X (e :: es) t)
    (hst : starEach (e :: es) X.env = (false, eval e X.env) :: starEach es X.env := by rfl) (hpl : (backTo pos (starEach es X.env)).any (·.1) = false := by rfl)
    (ht : eval (.Call (.Attribute o m apos) (e :: es) [] pos) X.env = (do
      let ov ← eval o X.env
      standAt apos.atName
      let (f, first) ← holding [ov] (getMethod ov m pl)
      callWith pos f first (backTo pos (starEach (e :: es) X.env)) (backToKw pos (keywordEach [] X.env))) := by rfl) :
    PE X (.Call (.Attribute o m apos) (e :: es) [] pos) (tMethX (He.ga K cn) m sp (fun σ cls d H' => W cls d σ H') ta t) := by
  subst hK
  obtain ⟨fd, F, b, kp, lk⟩ := G
  refine ⟨fun pins s σ H Q I h => ?_⟩
  refine PySem.W.methodCall_KW (pl := pl) (thn (he.run pins s σ H _ I h) fun u s1 ⟨x, H1, I1, rx, a, dx, fs, ex, ea, l, q⟩ => ?_) ht
  subst ex
  have eu : u = Value.ref a := rx
  subst eu
  refine (getmeth_ok I1 ea c hm l ?_)
  refine (PySem.W.callWith_K (first := [.ref a]) (h₀ := X.base) I.ok.mod.kin hm.kp (thn (ha.run pos pins s1 σ H1 _ I1 q) fun us s2 ⟨vs, H2, I2, r, q2⟩ => ⟨I2.kIn, ?_⟩) hst hpl)
  exact run_fnS (us := .ref a :: us) (vs := .ref a :: vs) F hr b (L2N.passAt tk σ) I2 (.cons rfl r) q2
theorem rd_methX {C : Addr} {E : L2.St → XK} {σ : L2.St} {H : Hp} {Q : VK} (h : ta σ H fun x H1 => ∃ a dx fs, x = .ref a ∧ H1 a = some (.ins C dx fs) ∧ fs.lookup m = none ∧ t σ H1 fun vs H2 => sp (x :: vs) H2 Q (E σ)) : tMethX C m sp E ta t σ H Q := h
end
end JF

/-! ### try with several clauses, each with a name or without one -/
namespace JF
open PySem PySem.Spec PyProof.Rows L2
abbrev Su := Addr → Value → Option Addr → TS
def backN (i : Nat) (D : Ends) : Ends := ⟨fun σ' H' => D.nx (σ'.set i none) H', D.rt, fun σ' H' => D.bk (σ'.set i none) H', fun σ' H' => D.ct (σ'.set i none) H'⟩
def inN (o : Option Nat) (ts : Su) (a : Addr) (cls : Value) (d : Option Addr) (D : Ends) (σ : L2.St) (H : Hp) : Prop := match o with
  | none => ts a cls d D σ H
  | some i => ts a cls d (backN i D) (σ.set i (some (.ref a))) H
/-- what the clauses wish of an exception of the body -/
def wNm (K : PySem.W.Frag) (Wo : WX) (D : Ends) : List (Value × Option Nat × Su) → WX
  | [] => Wo
  | (c, o, ts) :: r => fun cls d σ H => ∃ yes, PySem.W.exmOne K cls c = some yes ∧ (yes = true → ∀ a, H a = none → inN o ts a cls d D σ H) ∧ (yes = false → wNm K Wo D r cls d σ H)
inductive ClsN (X : Cx) : List ExceptHandler → List (Value × Option Nat × Su) → Prop
  | nil : ClsN X [] []
  | bare {x : Str} {c : Value} {ts : Su} {st1 : Stmt} {sts : List Stmt} {p1 p2 : Pos} {hs : List ExceptHandler} {l : List (Value × Option Nat × Su)} (nm : Names X x c)
      (su : ∀ (a : Addr) (oe : Obj) (cls : Value) (d : Option Addr) (pn : List (Addr × Obj)), L2N.Zn cls d oe → (∃ fs, oe.data = .fields fs) → PSs (X.suite a ((a, oe) :: pn)) (st1 :: sts) (ts a cls d)) (more : ClsN X hs l) :
      ClsN X (.ExceptHandler (some (.Name x p1)) none (st1 :: sts) p2 :: hs) ((c, none, ts) :: l)
  | named {x n : Str} {i : Nat} {c : Value} {ts : Su} {st1 : Stmt} {sts : List Stmt} {p1 p2 : Pos} {hs : List ExceptHandler} {l : List (Value × Option Nat × Su)} (nm : Names X x c) (at_ : X.N[i]? = some n) (kn : X.env.kindOf n = some .local)
      (su : ∀ (a : Addr) (oe : Obj) (cls : Value) (d : Option Addr) (pn : List (Addr × Obj)), L2N.Zn cls d oe → (∃ fs, oe.data = .fields fs) → PSs (X.suite a ((a, oe) :: pn)) (st1 :: sts) (ts a cls d)) (more : ClsN X hs l) :
      ClsN X (.ExceptHandler (some (.Name x p1)) (some n) (st1 :: sts) p2 :: hs) ((c, some i, ts) :: l)
section
variable {X : Cx} {pins : List (Addr × Obj)} {σ : L2.St} {H : Hp} {sI s : Shared} {B g : Heap} {a : Addr} {cls : Value} {d : Option Addr}
/-- while it flies, the clause's own block may run -/
theorem fly_in (okX : X.Ok) (hf : X.env.frame = some X.env.locals) (J : Inv X pins σ H sI) (nb : ∀ b o, sI.heap.get? b = some o → b ∉ frs X.stack → B.get? b = some o) (up : sI.heap.UpToSlots g) (os : s.os = sI.os) (ag : AllBare s.gens) (na : H a = none)
    (fl : HandSPX.FlyingZ B (X.env :: X.outer) a (L2N.Zn cls d) g) : ∃ oe, Inv (X.suite a ((a, oe) :: (X.pn ++ pins))) [] σ H { s with heap := g } ∧ g.get? a = some oe ∧ L2N.Zn cls d oe ∧ ∃ fs, oe.data = .fields fs := by
  have L : Inv X pins σ H { s with heap := g } := J.landed nb fl.1 up os ag
  obtain ⟨oe, fs, e1, e2, e3⟩ := fl.there
  have out : a ∉ frs (X.env :: X.outer) := fun m => by
    obtain ⟨_, o, eo, no⟩ := fl.2.2.1.mem m
    rw [e1] at eo
    cases eo
    exact no _ e3
  refine ⟨oe, L.suite e1 e3 na (fun z => out (List.mem_filterMap.mpr ⟨X.env, List.mem_cons_self, by rw [hf, z]⟩)) (fun m => ?_), e1, e2, fs, e3⟩
  obtain ⟨ev, hev, q⟩ := List.mem_filterMap.mp m
  exact out (List.mem_filterMap.mpr ⟨ev, List.mem_cons_of_mem _ hev, q⟩)
theorem clause_test {q : List (Addr × Obj)} {x : Str} {c : Value} {p1 : Pos} {Q E : Value → Shared → Prop} (S : Inv (X.suite a q) [] σ H s) (nm : Names X x c) (k : Q c s) : wpAny (model X.prog X.w) (X.A.mark (some (.ref a))) (eval (.Name x p1) X.env) Q E s := by
  obtain ⟨n1, n2, n3⟩ := nm
  rcases n3 with n3 | ⟨n3, n4, n5⟩
  · exact ld_glob (X := X.suite a q) S n1 n3 k n2
  · exact ld_blt (X := X.suite a q) S n1 n3 n4 k n5 n2
theorem clauses_go {Wo : WX} {D : Ends} {hs : List ExceptHandler} {l : List (Value × Option Nat × Su)} (C : ClsN X hs l) (okX : X.Ok) (st : X.stack = X.env :: X.outer) (hf : X.env.frame = some X.env.locals) (nd : X.N.Nodup) (tk : L2N.Takes X Wo)
    (J : Inv X pins σ H sI) (nb : ∀ b o, sI.heap.get? b = some o → b ∉ frs X.stack → B.get? b = some o) (up : sI.heap.UpToSlots g) (os : s.os = sI.os) (ag : AllBare s.gens) (na : H a = none)
    (fl : HandSPX.FlyingZ B (X.env :: X.outer) a (L2N.Zn cls d) g) (h : wNm X.K Wo D l cls d σ H) : wpAny (model X.prog X.w) X.A (handleBy (.ref a) X.env hs) (SP X pins D) X.xe { s with heap := g } := by
  obtain ⟨oe, S, e1, e2, e3⟩ := fly_in okX hf J nb up os ag na fl
  have looks : PySem.W.Looks (model X.prog X.w) g (typeOf (.ref a)) cls := fun A' Q' E' t k q => wpAny_typeOf_ref (k _ _ e1) (by rw [e2.1]; exact q)
  have kin : X.K.In g := S.kIn
  induction C with
  | nil =>
    refine wpAny_handleBy_nil ?_
    obtain ⟨_, _, _, o0, fs0, T, _, _, g1, g2, g3, g4, _⟩ := id fl
    unfold PySem.passOn
    refine wpAny_bind (wpAny_field g1 g3 g4 ?_)
    rw [if_neg (show ¬ ((Value.ref T == Value.none) = true) by simp)]
    have last : wpAny (model X.prog X.w) X.A (setFlight (.ref a) X.env.frame) (fun _ s4 => wpAny (model X.prog X.w) X.A (throw (.ref a) : Sem Flow) (SP X pins D) X.xe s4) X.xe { s with heap := g } := by
      rw [hf]
      refine HandSPX.setFlight_upZ fl fun g2 held up2 => wpAny_throw (tk _ _ ⟨a, B, sI, pins, σ, H, cls, d, rfl, J, nb, up.trans up2, .inr (.inr ?_), na, os, ag, h⟩)
      rw [st]
      exact held
    first | exact wpAny_bind (wpAny_pure (wpAny_bind last)) | exact wpAny_bind last
  | @bare x c ts st1 sts p1 p2 hs2 l2 nm su more ih =>
    obtain ⟨yes, ey, hy, hn⟩ := h
    refine wpAny_handleBy_cons (codeAny_handlers_test (clause_test S nm ((PySem.W.exm_one (M := model X.prog X.w) kin looks ey).here ?_))) (fun q => by cases q)
    cases yes with
    | false => exact ih (hn rfl)
    | true =>
      refine codeAny_handlers_suite (HandSPX.lands_againZ fl fun g3 fl3 up3 => ?_)
      obtain ⟨o3, S3, _, z3, f3⟩ := fly_in okX hf J nb (up.trans up3) os ag na fl3
      refine wpAny_mono ((su a o3 cls d (X.pn ++ pins) z3 f3).run [] _ _ H _ S3 (hy rfl a na)) (fun fw s6 hsp => ?_) (fun _ _ z => z.elim)
      cases fw with
      | next => obtain ⟨u, v, w1, w2⟩ := hsp; exact ⟨u, v, w1.unsuite okX, w2⟩
      | brk => obtain ⟨u, v, w1, w2⟩ := hsp; exact ⟨u, v, w1.unsuite okX, w2⟩
      | cont => obtain ⟨u, v, w1, w2⟩ := hsp; exact ⟨u, v, w1.unsuite okX, w2⟩
      | ret r => obtain ⟨t, u, v, w1, w2, w3⟩ := hsp; exact ⟨t, u, v, w1.unsuite okX, w2, w3⟩
  | @named x n i c ts st1 sts p1 p2 hs2 l2 nm at_ kn su more ih =>
    obtain ⟨yes, ey, hy, hn⟩ := h
    refine wpAny_handleBy_cons (codeAny_handlers_test (clause_test S nm ((PySem.W.exm_one (M := model X.prog X.w) kin looks ey).here ?_))) (fun q => by cases q)
    cases yes with
    | false => exact ih (hn rfl)
    | true =>
      refine codeAny_handlers_suite_as (HandSPX.lands_againZ fl fun g3 fl3 up3 => ?_)
      obtain ⟨o3, S3, _, z3, f3⟩ := fly_in okX hf J nb (up.trans up3) os ag na fl3
      refine store_ok (X := X.suite a ((a, o3) :: (X.pn ++ pins))) (v := .ref a) S3 nd at_ (.inl kn) rfl (fun s5 S5 => ?_) (.inr kn)
      refine wpAny_mono ((su a o3 cls d (X.pn ++ pins) z3 f3).run [] s5 _ H _ S5 (hy rfl a na)) (fun fw s6 hsp => ?_) (fun _ _ z => z.elim)
      have fin : ∀ {u : L2.St} {v : Hp} {R : Shared → Prop}, Inv (X.suite a ((a, o3) :: (X.pn ++ pins))) [] u v s6 → (∀ s7, Inv X pins (u.set i none) v s7 → R s7) →
          wpAny (model X.prog X.w) X.A (do bindName X.env n .none; unbindBehindTheSuite X.env n p2) (fun _ s7 => R s7) X.xe s6 := fun w1 w2 => gone_ok (w1.unsuite okX) nd at_ kn w2
      cases fw with
      | next => obtain ⟨u, v, w1, w2⟩ := hsp; exact fin w1 fun s7 J7 => ⟨_, _, J7, w2⟩
      | brk => obtain ⟨u, v, w1, w2⟩ := hsp; exact fin w1 fun s7 J7 => ⟨_, _, J7, w2⟩
      | cont => obtain ⟨u, v, w1, w2⟩ := hsp; exact fin w1 fun s7 J7 => ⟨_, _, J7, w2⟩
      | ret r => obtain ⟨t, u, v, w1, w2, w3⟩ := hsp; exact fin w1 fun s7 J7 => ⟨_, _, _, J7, w2, w3⟩
end
/-- THE RULE -/
def sTryN (K : PySem.W.Frag) (tb : WX → TS) (l : List (Value × Option Nat × Su)) (Wo : WX) : TS := fun D σ H => tb (wNm K Wo D l) D σ H
theorem ps_tryN {X : Cx} (K : PySem.W.Frag) (hK : X.K = K) {body : List Stmt} {h0 : ExceptHandler} {hs : List ExceptHandler} {l : List (Value × Option Nat × Su)} {pos : Pos} {tb : WX → TS} {Wo : WX} (st : X.stack = X.env :: X.outer) (hf : X.env.frame = some X.env.locals) (nd : X.N.Nodup) (tk : L2N.Takes X Wo)
    (hb : ∀ (W : WX) (pn : List (Addr × Obj)) (xe : Value → Shared → Prop), L2N.Takes (X.tr pn xe) W → PassesOwn (model X.prog X.w) X.A X.env xe → PSs (X.tr pn xe) body (tb W))
    (C : ClsN X (h0 :: hs) l) : PS X (.Try body (h0 :: hs) [] [] pos) (sTryN K tb l Wo) := by
  subst hK
  refine ⟨fun pins s σ H D I h => ?_⟩
  have okX := I.ok
  have frs1 : X.A.frames = some (X.env :: X.outer) := by rw [okX.frames, st]
  refine wpAny_Try_except ?_
  have run := (hb (wNm X.K Wo D l) (X.pn ++ pins) (fun e t1 => wpAny (model X.prog X.w) X.A (noteFrame e X.env) (fun _ t2 => wpAny (model X.prog X.w) X.A (setFlight e none) (fun _ t3 => wpAny (model X.prog X.w) X.A (handleBy e X.env (h0 :: hs)) (SP X pins D) X.xe t3) X.xe t2) X.xe t1) (fun u t xx => ?_) PassesOwn.looking).run [] s σ H D (I.toTry _) h
  · refine wpAny_mono run (fun fw s1 hsp => ?_) (fun e s1 he => he)
    cases fw with
    | next => obtain ⟨u, v, w1, w2⟩ := hsp; exact wpAny_execs_nil ⟨u, v, w1.ofTry okX, w2⟩
    | brk => obtain ⟨u, v, w1, w2⟩ := hsp; exact ⟨u, v, w1.ofTry okX, w2⟩
    | cont => obtain ⟨u, v, w1, w2⟩ := hsp; exact ⟨u, v, w1.ofTry okX, w2⟩
    | ret r => obtain ⟨t, u, v, w1, w2, w3⟩ := hsp; exact ⟨t, u, v, w1.ofTry okX, w2, w3⟩
  · obtain ⟨a, B, sI, pins', σ', H', cls, d, rfl, J', nb, up, sky, na, os, ag, hw⟩ := xx
    have J : Inv X pins σ' H' sI := J'.ofTry okX
    have sky' : Sky B (X.env :: X.outer) a (L2N.Zn cls d) X.env.locals t.heap := by rw [← st]; exact sky
    show wpAny (model X.prog X.w) X.A (noteFrame (.ref a) X.env) _ _ _
    exact L2N.Sky.land L2N.Zn.steady frs1 hf sky' fun g fl up2 => clauses_go C okX st hf nd tk J nb (up.trans up2) os ag na fl hw
theorem rd_tryN {K : PySem.W.Frag} {tb : WX → TS} {l : List (Value × Option Nat × Su)} {Wo : WX} {D : Ends} {σ : L2.St} {H : Hp} (h : tb (wNm K Wo D l) D σ H) : sTryN K tb l Wo D σ H := h
/-- the first clause takes it; or it does not -/
theorem wNm_yes {K : PySem.W.Frag} {Wo : WX} {D : Ends} {c cls : Value} {o : Option Nat} {ts : Su} {r : List (Value × Option Nat × Su)} {d : Option Addr} {σ : L2.St} {H : Hp} (e : PySem.W.exmOne K cls c = some true) (h : ∀ a, H a = none → inN o ts a cls d D σ H) : wNm K Wo D ((c, o, ts) :: r) cls d σ H := ⟨true, e, fun _ => h, fun z => nomatch z⟩
theorem wNm_no {K : PySem.W.Frag} {Wo : WX} {D : Ends} {c cls : Value} {o : Option Nat} {ts : Su} {r : List (Value × Option Nat × Su)} {d : Option Addr} {σ : L2.St} {H : Hp} (e : PySem.W.exmOne K cls c = some false) (h : wNm K Wo D r cls d σ H) : wNm K Wo D ((c, o, ts) :: r) cls d σ H := ⟨false, e, (fun z => nomatch z), fun _ => h⟩
end JF

/-! ### name = [..] whose element may raise -/
namespace JF
open PySem PySem.Spec PyProof PyProof.Rows L2
section
variable {M : Model} {A : Around} {E : Value → Shared → Prop} {s : Shared} {env : PySem.Env}
/-- wanted behind the block; an exception goes on by this frame's hand -/
def pstR (M : Model) (A : Around) (E : Value → Shared → Prop) (env : PySem.Env) (use : Option (Value → Sem Unit)) (Q : Value → Shared → Prop) (acc : Value) (C : Addr) : Result → Shared → Prop
  | .ok f, s' => compPost M A E use Q acc C (.ok f) s'
  | .error x, s' => (∃ m, s'.heap.Ns C m) ∧ ∀ h' (ce : PySem.Env), Heap.SameBut C s'.heap h' → ce.frame = env.frame → wpAny M A (passOn "comprehension.variables-let-go" x ce : Sem Value) (fun _ _ => False) E { s' with heap := h' }
theorem comp_raises {e : Expr} {scope : Scope} {pos : Pos} {nw fst : Sem Value} {g : Comprehension} {gs : List Comprehension} {cl : List (Str × Addr)} {use : Option (Value → Sem Unit)} {Q : Value → Shared → Prop}
    (c1 : clausesOf e = g :: gs) (c2 : ∀ x, foldedSetIterable g.iter env x = pure x) (c3 : closureFor scope env = pure cl) (c4 : scope.kind = .function) (c5 : ∀ y ∈ scope.names, y.2 = .local → scope.names.lookup y.1 = some .local)
    (h : wpAny M A fst (fun x s1 => wpAny M A (pyIter x) (fun it s2 => wpAny M A nw (fun acc s3 => wpAny M A (newFunctionEnv scope env.globals cl [] env.qual none .none (some env)) (fun ce s4 =>
      ce.frame = env.frame ∧ codeAny M A (.compStart e 0 it acc { ce with scope := relabel scope env }) (pstR M A E env use Q acc ce.locals) s4) E s3) E s2) E s1) E s) :
    wpAny M A (comprehension e scope env pos nw false fst use) Q E s := by
  unfold comprehension
  rw [c3, c1]
  refine wpAny_bind (wpAny_mono h (fun x s1 h1 => ?_) fun _ _ z => z)
  refine wpAny_bind (wpAny_standAt (wpAny_bind (wpAny_of_eq (c2 x) (wpAny_bind (wpAny_holding ?_)))))
  refine wpAny_mono h1 (fun it s2 h2 => ?_) fun _ _ z => z
  refine wpAny_standIf (wpAny_bind (wpAny_mono h2 (fun acc s3 h3 => ?_) fun _ _ z => z))
  refine wpAny_bind (wpAny_pure (wpAny_bind (wpAny_mono h3 (fun ce s4 h4 => ?_) fun _ _ z => z)))
  obtain ⟨fr, h4⟩ := h4
  dsimp only
  have kd : ∀ y ∈ scope.names, y.2 = .local → PySem.Env.kindOf { ce with scope := relabel scope env } y.1 = some .local := fun y my l => lookup_relabel_local (c5 y my l)
  have kd1 : ∀ y ∈ (scope.names.filter fun x => (x.2 == .local || x.2 == .cell) && x.1 != (".0" : Str)).reverse, y.2 = .local → PySem.Env.kindOf { ce with scope := relabel scope env } y.1 = some .local :=
    fun y my => kd y (List.mem_filter.mp (List.mem_reverse.mp my)).1
  refine wpAny_holding (wpAny_bind (wpAny_attempt (wpAny_holding (wpAny_run (codeAny_mono h4 fun r t hr => ?_)))))
  match r, use, hr with
  | .ok f, none, hr =>
    obtain ⟨m, ns, go⟩ := hr
    exact wpAny_bind (wpAny_holding (wpAny_comp_letGo (cenv := { ce with scope := relabel scope env }) c4 _ t m kd1 ns fun h' _ _ sb => wpAny_pure (go h' sb)))
  | .ok f, some u, hr =>
    refine wpAny_bind (wpAny_rule (wpAny_bind (wpAny_holding (wpAny_mono hr (fun _ t2 hr2 => ?_) fun _ _ z => z))))
    obtain ⟨m, ns, go⟩ := hr2
    refine wpAny_bind (wpAny_comp_letGo (cenv := { ce with scope := relabel scope env }) c4 _ t2 m (fun y my l => ?_) ns fun h' _ _ sb => wpAny_pure (go h' sb))
    exact (List.mem_append.mp my).elim (fun z => kd1 y (List.mem_of_mem_drop z) l) fun z => kd1 y (List.mem_of_mem_take z) l
  | .error x, use, hr =>
    obtain ⟨⟨m, ns⟩, go⟩ := hr
    refine wpAny_bind (wpAny_holding (wpAny_comp_letGo (cenv := { ce with scope := relabel scope env }) c4 _ t m kd1 ns fun h' _ _ sb => ?_))
    exact wpAny_mono (go h' _ sb fr) (fun _ _ z => z.elim) fun _ _ z => z
end
/-! #### an exception of the block is one of the frame -/
theorem ff_but {h h' B B' : Heap} {C : Addr} (sb : Heap.SameBut C h h') (hB : ∀ b, B.get? b = none → B'.get? b = none) : ∀ l : List PySem.Env, C ∉ frs l → h.FunFrames B l → h'.FunFrames B' l
  | [], _, _ => trivial
  | en :: l, n, ⟨k, ⟨L, o, e1, e2, e3, e4⟩, r⟩ => by
    have nL : L ≠ C := fun z => n (List.mem_filterMap.mpr ⟨en, List.mem_cons_self, by rw [e1, z]⟩)
    exact ⟨k, ⟨L, o, e1, hB L e2, (sb.2 L nL).trans e3, e4⟩, ff_but sb hB l (fun z => n (by
      obtain ⟨y, hy, q⟩ := List.mem_filterMap.mp z
      exact List.mem_filterMap.mpr ⟨y, List.mem_cons_of_mem _ hy, q⟩)) r⟩
theorem held_but {h h' B : Heap} {C a L : Addr} {Z : Obj → Prop} {l : List PySem.Env} (sb : Heap.SameBut C h h') (n : C ∉ frs l) {oC : Obj} (hC : h.get? C = some oC) (nC : ∀ vs, oC.data ≠ .fields vs) (x : HandSPX.HeldZ B l a Z L h) : HandSPX.HeldZ (PySem.W.hideAll B [C]) l a Z L h' := by
  obtain ⟨x1, x2, x3, oe, vs, T, oT, ts, t1, t2, t3, t4, t5, t6, t7, t8, t9⟩ := x
  have hB : ∀ b, B.get? b = none → (PySem.W.hideAll B [C]).get? b = none := fun b e => by
    cases z : (PySem.W.hideAll B [C]).get? b with
    | none => rfl
    | some o => rw [PySem.W.of_hideAll _ z] at e; cases e
  have aC : a ≠ C := fun z => by rw [z, hC] at t1; cases t1; exact nC _ t3
  have TC : T ≠ C := fun z => by rw [z, hC] at t7; cases t7; exact nC _ t8
  refine ⟨fun b o e => ?_, hB a x2, ff_but sb hB l n x3, oe, vs, T, oT, ts, (sb.2 a aC).trans t1, t2, t3, t4, hB T t5, t6, (sb.2 T TC).trans t7, t8, t9⟩
  have bC : b ≠ C := fun z => by rw [z, PySem.W.hideAll_none _ List.mem_cons_self] at e; cases e
  exact (sb.2 b bC).trans (x1 b o (PySem.W.of_hideAll _ e))
theorem pass_held {M : Model} {A : Around} {E : Value → Shared → Prop} {s : Shared} {B : Heap} {a L : Addr} {Z : Obj → Prop} {l : List PySem.Env} {ce : PySem.Env} {what : String} (fr : ce.frame = some L) (x : HandSPX.HeldZ B l a Z L s.heap)
    (k : ∀ h', HandSPX.HeldZ B l a Z L h' → s.heap.UpToSlots h' → E (.ref a) { s with heap := h' }) : wpAny M A (passOn what (.ref a) ce : Sem Value) (fun _ _ => False) E s := by
  obtain ⟨_, _, _, _, fs, T, _, _, g1, _, g3, g4, _⟩ := id x
  have last : wpAny M A (setFlight (.ref a) ce.frame) (fun _ s4 => wpAny M A (throw (.ref a) : Sem Value) (fun _ _ => False) E s4) E s := by
    rw [fr]
    exact HandSPX.setFlight_onZ x fun g2 held up2 => wpAny_throw (k g2 held up2)
  unfold PySem.passOn
  refine wpAny_bind (wpAny_field g1 g3 g4 ?_)
  rw [if_neg (show ¬ ((Value.ref T == Value.none) = true) by simp)]
  first | exact wpAny_bind (wpAny_pure (wpAny_bind last)) | exact wpAny_bind last
end JF

/-! #### the block's exception leaves the list unmade -/
namespace JF
open PySem PySem.Spec PyProof PyProof.Rows L2 L2N
theorem note_same {u : Value} {ce env : PySem.Env} (h : ce.frame = env.frame) : noteFrame u ce = noteFrame u env := by
  unfold noteFrame PySem.frameOf
  rw [h]
section
variable {X : Cx} {W : WX} {pins pinsB pn : List (Addr × Obj)} {σ σB : L2.St} {H3 H : Hp} {s3 s s' : Shared} {fp : List Addr} {scope : Scope} {ce : PySem.Env} {xe : Value → Shared → Prop} {V : XK} {u : Value} {use : Option (Value → Sem Unit)} {Qf : Value → Shared → Prop} {acc : Value}
theorem blk_raise (tk : L2N.Takes X W) (st : X.stack = X.env :: X.outer) (hf : X.env.frame = some X.env.locals) (I3 : Inv X pins σ H3 s3) (f3 : ∀ b ∈ fp, FpOk X pins H3 b ∧ b < s3.heap.objs.size) (cL : ce.locals = s3.heap.objs.size) (cF : ce.frame = X.env.frame)
    (I : Inv ((X.blk s3 H3 scope ce fp).tr pn xe) pinsB σB H s) (hV : ∀ cls d H', V cls d H' → W cls d σ H') (c : L2N.CX X.prog X.w X.stack H s V u s') :
    notedBy (model X.prog X.w) X.A ce (fun x s'' => pstR (model X.prog X.w) X.A X.xe X.env use Qf acc s3.heap.objs.size (.error x) s'') u s' := by
  have I7 : Inv X pins σ H s := I3.call' (ch := fp) I.os I.base I.hok I.bare fun b hb => ⟨(f3 b hb).1.2.2.2.1, (f3 b hb).1.2.1, (f3 b hb).1.2.2.2.2.1, (f3 b hb).1.2.2.2.2.2⟩
  have nC : H s3.heap.objs.size = none := cL ▸ I.free
  obtain ⟨m, ns, _⟩ := I.loc
  have ns : s.heap.Ns s3.heap.objs.size m := cL ▸ ns
  obtain ⟨o, es, ep, e1, e2, e3⟩ := ns
  obtain ⟨g0, g1, g2, g3, g4, g5⟩ := I3.fpOk (H' := H) (Nat.le_refl s3.heap.objs.size) nC
  have nf : s3.heap.objs.size ∉ frs X.stack := fun z => (List.mem_cons.mp (I3.stkSub _ z)).elim g1 g2
  generalize s3.heap.objs.size = C at *
  obtain ⟨a, B, H', cls, d, rfl, fl, hok, ub, na, os, ag, hE⟩ := c
  have eC : s'.heap.get? C = some o := fl.1 _ _ (ub.keep _ _ e1 nC nf)
  have x : L2N.XE X (fun cls d σ' H' => V cls d H' ∧ H' C = none ∧ σ' = σ) (.ref a) s' := L2N.XE.of_call (E := fun cls d H' => V cls d H' ∧ H' C = none) I7 (fun _ _ _ h => ⟨h.1, h.2, rfl⟩) ⟨a, B, H', cls, d, rfl, fl, hok, ub, na, os, ag, hE, ub.free _ _ e1 nC⟩
  obtain ⟨a2, B2, sI, pins2, σ2, H2, cls2, d2, ea, J, nb, up, sky, na2, os2, ag2, hV2, nC2, rfl⟩ := x
  cases ea
  have hfr : X.A.frames = some (X.env :: X.outer) := by rw [J.ok.frames, st]
  have ndo : ∀ vs, o.data ≠ .fields vs := fun vs z => by rw [e2] at z; cases z
  have notC : ∀ {h : Heap} {b : Addr} {v : Obj}, (PySem.W.hideAll h [C]).get? b = some v → b ≠ C := fun {h b v} e z => by rw [z, PySem.W.hideAll_none _ List.mem_cons_self] at e; cases e
  have JJ : Inv X [] σ2 H2 { sI with heap := PySem.W.hideAll sI.heap [C] } := (J.pins_of (pins' := []) fun p hp => nomatch hp).turned (t' := sI.toks) (fun b v n e => PySem.W.hideAll_get _ e fun z => n (List.mem_singleton.mp z)) nC2 g1 g3 g4 fun p hp => g5 p (by
    rw [List.append_nil] at hp
    exact List.mem_append_left _ hp)
  have go : ∀ h1, HandSPX.HeldZ B2 (X.env :: X.outer) a (L2N.Zn cls2 d2) X.env.locals h1 → s'.heap.UpToSlots h1 → pstR (model X.prog X.w) X.A X.xe X.env use Qf acc C (.error (.ref a)) { s' with heap := h1 } := fun h1 held up1 => by
    obtain ⟨sl, eC1⟩ := up1 C o eC ndo
    refine ⟨⟨m, _, es, ep, eC1, e2, e3⟩, fun h' ce' sb fr => ?_⟩
    refine pass_held (l := X.env :: X.outer) (fr.trans hf) (held_but sb (by rw [← st]; exact nf) eC1 ndo held) fun h2 held2 up2 => ?_
    refine tk _ _ ⟨a, PySem.W.hideAll B2 [C], _, [], σ2, H2, cls2, d2, rfl, JJ, fun b v e n => ?_, fun b v e nd => ?_, .inr (.inr (by rw [st]; exact held2)), na2, os2, ag2, hV _ _ _ hV2⟩
    · exact PySem.W.hideAll_get _ (nb b v (PySem.W.of_hideAll _ e) n) fun z => notC e (List.mem_singleton.mp z)
    · obtain ⟨l1, a1⟩ := up b v (PySem.W.of_hideAll _ e) nd
      obtain ⟨l2, a2⟩ := up1 b _ a1 nd
      obtain ⟨l3, a3⟩ := up2 b _ ((sb.2 b (notC e)).trans a2) nd
      exact ⟨l3, a3⟩
  show wpAny (model X.prog X.w) X.A (noteFrame (.ref a) ce) _ _ s'
  rw [note_same cF]
  rw [st] at sky
  rcases sky with ⟨hB, hn, hl, oe, vs, he, hz, hd, h1⟩ | fl2 | hh
  · exact PXN.look_newZ Zn.steady hfr hl hf he hB hn hd h1 hz go
  · exact PXN.looks_onZ Zn.steady hfr hf fl2 go
  · exact HandSPX.againZ hf hh.2.2.2 (go s'.heap hh (Heap.UpToSlots.refl _))
end
end JF

/-! #### the loop, the statement -/
namespace JF
open PySem PySem.Spec PyProof PyProof.Rows L2
abbrev bkR (X : Cx) (s : Shared) (H : Hp) (scope : Scope) (ce : PySem.Env) (fp : List Addr) (xe : Value → Shared → Prop) : Cx := (X.blk s H scope ce fp).tr [] xe
/-- what the element may let out there -/
def BlkX (Y : Cx) (V : XK) : Prop := ∀ σ, L2.PassesAt (L2N.CX Y.prog Y.w) Y σ V
def tLcX (Wo : WX) (wi : TI) (g : TG) (te : XK → TE) (vs : List Nat) : TE := fun σ H Q => tLc wi g tYes (te fun cls d H' => Wo cls d σ H') vs σ H Q
section
variable {X : Cx}
theorem bkr_fp {s3 s : Shared} {H3 H H' : Hp} {scope : Scope} {ce : PySem.Env} {fp : List Addr} {xe : Value → Shared → Prop} {σ : L2.St} (B : Inv (bkR X s3 H3 scope ce fp xe) [] σ H s) (hn : ∀ b ∈ fp, H' b = none) : ∀ b ∈ fp, FpOk (bkR X s3 H3 scope ce fp xe) [] H' b := fun b hb =>
  ⟨hn b hb, (B.ok.exf b hb).1, B.ok.exfs b hb, .inl hb, (B.ok.exf b hb).2, fun r hr => nomatch (show r ∈ ([] : List (Addr × Obj)) from by simpa using hr)⟩
theorem lcX_loop {σ : L2.St} {s3 s4 : Shared} {H3 : Hp} {elt tg iter : Expr} {scope : Scope} {vs : List Nat} {pos : Pos} {ce : PySem.Env} {g : TG} {te : TE} {J : It} {fp : List Addr} {ia D : Addr} {tn : Nat → Heap → Prop} {W : Nat → Nat → Hp → Prop} {m0 : Nat} {Q : VK} {R : Result → Shared → Prop} {xe : Value → Shared → Prop}
    (hx : xe = notedBy (model X.prog X.w) X.A ce fun e s' => R (.error e) s') (hc : X.calm = true) (T : Turn X.prog X.w X.K tg J fp ia tn) (ht : PG (bkR X s3 H3 scope ce fp xe) tg g) (he : PE (bkR X s3 H3 scope ce fp xe) elt te)
    (I4 : Inv (bkR X s3 H3 scope ce fp xe) [] (wipe σ vs) H3 s4) (st4 : tn 0 s4.heap) (fr4 : ∀ b ∈ fp, H3 b = none) (w0 : W 0 m0 H3)
    (turn : ∀ i m H, W i m H → (J.stop i H ∧ Q (.ref D) H) ∨ (J.go i H ∧ ∃ Nx : Hp → Prop, (∀ H', Nx H' → ∃ m', m' < m ∧ W (i + 1) m' H') ∧ ∀ x H', J.yld i H x H' → g x (wipe σ vs) H' fun σ2 H2 => wipe σ2 vs = wipe σ vs ∧ tYes σ2 H2 fun b H3 =>
      if b = true then te σ2 H3 fun y H4 => ∃ acc, H4 D = some (.lst acc) ∧ acc.length < sizeLine ∧ Nx (upd H4 D (.lst (acc ++ [y]))) else Nx H3))
    (fin : ∀ H5 s6, Inv (bkR X s3 H3 scope ce fp xe) [] (wipe σ vs) H5 s6 → Q (.ref D) H5 → R (.ok .next) s6) :
    codeAny (model X.prog X.w) X.A (.compLoop (.ListComp elt [⟨tg, iter, [], 0⟩] scope pos) 0 (.ref ia) (.ref D) ce) R s4 := by
  refine compLoop_any (fun n s' => ∃ i H', Inv (bkR X s3 H3 scope ce fp xe) [] (wipe σ vs) H' s' ∧ tn i s'.heap ∧ (∀ b ∈ fp, H' b = none) ∧ W i n H') (fun n s5 hn => ?_) m0 ⟨0, H3, I4, st4, fr4, w0⟩
  rw [← hx]
  obtain ⟨i, H5, I5, st5, n5, w5⟩ := hn
  rcases turn i n H5 w5 with ⟨stop, qq⟩ | ⟨go, Nx, hNx, step⟩
  · refine thn (T.done (bkR X s3 H3 scope ce fp xe) rfl rfl rfl hc i [] s5 _ H5 xe I5 (bkr_fp I5 n5) st5 stop) fun r s6 h6 => ?_
    obtain ⟨rfl, I6⟩ := h6
    exact fin H5 s6 I6 qq
  · refine thn (T.item (bkR X s3 H3 scope ce fp xe) rfl rfl rfl hc i [] s5 _ H5 xe I5 (bkr_fp I5 n5) st5 go) fun r s6 h6 => ?_
    obtain ⟨u, rfl, h6⟩ := h6
    refine thn h6 fun _ s7 h7 => ?_
    obtain ⟨x, H7, I7, r7, y7, st7, n7⟩ := h7
    have P7 := I7.pinned (bkr_fp I7 n7) (T.obj _ _ st7)
    refine thn (ht.run _ s7 _ H7 x u _ P7 r7 (step x H7 y7)) fun _ s8 h8 => ?_
    obtain ⟨σ8, H8, I8, w8, q8⟩ := h8
    refine thn ((pts_nil (X := bkR X s3 H3 scope ce fp xe)).run _ s8 σ8 H8 _ I8 q8) fun b s9 h9 => ?_
    obtain ⟨H9, I9, q9⟩ := h9
    have back : ∀ {s' : Shared} {H' : Hp}, Inv (bkR X s3 H3 scope ce fp xe) ([] ++ pinsAt fp s7.heap) σ8 H' s' → Nx H' → ∃ m, m < n ∧ ∃ i H', Inv (bkR X s3 H3 scope ce fp xe) [] (wipe σ vs) H' s' ∧ tn i s'.heap ∧ (∀ b ∈ fp, H' b = none) ∧ W i m H' := fun {s' H'} I' nx => by
      obtain ⟨m', lt, w'⟩ := hNx H' nx
      have still : ∀ b ∈ fp, ∀ o, s7.heap.get? b = some o → s'.heap.get? b = some o ∧ H' b = none := fun b hb o e =>
        let z := I'.pin (b, o) (List.mem_append_right _ (List.mem_append_right _ (mem_pinsAt hb e)))
        ⟨z.1, z.2.1⟩
      refine ⟨m', lt, i + 1, H', I'.unpinned.weak (by rw [← w8, wipe_length]) (fun j v e => by rw [← w8] at e; exact (wipe_some e).1), T.keep _ _ _ st7 fun b hb o e => (still b hb o e).1, fun b hb => ?_, w'⟩
      obtain ⟨o, e, _⟩ := T.obj _ _ st7 b hb
      exact (still b hb o e).2
    cases b with
    | false => exact back I9 (by simpa using q9)
    | true =>
      have q9' := by simpa only [if_true] using q9
      simp only [if_true]
      refine thn (he.run _ s9 σ8 H9 _ I9 q9') fun z s10 h10 => ?_
      obtain ⟨yv, H10, I10, r10, acc, hD, sz, nx⟩ := h10
      exact app_ok (X := bkR X s3 H3 scope ce fp xe) I10 hD sz r10 fun s11 I11 => back I11 nx
theorem lcX_core {W : WX} {pins : List (Addr × Obj)} {s : Shared} {σ : L2.St} {H : Hp} {Q : VK} {elt tg iter : Expr} {scope : Scope} {own : List (Str × Nat)} {pos pos' : Pos} {wi : TI} {g : TG} {te : XK → TE} {use : Option (Value → Sem Unit)} {Qf : Value → Shared → Prop}
    (tk : L2N.Takes X W) (hst : X.stack = X.env :: X.outer) (hf : X.env.frame = some X.env.locals) (hc : X.calm = true) (nd : X.N.Nodup) (I : Inv X pins σ H s) (it : PI X tg iter wi) (bo : BlkOk X.N X.env.scope scope own)
    (ht : ∀ (xe : Value → Shared → Prop) (s : Shared) (H : Hp) (C : Addr) (cl : List (Str × Addr)) (fp : List Addr), PG (bkR X s H scope (compEnvC scope cl C X.env) fp xe) tg g)
    (he : ∀ (V : XK) (xe : Value → Shared → Prop) (s : Shared) (H : Hp) (C : Addr) (cl : List (Str × Addr)) (fp : List Addr), BlkX (bkR X s H scope (compEnvC scope cl C X.env) fp xe) V → PE (bkR X s H scope (compEnvC scope cl C X.env) fp xe) elt (te V))
    (fold : ∀ x, foldedSetIterable iter X.env x = pure x) (h : tLcX W wi g te (own.map (·.2)) σ H Q)
    (hRR : ∀ D C s' m H', Inv X pins σ H' s' → Q (.ref D) H' → s'.heap.Ns C m → FpOk X pins H' C → compPost (model X.prog X.w) X.A X.xe use Qf (.ref D) C (.ok .next) s') :
    wpAny (model X.prog X.w) X.A (comprehension (.ListComp elt [⟨tg, iter, [], 0⟩] scope pos) scope X.env pos' (newList []) false (eval iter X.env) use) Qf X.xe s := by
  have clo := closure_ok (scope := scope) (env := X.env) fun y my fr => (bo.free y my fr).elim (fun k => I.ok.has _ (.inl k)) fun k => I.ok.has _ (.inr k)
  refine comp_raises rfl fold clo bo.kind (fun y my l => by rw [bo.uniq y my, l]) (thn (it.run pins s σ H _ I h) fun v s1 h1 => thn h1 fun itv s2 h2 => ?_)
  obtain ⟨ia, fp, tn, J, H2, rfl, I2, T, st2, f2, q⟩ := h2
  refine wpAny_newObj_type (newEnv_comp ⟨rfl, ?_⟩) (by show 0 ≤ sizeLine; decide)
  have hn2 : H2 s2.heap.objs.size = none := I2.hok.fresh (Nat.le_refl _)
  obtain ⟨Wt, ⟨m0, w0⟩, turn⟩ := q _ hn2
  have I3 : Inv X pins σ (upd H2 s2.heap.objs.size (.lst [])) { s2 with heap := s2.heap.push { cls := .type "list", data := .seq ([] : List Value).toArray } } := I2.laid (t' := s2.toks) (fun b o e => Heap.get?_push_of_some _ e) (Nat.le_refl _) ⟨Nat.zero_le _, [], 0, .nil, Heap.get?_push_size _ rfl⟩
  have lt2 : ∀ b ∈ fp, b < s2.heap.objs.size := fun b hb => let ⟨o, e, _⟩ := T.obj _ _ st2 b hb; Heap.lt_size e
  have f3 : ∀ b ∈ fp, FpOk X pins (upd H2 s2.heap.objs.size (.lst [])) b ∧ b < (s2.heap.push { cls := .type "list", data := .seq ([] : List Value).toArray }).objs.size := fun b hb =>
    ⟨⟨by rw [upd_ne (Nat.ne_of_lt (lt2 b hb))]; exact (f2 b hb).1, (f2 b hb).2⟩, by rw [Heap.size_push]; exact Nat.lt_succ_of_lt (lt2 b hb)⟩
  have st3 : tn 0 (s2.heap.push { cls := .type "list", data := .seq ([] : List Value).toArray }) := T.keep _ _ _ st2 fun b _ o e => Heap.get?_push_of_some _ e
  generalize upd H2 s2.heap.objs.size (.lst []) = H3 at I3 f3 w0
  generalize s2.heap.objs.size = D at turn ⊢
  generalize hs3 : ({ s2 with heap := s2.heap.push { cls := .type "list", data := .seq ([] : List Value).toArray } } : Shared) = s3 at I3 ⊢
  have st3 : tn 0 s3.heap := by rw [← hs3]; exact st3
  have f3 : ∀ b ∈ fp, FpOk X pins H3 b ∧ b < s3.heap.objs.size := by rw [← hs3]; exact f3
  have B := block_start I3 bo nd f3
  have st4 : tn 0 (pushCells (s3.heap.push { cls := .type "dict", data := .dict #[] }) scope.names) := T.keep _ _ _ st3 fun b _ o e => pushCells_keeps _ _ _ _ (Heap.get?_push_of_some _ e)
  have loop : codeAny (model X.prog X.w) X.A (.compLoop (.ListComp elt [⟨tg, iter, [], 0⟩] scope pos) 0 (.ref ia) (.ref D) (compEnvC scope (cellsFrom (s3.heap.objs.size + 1) scope.names (cloFrom X.env.cells scope.names [])) s3.heap.objs.size X.env)) (pstR (model X.prog X.w) X.A X.xe X.env use Qf (.ref D) s3.heap.objs.size) { s3 with heap := pushCells (s3.heap.push { cls := .type "dict", data := .dict #[] }) scope.names } := by
    have e1 := fun xe => ht xe s3 H3 s3.heap.objs.size (cellsFrom (s3.heap.objs.size + 1) scope.names (cloFrom X.env.cells scope.names [])) fp
    have e2 := fun xe => he (fun cls d H' => W cls d σ H') xe s3 H3 s3.heap.objs.size (cellsFrom (s3.heap.objs.size + 1) scope.names (cloFrom X.env.cells scope.names [])) fp
    have B' := fun xe => B.toTry xe
    have cL : (compEnvC scope (cellsFrom (s3.heap.objs.size + 1) scope.names (cloFrom X.env.cells scope.names [])) s3.heap.objs.size X.env).locals = s3.heap.objs.size := rfl
    have cF : (compEnvC scope (cellsFrom (s3.heap.objs.size + 1) scope.names (cloFrom X.env.cells scope.names [])) s3.heap.objs.size X.env).frame = X.env.frame := rfl
    generalize compEnvC scope (cellsFrom (s3.heap.objs.size + 1) scope.names (cloFrom X.env.cells scope.names [])) s3.heap.objs.size X.env = ce at e1 e2 B' cL cF ⊢
    refine lcX_loop (xe := notedBy (model X.prog X.w) X.A ce fun e s' => pstR (model X.prog X.w) X.A X.xe X.env use Qf (.ref D) s3.heap.objs.size (.error e) s') rfl hc T (e1 _) (e2 _ fun σ' pb H' s' e s'' I' c => ?_) (B' _) st4 (fun b hb => (f3 b hb).1.1) w0 turn (fun H5 s6 I6 q5 => ?_)
    · exact blk_raise tk hst hf I3 f3 cL cF I' (fun _ _ _ z => z) c
    · have I7 : Inv X pins σ H5 s6 := I3.call' (ch := fp) I6.os I6.base I6.hok I6.bare fun b hb => ⟨(f3 b hb).1.2.2.2.1, (f3 b hb).1.2.1, (f3 b hb).1.2.2.2.2.1, (f3 b hb).1.2.2.2.2.2⟩
      obtain ⟨m, ns, _⟩ := I6.loc
      exact hRR D s3.heap.objs.size s6 m H5 I7 q5 (cL ▸ ns) (I3.fpOk (Nat.le_refl _) (cL ▸ I6.free))
  exact codeAny_compStart_list loop (T.self X.A 0 _ _ _ st4 loop)
theorem ps_setLcX {W : WX} {i : Nat} {y : Str} {py : Pos} {elt tg iter : Expr} {scope : Scope} {own : List (Str × Nat)} {pos spos : Pos} {wi : TI} {g : TG} {te : XK → TE} (tk : L2N.Takes X W) (hst : X.stack = X.env :: X.outer) (hf : X.env.frame = some X.env.locals) (hc : X.calm = true) (nd : X.N.Nodup) (hy : X.N[i]? = some y) (hyl : X.env.scope.names.lookup y = some .local)
    (sw : swapsWith (.ListComp elt [⟨tg, iter, [], 0⟩] scope pos) (some (.Name y py)) spos.line X.env = pure true) (it : PI X tg iter wi) (bo : BlkOk X.N X.env.scope scope own)
    (ht : ∀ (xe : Value → Shared → Prop) (s : Shared) (H : Hp) (C : Addr) (cl : List (Str × Addr)) (fp : List Addr), PG (bkR X s H scope (compEnvC scope cl C X.env) fp xe) tg g)
    (he : ∀ (V : XK) (xe : Value → Shared → Prop) (s : Shared) (H : Hp) (C : Addr) (cl : List (Str × Addr)) (fp : List Addr), BlkX (bkR X s H scope (compEnvC scope cl C X.env) fp xe) V → PE (bkR X s H scope (compEnvC scope cl C X.env) fp xe) elt (te V))
    (fold : ∀ x, foldedSetIterable iter X.env x = pure x := by intro _; rfl) : PS X (.Assign [.Name y py] (.ListComp elt [⟨tg, iter, [], 0⟩] scope pos) spos) (tAsg (tLcX W wi g te (own.map (·.2))) (gName i)) := by
  refine ⟨fun pins s σ H Dn I h => ?_⟩
  have h : tLcX W wi g te (own.map (·.2)) σ H (fun x H1 => gName i x σ H1 Dn.nx) := h
  rw [exec_Assign_Name_used _ _ _ _ sw]
  refine wpAny_bind (wpAny_standAt (wpAny_bind ?_))
  show wpAny _ X.A (do
    let _ ← comprehension (.ListComp elt [⟨tg, iter, [], 0⟩] scope pos) scope X.env (firstIterPos [⟨tg, iter, [], 0⟩] pos) (newList []) false (eval iter X.env) (some (assign (.Name y py) X.env))) _ _ s
  refine wpAny_bind (thn (lcX_core (Qf := fun _ s' => SP X pins Dn .next s') tk hst hf hc nd I it bo ht he fold h fun D C s' m H' I' q ns f => ?_) fun _ s' hq => wpAny_pure (wpAny_pure hq))
  obtain ⟨g0, g1, g2, g3, g4, g5⟩ := f
  show wpAny _ _ (assign (.Name y py) X.env (.ref D)) _ _ _
  refine wpAny_assign_Name (store_ok2 (v := V.ref D) I' nd hy (.inl hyl) rfl (fun s8 I8 ⟨a, sb, ha⟩ => ?_) (.inr hyl))
  refine ⟨m, ns.sameBut sb (ha.elim (fun z => by rw [z]; exact g1) fun z e => g4 y a z e.symm), fun h9 sb9 => ?_⟩
  exact ⟨_, H', I8.turned (t' := s8.toks) (fun b o hb e => (sb9.2 b hb).trans e) g0 g1 g3 g4 g5, q⟩
/-- one or the other, kept by its name -/
def tEi (t1 t2 : TE) : TE := fun σ H Q => t1 σ H Q ∨ t2 σ H Q
theorem pe_orK {e : Expr} {t1 t2 : TE} (h1 : PE X e t1) (h2 : PE X e t2) : PE X e (tEi t1 t2) := pe_or h1 h2
theorem rd_ei {t1 t2 : TE} {σ : L2.St} {H : Hp} {Q : VK} (h : t1 σ H Q ∨ t2 σ H Q) : tEi t1 t2 σ H Q := h
/-- the call of a method there -/
theorem pe_mgP {k : Nat} {m : Str} {ps : List Str} {sp : Sp} {pos apos : Pos} {e o : Expr} {es : List Expr} {ta : TE} {t : TA} {V : XK} (K : PySem.W.Frag) (hK : X.K = K) {cn : Str} {pl : Sem Bool} (bx : BlkX X V) (he : PE X o ta) (c : Cls K (He.ga K cn)) (hm : Meth K (He.ga K cn) m (He.ma K (He.ga K cn) m)) (G : Good X.prog X.w K X.mg X.base (L2N.CX X.prog X.w) k (cn, some m) ps sp) (hr : Room k X.A) (ha : PA X (e :: es) t)
    (hst : starEach (e :: es) X.env = (false, eval e X.env) :: starEach es X.env := by rfl) (hpl : (backTo pos (starEach es X.env)).any (·.1) = false := by rfl)
    (ht : eval (.Call (.Attribute o m apos) (e :: es) [] pos) X.env = (do
      let ov ← eval o X.env
      standAt apos.atName
      let (f, first) ← holding [ov] (getMethod ov m pl)
      callWith pos f first (backTo pos (starEach (e :: es) X.env)) (backToKw pos (keywordEach [] X.env))) := by rfl) :
    PE X (.Call (.Attribute o m apos) (e :: es) [] pos) (tMethX (He.ga K cn) m sp (fun _ => V) ta t) := by
  subst hK
  obtain ⟨fd, F, b, kp, lk⟩ := G
  refine ⟨fun pins s σ H Q I h => ?_⟩
  refine PySem.W.methodCall_KW (pl := pl) (thn (he.run pins s σ H _ I h) fun u s1 ⟨x, H1, I1, rx, a, dx, fs, ex, ea, l, q⟩ => ?_) ht
  subst ex
  have eu : u = Value.ref a := rx
  subst eu
  refine (getmeth_ok I1 ea c hm l ?_)
  refine (PySem.W.callWith_K (first := [.ref a]) (h₀ := X.base) I.ok.mod.kin hm.kp (thn (ha.run pos pins s1 σ H1 _ I1 q) fun us s2 ⟨vs, H2, I2, r, q2⟩ => ⟨I2.kIn, ?_⟩) hst hpl)
  exact run_fnS (us := .ref a :: us) (vs := .ref a :: vs) (E := fun _ => V) F hr b (bx σ) I2 (.cons rfl r) q2
end
end JF

/-! #### a comprehension whose element may raise, anywhere in an expression; calls of defs there -/
namespace JF
open PySem PySem.Spec PyProof.Rows L2
section
variable {X : Cx}
theorem pe_lcX {W : WX} {elt tg iter : Expr} {scope : Scope} {own : List (Str × Nat)} {pos : Pos} {wi : TI} {g : TG} {te : XK → TE} (tk : L2N.Takes X W) (hst : X.stack = X.env :: X.outer) (hf : X.env.frame = some X.env.locals) (hc : X.calm = true) (nd : X.N.Nodup) (it : PI X tg iter wi) (bo : BlkOk X.N X.env.scope scope own)
    (ht : ∀ (xe : Value → Shared → Prop) (s : Shared) (H : Hp) (C : Addr) (cl : List (Str × Addr)) (fp : List Addr), PG (bkR X s H scope (compEnvC scope cl C X.env) fp xe) tg g)
    (he : ∀ (V : XK) (xe : Value → Shared → Prop) (s : Shared) (H : Hp) (C : Addr) (cl : List (Str × Addr)) (fp : List Addr), BlkX (bkR X s H scope (compEnvC scope cl C X.env) fp xe) V → PE (bkR X s H scope (compEnvC scope cl C X.env) fp xe) elt (te V))
    (fold : ∀ x, foldedSetIterable iter X.env x = pure x := by intro _; rfl) : PE X (.ListComp elt [⟨tg, iter, [], 0⟩] scope pos) (tLcX W wi g te (own.map (·.2))) := by
  refine ⟨fun pins s σ H Q I h => ?_⟩
  rw [eval_ListComp]
  refine lcX_core tk hst hf hc nd I it bo ht he fold h fun D C s' m H' I' q hn f => ⟨m, hn, fun h'' sb => ?_⟩
  obtain ⟨f0, f1, f2, f3, f4, f5⟩ := f
  exact ⟨.ref D, H', I'.turned (t' := s'.toks) (fun b o hb e => (sb.2 b hb).trans e) f0 f1 f3 f4 f5, rfl, q⟩
theorem pe_cgP {k : Nat} {x : Str} {ps : List Str} {sp : Sp} {pos p : Pos} {e : Expr} {es : List Expr} {t : TA} {V : XK} (K : PySem.W.Frag) (hK : X.K = K) (bx : BlkX X V) (G : Good X.prog X.w K X.mg X.base (L2N.CX X.prog X.w) k (x, none) ps sp) (hr : Room k X.A) (hm : X.mg x = some (.ref (He.ga K x))) (ha : PA X (e :: es) t) (hg : Gl X x := by rfl)
    (hdb : (x == ("__debug__" : Str)) = false := by decide) (he : starEach (e :: es) X.env = (false, eval e X.env) :: starEach es X.env := by rfl) (hpl : (backTo pos (starEach es X.env)).any (·.1) = false := by rfl) :
    PE X (.Call (.Name x p) (e :: es) [] pos) (tCallS sp (fun _ => V) t) := by
  subst hK
  obtain ⟨fd, F, b, kp, lk⟩ := G
  exact pe_callS F hr hg hm kp b (fun σ => bx σ) ha hdb he hpl
end
end JF

/-! ### x in list, list.index, of lists of numbers -/
namespace JF
open PySem PySem.Spec PyProof.Rows L2
theorem _root_.L2.Room.units65 {k : Nat} {A : Around} (r : Room k A) : A.units + 65 < cLine := by have := r.un; omega
section
variable {X : Cx}
theorem op_inDK (K : PySem.W.Frag) (hK : X.K = K) (hu : X.A.units + 65 < cLine) : OpR X (compareOp .In) (rInD K) := by subst hK; exact op_inD hu
theorem op_notInDK (K : PySem.W.Frag) (hK : X.K = K) (hu : X.A.units + 65 < cLine) : OpR X (compareOp .NotIn) (rNotInD K) := by subst hK; exact op_notInD hu
theorem mt_indexDK (K : PySem.W.Frag) (hK : X.K = K) (hu : X.A.units + 65 < cLine) : MtR X "list.index" (rIndexD K) := by subst hK; exact mt_indexD hu
end
/-- lists of whole numbers, one by one -/
def LR (H : Hp) : List Addr → List (List Int) → Prop
  | [], [] => True
  | r :: rs, x :: xs => H r = some (.lst (x.map V.int)) ∧ LR H rs xs
  | _, _ => False
theorem LR.len {H : Hp} : ∀ {rs : List Addr} {xs : List (List Int)}, LR H rs xs → rs.length = xs.length
  | [], [], _ => rfl
  | r :: rs, x :: xs, h => congrArg (· + 1) (LR.len h.2)
  | [], _ :: _, h => h.elim
  | _ :: _, [], h => h.elim
theorem LR.keep {H H' : Hp} (k : ∀ b ys, H b = some (.lst ys) → (∀ r, b ≠ r → True) → H' b = some (.lst ys)) : ∀ {rs : List Addr} {xs : List (List Int)}, LR H rs xs → LR H' rs xs
  | [], [], _ => trivial
  | r :: rs, x :: xs, h => ⟨k _ _ h.1 fun _ _ => trivial, LR.keep k h.2⟩
  | [], _ :: _, h => h.elim
  | _ :: _, [], h => h.elim
theorem LR.same {H H' : Hp} (s : Same H H') {rs : List Addr} {xs : List (List Int)} (h : LR H rs xs) : LR H' rs xs := h.keep fun b ys e _ => s _ _ e
theorem LR.app {H : Hp} {r : Addr} {x : List Int} (hr : H r = some (.lst (x.map V.int))) : ∀ {rs : List Addr} {xs : List (List Int)}, LR H rs xs → LR H (rs ++ [r]) (xs ++ [x])
  | [], [], _ => ⟨hr, trivial⟩
  | _ :: _, _ :: _, h => ⟨h.1, LR.app hr h.2⟩
  | [], _ :: _, h => h.elim
  | _ :: _, [], h => h.elim
theorem dp_lr {K : PySem.W.Frag} {H : Hp} : ∀ {rs : List Addr} {xs : List (List Int)}, LR H rs xs → DpAll K H (rs.map V.ref) (xs.map fun x => PyData.list (x.map PyData.int))
  | [], [], _ => .nil
  | r :: rs, x :: xs, h => .cons (.lst (SqL.of h.1) dp_ints) (dp_lr h.2)
  | [], _ :: _, h => h.elim
  | _ :: _, [], h => h.elim
theorem lay_lr : ∀ xs : List (List Int), PyData.canLayAll0 (xs.map fun x => PyData.list (x.map PyData.int)) = true
  | [] => by simp [PyData.canLayAll0]
  | x :: xs => by simp [PyData.canLayAll0, PyData.canLay0, lay_lr xs, lay_ints x]
theorem depth_lr : ∀ xs : List (List Int), PyData.depthAll (xs.map fun x => PyData.list (x.map PyData.int)) ≤ 2
  | [] => by simp [PyData.depthAll]
  | x :: xs => by
    have h1 := depth_lr xs
    have h2 := depth_ints x
    simp only [List.map_cons, PyData.depthAll, PyData.depth]
    omega
theorem shaped_lr (xs : List (List Int)) : SeqAt.shaped (.list (xs.map fun x => PyData.list (x.map PyData.int))) = true := by
  have h1 := depth_lr xs
  have h2 := lay_lr xs
  have h3 : PyData.depth (.list (xs.map fun x => PyData.list (x.map PyData.int))) ≤ 64 := by
    simp only [PyData.depth]
    omega
  unfold SeqAt.shaped
  rw [decide_eq_true h3, Bool.and_true]
  simp only [PyData.canLay0, h2]
theorem shaped_row (x : List Int) : SeqAt.shaped (.list (x.map PyData.int)) = true := by
  have h1 := depth_ints x
  have h2 := lay_ints x
  have h3 : PyData.depth (.list (x.map PyData.int)) ≤ 64 := by
    simp only [PyData.depth]
    omega
  unfold SeqAt.shaped
  rw [decide_eq_true h3, Bool.and_true]
  simp only [PyData.canLay0, h2]
theorem eqv_row (x y : List Int) : PyData.eqv (.list (x.map PyData.int)) (.list (y.map PyData.int)) = decide (x = y) := by
  rw [← eqvAll_ints x y]
  simp only [PyData.eqv]
theorem any_row (xs : List (List Int)) (y : List Int) : ((xs.map fun x => PyData.list (x.map PyData.int)).any fun z => PyData.eqv z (.list (y.map PyData.int))) = decide (y ∈ xs) := by
  rw [List.any_map]
  induction xs with
  | nil => simp
  | cons x xs ih =>
    rw [List.any_cons, ih]
    show (PyData.eqv (.list (x.map PyData.int)) (.list (y.map PyData.int)) || _) = _
    rw [eqv_row]
    by_cases c : x = y
    · simp [c]
    · have c' : ¬ y = x := fun z => c z.symm
      simp [c, c']
section
variable {K : PySem.W.Frag} {H : Hp} {Q : VK} {r l : Addr} {y : List Int} {rs : List Addr} {xs : List (List Int)}
/-- row in rows -/
theorem rd_inRow (hr : H r = some (.lst (y.map V.int))) (hl : H l = some (.lst (rs.map V.ref))) (h : LR H rs xs) (q : Q (.bl (decide (y ∈ xs))) H) : rInD K (.ref r) (.ref l) H Q :=
  ⟨_, _, .lst (SqL.of hr) dp_ints, .lst (SqL.of hl) (dp_lr h), shaped_row y, shaped_lr xs, by rw [any_row]; exact q⟩
/-- rows.index(row) -/
theorem rd_ixRow {j : Nat} (hr : H r = some (.lst (y.map V.int))) (hl : H l = some (.lst (rs.map V.ref))) (h : LR H rs xs) (hj : xs[j]? = some y) (hno : ∀ m, m < j → xs[m]? ≠ some y) (q : Q (.int (j : Nat)) H) : rIndexD K (.ref l) [.ref r] H Q :=
  ⟨l, _, _, _, j, _, rfl, rfl, .lst (SqL.of hl) (dp_lr h), .lst (SqL.of hr) dp_ints, shaped_lr xs, shaped_row y, by rw [List.getElem?_map, hj]; rfl, by rw [eqv_row]; exact decide_eq_true rfl, fun m z' hm hz => by
    rw [List.getElem?_map] at hz
    cases e : xs[m]? with
    | none => rw [e] at hz; cases hz
    | some x =>
      rw [e] at hz
      cases hz
      rw [eqv_row]
      exact decide_eq_false fun z => hno m hm (by rw [e, z]), q⟩
end
end JF

/-! ### rules: clauses and conditions -/
namespace JF
open PySem PySem.Spec PyProof.Rows L2
/-! #### the plain meaning -/
inductive Cond where
  | amt (s : Int) (ns : List Int)
  | plc (ws : List (Option Int))
structure Cla where
  taken : Option Int
  conds : List Cond
  made : Int
def wishOk : Option Int → Int → Bool
  | none, _ => true
  | some w, x => decide (w = x)
def plcOk : List (Option Int) → List Int → Bool
  | w :: ws, x :: xs => wishOk w x && plcOk ws xs
  | _, _ => true
def Cond.holds : Cond → List Int → Bool
  | amt s ns, xs => decide ((xs.count s : Int) ∈ ns)
  | plc ws, xs => plcOk ws xs
def Cla.fits (c : Cla) (cell : Int) (xs : List Int) : Bool := wishOk c.taken cell && c.conds.all fun k => k.holds xs
def firstFit (cell : Int) (xs : List Int) : List Cla → Option Nat
  | [] => none
  | c :: cs => if c.fits cell xs = true then some 0 else (firstFit cell xs cs).map (· + 1)
def ruleMakes (cs : List Cla) (cell : Int) (xs : List Int) : Int :=
  match firstFit cell xs cs with
  | none => cell
  | some i => (cs[i]?.map Cla.made).getD cell
def optV : Option Int → V
  | none => .non
  | some i => .int i
def optN : Option Nat → V
  | none => .non
  | some i => .int (i : Int)
/-! #### in the heap -/
def CondAt (K : PySem.W.Frag) (H : Hp) (v : V) : Cond → Prop
  | .amt s ns => ∃ p dx l, v = .ref p ∧ H p = some (.ins (He.ga K "Amount") dx [("state", .int s), ("numbers", .ref l)]) ∧ H l = some (.lst (ns.map V.int))
  | .plc ws => ∃ p dx l, v = .ref p ∧ H p = some (.ins (He.ga K "Places") dx [("wanted", .ref l)]) ∧ H l = some (.lst (ws.map optV))
def AllV {α : Type} (R : V → α → Prop) : List V → List α → Prop
  | [], [] => True
  | v :: vs, x :: xs => R v x ∧ AllV R vs xs
  | _, _ => False
theorem AllV.len {α : Type} {R : V → α → Prop} : ∀ {vs : List V} {xs : List α}, AllV R vs xs → vs.length = xs.length
  | [], [], _ => rfl
  | _ :: _, _ :: _, h => congrArg (· + 1) (AllV.len h.2)
  | [], _ :: _, h => h.elim
  | _ :: _, [], h => h.elim
theorem AllV.get {α : Type} {R : V → α → Prop} : ∀ {vs : List V} {xs : List α} {i : Nat} {v : V}, AllV R vs xs → vs[i]? = some v → ∃ x, xs[i]? = some x ∧ R v x
  | [], [], _, _, _, e => by simp at e
  | v :: vs, x :: xs, 0, _, h, e => by
    simp only [List.getElem?_cons_zero, Option.some.injEq] at e
    subst e
    exact ⟨x, rfl, h.1⟩
  | v :: vs, x :: xs, i + 1, _, h, e => by
    simp only [List.getElem?_cons_succ] at e ⊢
    exact AllV.get h.2 e
  | [], _ :: _, _, _, h, _ => h.elim
  | _ :: _, [], _, _, h, _ => h.elim
theorem AllV.imp {α : Type} {R R' : V → α → Prop} (k : ∀ v x, R v x → R' v x) : ∀ {vs : List V} {xs : List α}, AllV R vs xs → AllV R' vs xs
  | [], [], _ => trivial
  | _ :: _, _ :: _, h => ⟨k _ _ h.1, AllV.imp k h.2⟩
  | [], _ :: _, h => h.elim
  | _ :: _, [], h => h.elim
theorem AllV.app {α : Type} {R : V → α → Prop} {v : V} {x : α} (r : R v x) : ∀ {vs : List V} {xs : List α}, AllV R vs xs → AllV R (vs ++ [v]) (xs ++ [x])
  | [], [], _ => ⟨r, trivial⟩
  | _ :: _, _ :: _, h => ⟨h.1, AllV.app r h.2⟩
  | [], _ :: _, h => h.elim
  | _ :: _, [], h => h.elim
theorem CondAt.same {K : PySem.W.Frag} {H H' : Hp} {v : V} {c : Cond} (h : CondAt K H v c) (s : Same H H') : CondAt K H' v c := by
  cases c with
  | amt st ns =>
    obtain ⟨p, dx, l, e, h1, h2⟩ := h
    exact ⟨p, dx, l, e, s _ _ h1, s _ _ h2⟩
  | plc ws =>
    obtain ⟨p, dx, l, e, h1, h2⟩ := h
    exact ⟨p, dx, l, e, s _ _ h1, s _ _ h2⟩
def ClaAt (K : PySem.W.Frag) (H : Hp) (v : V) (c : Cla) : Prop := ∃ p dx l ps, v = .ref p ∧ H p = some (.ins (He.ga K "Clause") dx [("taken", optV c.taken), ("conditions", .ref l), ("made", .int c.made)]) ∧ H l = some (.lst ps) ∧ AllV (CondAt K H) ps c.conds
theorem ClaAt.same {K : PySem.W.Frag} {H H' : Hp} {v : V} {c : Cla} (h : ClaAt K H v c) (s : Same H H') : ClaAt K H' v c := by
  obtain ⟨p, dx, l, ps, e, h1, h2, h3⟩ := h
  exact ⟨p, dx, l, ps, e, s _ _ h1, s _ _ h2, h3.imp fun _ _ h => h.same s⟩
def RuleAt (K : PySem.W.Frag) (H : Hp) (v : V) (cs : List Cla) : Prop := ∃ p dx l ps, v = .ref p ∧ H p = some (.ins (He.ga K "Rule") dx [("clauses", .ref l)]) ∧ H l = some (.lst ps) ∧ AllV (ClaAt K H) ps cs
theorem RuleAt.same {K : PySem.W.Frag} {H H' : Hp} {v : V} {cs : List Cla} (h : RuleAt K H v cs) (s : Same H H') : RuleAt K H' v cs := by
  obtain ⟨p, dx, l, ps, e, h1, h2, h3⟩ := h
  exact ⟨p, dx, l, ps, e, s _ _ h1, s _ _ h2, h3.imp fun _ _ h => h.same s⟩
theorem inV_ints (i : Int) (ns : List Int) : inV (.int i) (ns.map V.int) = decide (i ∈ ns) := by
  induction ns with
  | nil => rfl
  | cons n ns ih =>
    have e : inV (.int i) ((n :: ns).map V.int) = (eqV (.int n) (.int i) || inV (.int i) (ns.map V.int)) := rfl
    rw [e, ih]
    by_cases h : i = n
    · subst h
      have : eqV (.int i) (.int i) = true := by simp [eqV]
      simp [this]
    · have : eqV (.int n) (.int i) = false := by simp [eqV, Ne.symm h]
      simp [this, h]
theorem flat_ints (ns : List Int) : (ns.map V.int).all flatV = true := by
  induction ns with
  | nil => rfl
  | cons n ns ih => exact ih
section
variable {K : PySem.W.Frag} {σ : L2.St} {H : Hp} {Q : VK}
theorem rd_inI {p : Addr} {i : Int} {ns : List Int} (h : SqL K H p (ns.map V.int)) (q : Q (.bl (decide (i ∈ ns))) H) : rIn K false (.int i) (.ref p) H Q := ⟨p, _, rfl, .inl h, rfl, flat_ints ns, by rw [inV_ints]; exact q⟩
theorem rd_make {C : Addr} {sp : Sp} {tr : TA} (h : tr σ H fun vs H1 => ∀ x dx, H1 x = none → H1 dx = none → dx ≠ x → sp (.ref x :: (vs ++ [])) (upd (upd H1 dx (.own x)) x (.ins C dx [])) (fun v H2 => v = .non ∧ Q (.ref x) H2) E0) : tMake C sp [] E0 tr σ H Q := h
theorem made_same2 {H : Hp} {x dx : Addr} {o o' : HO} (hx : H x = none) (hdx : H dx = none) : Same H (upd (upd H dx o) x o') := fun b u e => by
  rw [upd_ne (ne_of_none e hx), upd_ne (ne_of_none e hdx)]; exact e
theorem Same.put {H0 H : Hp} {p : Addr} {o : HO} (s : Same H0 H) (h : H0 p = none) : Same H0 (upd H p o) := fun b u e => by
  rw [upd_ne (ne_of_none e h)]; exact s b u e
end
section
variable {P : Program} {w : World} {K : PySem.W.Frag} {mg : Str → Option Value} {base : Heap}
/-! #### conditions on amounts -/
def sp_amt_init (C : Addr) : Sp := fun vs H Q _ => ∃ (p dx l : Addr) (s : Int), vs = [.ref p, .int s, .ref l] ∧ H p = some (.ins C dx []) ∧ Q .non (upd (upd H p (.ins C dx [("state", .int s)])) p (.ins C dx [("state", .int s), ("numbers", .ref l)]))
theorem ok_amt_init (T : Env fa fn K mg) : Good P w K mg base CX0 1 ("Amount", some "__init__") ["self", "state", "numbers"] (sp_amt_init (He.ga K "Amount")) := by
  refine good_mk T 4 (d := d_Amount_init) (N := ["self", "state", "numbers"]) (ps := ["self", "state", "numbers"]) rfl rfl sc_Amount_init (fun _ _ _ _ _ _ us hl => match us, hl with | [_, _, _], _ => rfl) (fun vs H Q E h => ?_) (fun f cdv A outer σ0 H vs Q E hr h => ?_)
  · obtain ⟨p, dx, l, s, rfl, _⟩ := h; rfl
  · obtain ⟨p, dx, l, s, rfl, hp, k⟩ := h
    have cl := T.cls 6
    refine ⟨_, (pss_cons (ps_fld (pv 0) (pv 1) rfl)
      (pss_one (ps_fld (pv 0) (pv 2) rfl))), ?_⟩
    walk_at "rd"
    refine ⟨p, _, dx, [], rfl, hp, cl, T.noat 78, by decide, ?_⟩
    walk_at "rd"
    refine ⟨p, _, dx, _, rfl, upd_same, cl, T.noat 77, (by show 1 < 1000; decide), ?_⟩
    exact k
def sp_amt_holds (C : Addr) : Sp := fun vs H Q _ => ∃ (p dx l r : Addr) (s : Int) (ns xs : List Int), vs = [.ref p, .ref r] ∧ H p = some (.ins C dx [("state", .int s), ("numbers", .ref l)]) ∧ H l = some (.lst (ns.map V.int)) ∧ H r = some (.lst (xs.map V.int)) ∧ Q (.bl ((Cond.amt s ns).holds xs)) H
theorem ok_amt_holds (T : Env fa fn K mg) : Good P w K mg base CX0 1 ("Amount", some "holds") ["self", "around"] (sp_amt_holds (He.ga K "Amount")) := by
  refine good_mk T 5 (d := d_Amount_holds) (N := ["self", "around"]) (ps := ["self", "around"]) rfl rfl sc_Amount_holds (fun _ _ _ _ _ _ us hl => match us, hl with | [_, _], _ => rfl) (fun vs H Q E h => ?_) (fun f cdv A outer σ0 H vs Q E hr h => ?_)
  · obtain ⟨p, dx, l, r, s, ns, xs, rfl, _⟩ := h; rfl
  · obtain ⟨p, dx, l, r, s, ns, xs, rfl, hp, hl, hx, k⟩ := h
    have cl := T.cls 6
    have n1 := T.noat 78
    have n2 := T.noat 77
    refine ⟨_, (pss_one (ps_ret (pe_cmpR (op_inK K rfl) (pe_bm PySem.F.plainAttrs_list PySem.F.slot_list_count PySem.F.type_list_count mt_lcount (pv 1) (pa_cons (pe_fldK K rfl (pv 0) rfl) pa_nil)) (pe_fldK K rfl (pv 0) rfl) (by first | exact nomark _ | rfl)))), ?_⟩
    walk_at "rd"
    refine rd_tyL hx ?_
    walk_at "rd"
    refine ⟨r, xs, s, rfl, rfl, SqL.of hx, ?_⟩
    walk_at "rd"
    exact rd_inI (SqL.of hl) k
/-! #### conditions on places -/
def sp_plc_init (C : Addr) : Sp := fun vs H Q _ => ∃ (p dx l : Addr), vs = [.ref p, .ref l] ∧ H p = some (.ins C dx []) ∧ Q .non (upd H p (.ins C dx [("wanted", .ref l)]))
theorem ok_plc_init (T : Env fa fn K mg) : Good P w K mg base CX0 1 ("Places", some "__init__") ["self", "wanted"] (sp_plc_init (He.ga K "Places")) := by
  refine good_mk T 7 (d := d_Places_init) (N := ["self", "wanted"]) (ps := ["self", "wanted"]) rfl rfl sc_Places_init (fun _ _ _ _ _ _ us hl => match us, hl with | [_, _], _ => rfl) (fun vs H Q E h => ?_) (fun f cdv A outer σ0 H vs Q E hr h => ?_)
  · obtain ⟨p, dx, l, rfl, _⟩ := h; rfl
  · obtain ⟨p, dx, l, rfl, hp, k⟩ := h
    have cl := T.cls 4
    refine ⟨_, (pss_one (ps_fld (pv 0) (pv 1) rfl)), ?_⟩
    walk_at "rd"
    refine ⟨p, _, dx, [], rfl, hp, cl, T.noat 82, by decide, ?_⟩
    exact k
def sp_plc_holds (C : Addr) : Sp := fun vs H Q _ => ∃ (p dx l r : Addr) (ws : List (Option Int)) (xs : List Int), vs = [.ref p, .ref r] ∧ H p = some (.ins C dx [("wanted", .ref l)]) ∧ H l = some (.lst (ws.map optV)) ∧ H r = some (.lst (xs.map V.int)) ∧ ws.length = 8 ∧ xs.length = 8 ∧ ∀ H', Same H H' → Q (.bl ((Cond.plc ws).holds xs)) H'
theorem plcOk_split : ∀ (ws : List (Option Int)) (xs : List Int) (i : Nat) (w : Option Int) (x : Int), ws[i]? = some w → xs[i]? = some x → wishOk w x = false → plcOk ws xs = false
  | w0 :: ws, x0 :: xs, 0, w, x, h1, h2, h3 => by
    simp only [List.getElem?_cons_zero, Option.some.injEq] at h1 h2
    subst h1 h2
    show (wishOk w0 x0 && plcOk ws xs) = false
    rw [h3]; rfl
  | w0 :: ws, x0 :: xs, i + 1, w, x, h1, h2, h3 => by
    show (wishOk w0 x0 && plcOk ws xs) = false
    rw [plcOk_split ws xs i w x h1 h2 h3, Bool.and_false]
  | [], _, _, _, _, h1, _, _ => by simp at h1
  | _ :: _, [], _, _, _, _, h2, _ => by simp at h2
theorem plcOk_all : ∀ (ws : List (Option Int)) (xs : List Int), (∀ (i : Nat) w x, ws[i]? = some w → xs[i]? = some x → wishOk w x = true) → plcOk ws xs = true
  | w :: ws, x :: xs, h => by
    show (wishOk w x && plcOk ws xs) = true
    rw [h 0 w x rfl rfl, plcOk_all ws xs fun i w' x' h1 h2 => h (i + 1) w' x' (by simpa using h1) (by simpa using h2)]; rfl
  | [], _, _ => rfl
  | _ :: _, [], _ => rfl
theorem ok_plc_holds (T : Env fa fn K mg) : Good P w K mg base CX0 1 ("Places", some "holds") ["self", "around"] (sp_plc_holds (He.ga K "Places")) := by
  refine good_mk T 8 (d := d_Places_holds) (N := ["self", "around", "wish", "state"]) (ps := ["self", "around"]) rfl rfl sc_Places_holds (fun _ _ _ _ _ _ us hl => match us, hl with | [_, _], _ => rfl) (fun vs H Q E h => ?_) (fun f cdv A outer σ0 H vs Q E hr h => ?_)
  · obtain ⟨p, dx, l, r, ws, xs, rfl, _⟩ := h; rfl
  · obtain ⟨p, dx, l, r, ws, xs, rfl, hp, hl, hx, hw8, hx8, k⟩ := h
    have cl := T.cls 4
    have n1 := T.noat 82
    refine ⟨_, (pss_cons (ps_for PassesOwn.never rfl (pi_zip (by rfl) (T.free 2) (pa_cons (pe_fldK K rfl (pv 0) rfl) (pa_cons (pv 1) pa_nil))) (pg_tup rfl (pgs_cons (pg_name (i := 2) sc_Places_holds.nd rfl (Or.inl rfl)) (pgs_cons (pg_name (i := 3) sc_Places_holds.nd rfl (Or.inl rfl)) pgs_nil))) (pss_one (ps_if (PW.pt (pw_and (pt_cmpR op_notN (pv 2) pe_non (nomark _)) (pw_and1 (pt_cmpR op_ne (pv 2) (pv 3) (nomark _))))) (pss_one (ps_ret pe_bl)) pss_nil)))
      (pss_one (ps_ret pe_bl))), ?_⟩
    walk_at "rd"
    refine ⟨l, r, _, _, rfl, SqL.of hl, SqL.of hx, ?_⟩
    refine RZ.for_zipL (xs := ws.map optV) (ys := xs.map V.int) (by simp [hw8, hx8]) (fun i σ H' => Same H H' ∧ (∀ (j : Nat) w x, j < i → ws[j]? = some w → xs[j]? = some x → wishOk w x = true) ∧ ∃ x2 x3 : Option V, σ = [some (.ref p), some (.ref r), x2, x3])
      ⟨Same.refl _, fun j w x h => by omega, none, none, rfl⟩ (fun i σ H' h => ⟨SqL.of (h.1 _ _ hl), SqL.of (h.1 _ _ hx)⟩) ?_ ?_
    · rintro i x y T' σ H1 hxi hyi ⟨s1, hall, x2, x3, rfl⟩ hT'
      obtain ⟨w_, hw_, rfl⟩ : ∃ w_, ws[i]? = some w_ ∧ x = optV w_ := by
        rw [List.getElem?_map] at hxi
        cases e : ws[i]? with
        | none => rw [e] at hxi; cases hxi
        | some c => rw [e] at hxi; exact ⟨c, rfl, (Option.some.inj hxi).symm⟩
      obtain ⟨z, hz, rfl⟩ : ∃ z, xs[i]? = some z ∧ y = .int z := by
        rw [List.getElem?_map] at hyi
        cases e : xs[i]? with
        | none => rw [e] at hyi; cases hyi
        | some c => rw [e] at hyi; exact ⟨c, rfl, (Option.some.inj hyi).symm⟩
      have s2 := same_upd (o := HO.tup [optV w_, V.int z]) hT'
      have hT2 : (upd H1 T' (HO.tup [optV w_, V.int z])) T' = some (.tup [optV w_, V.int z]) := upd_same
      have next : wishOk w_ z = true → ∀ (j : Nat) w x, j < i + 1 → ws[j]? = some w → xs[j]? = some x → wishOk w x = true := fun hk j w x hj h1 h2 => by
        rcases Nat.lt_or_ge j i with h | h
        · exact hall j w x h h1 h2
        · have e : j = i := by omega
          subst e
          rw [hw_] at h1; rw [hz] at h2
          cases h1; cases h2
          exact hk
      walk_at "rd"
      cases w_ with
      | none =>
        refine iteF ?_
        walk_at "rd"
        exact ⟨s1.trans s2, next rfl, _, _, rfl⟩
      | some w0 =>
        refine iteT ?_
        walk_at "rd"
        refine rd_neI ?_
        refine rd_bl ?_
        refine ite_nd (fun hne => ?_) (fun he => ?_)
        · walk_at "rd"
          have e : (Cond.plc ws).holds xs = false := plcOk_split ws xs i _ _ hw_ hz (by show decide (w0 = z) = false; exact decide_eq_false hne)
          rw [e] at k
          exact k _ (s1.trans s2)
        · walk_at "rd"
          exact ⟨s1.trans s2, next (by show decide (w0 = z) = true; exact decide_eq_true he), _, _, rfl⟩
    · rintro σ H' ⟨s1, hall, x2, x3, rfl⟩
      walk_at "rd"
      have e : (Cond.plc ws).holds xs = true := plcOk_all ws xs fun i w x h1 h2 => hall i w x (by have := (List.getElem?_eq_some_iff.mp h1).1; rw [List.length_map]; exact this) h1 h2
      rw [e] at k
      exact k _ s1
theorem mp_amt_holds {C : Addr} : MonP (sp_amt_holds C) := fun vs H Q Q' E h ⟨p, dx, l, r, s, ns, xs, x1, x2, x3, x4, q⟩ => ⟨p, dx, l, r, s, ns, xs, x1, x2, x3, x4, h _ _ q⟩
theorem mp_plc_holds {C : Addr} : MonP (sp_plc_holds C) := fun vs H Q Q' E h ⟨p, dx, l, r, ws, xs, x1, x2, x3, x4, x5, x6, q⟩ => ⟨p, dx, l, r, ws, xs, x1, x2, x3, x4, x5, x6, fun H' s => h _ _ (q H' s)⟩
/-! #### clauses -/
def sp_cla_init (C : Addr) : Sp := fun vs H Q _ => ∃ (p dx l : Addr) (t : Option Int) (m : Int), vs = [.ref p, optV t, .ref l, .int m] ∧ H p = some (.ins C dx []) ∧ ∀ H', (∀ b, b ≠ p → H' b = H b) → H' p = some (.ins C dx [("taken", optV t), ("conditions", .ref l), ("made", .int m)]) → Q .non H'
theorem ok_cla_init (T : Env fa fn K mg) : Good P w K mg base CX0 1 ("Clause", some "__init__") ["self", "taken", "conditions", "made"] (sp_cla_init (He.ga K "Clause")) := by
  refine good_mk T 11 (d := d_Clause_init) (N := ["self", "taken", "conditions", "made"]) (ps := ["self", "taken", "conditions", "made"]) rfl rfl sc_Clause_init (fun _ _ _ _ _ _ us hl => match us, hl with | [_, _, _, _], _ => rfl) (fun vs H Q E h => ?_) (fun f cdv A outer σ0 H vs Q E hr h => ?_)
  · obtain ⟨p, dx, l, t, m, rfl, _⟩ := h; rfl
  · obtain ⟨p, dx, l, t, m, rfl, hp, k⟩ := h
    have cl := T.cls 11
    refine ⟨_, (pss_cons (ps_fld (pv 0) (pv 1) rfl)
      (pss_cons (ps_fld (pv 0) (pv 2) rfl)
      (pss_one (ps_fld (pv 0) (pv 3) rfl)))), ?_⟩
    walk_at "rd"
    refine ⟨p, _, dx, [], rfl, hp, cl, T.noat 81, by decide, ?_⟩
    walk_at "rd"
    refine ⟨p, _, dx, _, rfl, upd_same, cl, T.noat 79, (by show 1 < 1000; decide), ?_⟩
    walk_at "rd"
    refine ⟨p, _, dx, _, rfl, upd_same, cl, T.noat 80, (by show 2 < 1000; decide), ?_⟩
    exact k _ (fun b hb => by rw [upd_ne hb, upd_ne hb, upd_ne hb]) upd_same
def CondOk : Cond → Prop
  | .amt _ _ => True
  | .plc ws => ws.length = 8
def sp_fits (K : PySem.W.Frag) : Sp := fun vs H Q _ => ∃ (v : V) (r : Addr) (c : Cla) (cell : Int) (xs : List Int), vs = [v, .int cell, .ref r] ∧ ClaAt K H v c ∧ H r = some (.lst (xs.map V.int)) ∧ xs.length = 8 ∧ (∀ k ∈ c.conds, CondOk k) ∧ ∀ H', Same H H' → Q (.bl (c.fits cell xs)) H'
theorem mp_fits : MonP (sp_fits K) := fun vs H Q Q' E h ⟨v, r, c, cell, xs, x1, x2, x3, x4, x5, k⟩ => ⟨v, r, c, cell, xs, x1, x2, x3, x4, x5, fun H' s => h _ _ (k H' s)⟩
theorem ok_fits (T : Env fa fn K mg) : Good P w K mg base CX0 2 ("Clause", some "fits") ["self", "cell", "around"] (sp_fits K) := by
  have G_Amount_holds := ok_amt_holds (P := P) (w := w) (base := base) T
  have G_Places_holds := ok_plc_holds (P := P) (w := w) (base := base) T
  refine good_mk T 12 (d := d_Clause_fits) (N := ["self", "cell", "around", "condition"]) (ps := ["self", "cell", "around"]) rfl rfl sc_Clause_fits (fun _ _ _ _ _ _ us hl => match us, hl with | [_, _, _], _ => rfl) (fun vs H Q E h => ?_) (fun f cdv A outer σ0 H vs Q E hr h => ?_)
  · obtain ⟨v, r, c, cell, xs, rfl, _⟩ := h; rfl
  · obtain ⟨v, r, c, cell, xs, rfl, ⟨p, dx, l, ps, rfl, hp, hl, hc⟩, hx, hx8, hok, k⟩ := h
    have cl := T.cls 11
    have n1 := T.noat 81
    have n2 := T.noat 79
    refine ⟨_, (pss_cons (ps_if (PW.pt (pw_and (pt_cmpR op_notN (pe_fldK K rfl (pv 0) rfl) pe_non (nomark _)) (pw_and1 (pt_cmpR op_ne (pe_fldK K rfl (pv 0) rfl) (pv 1) (nomark _))))) (pss_one (ps_ret pe_bl)) pss_nil)
      (pss_cons (ps_for PassesOwn.never rfl (pi_listK K rfl (pe_fldK K rfl (pv 0) rfl)) (pg_name (i := 3) sc_Clause_fits.nd rfl (Or.inl rfl)) (pss_one (ps_if (pt_not (pt_val (pe_or (pe_mgK K rfl (pv 3) (T.cls 6) (T.meth 7) G_Amount_holds (hr.mono (by decide)) (pa_cons (pv 2) pa_nil)) (pe_mgK K rfl (pv 3) (T.cls 4) (T.meth 5) G_Places_holds (hr.mono (by decide)) (pa_cons (pv 2) pa_nil))))) (pss_one (ps_ret pe_bl)) pss_nil)))
      (pss_one (ps_ret pe_bl)))), ?_⟩
    have main : wishOk c.taken cell = true → ∀ D : Ends, (D.nx = fun x H' => Q .non H') → D.rt = Q → True := fun _ _ _ _ => trivial
    refine rd_cut (fun σ H' => H' = H ∧ wishOk c.taken cell = true ∧ σ = [some (.ref p), some (.int cell), some (.ref r), none]) (by walk_at "mono") ?_ ?_
    · walk_at "rd"
      obtain ⟨ct, cc, cm⟩ := c
      cases ct with
      | none =>
        refine iteF ?_
        walk_at "rd"
        exact ⟨rfl, rfl, rfl⟩
      | some t =>
        refine iteT ?_
        walk_at "rd"
        refine rd_neI ?_
        refine rd_bl ?_
        refine ite_nd (fun hne => ?_) (fun he => ?_)
        · walk_at "rd"
          have e : (Cla.fits ⟨some t, cc, cm⟩ cell xs) = false := by
            show (decide (t = cell) && _) = false
            rw [decide_eq_false hne]; rfl
          rw [e] at k
          exact k _ (Same.refl _)
        · walk_at "rd"
          exact ⟨rfl, decide_eq_true he, rfl⟩
    rintro σ H1 ⟨rfl, hw, rfl⟩
    walk_at "rd"
    refine ⟨l, rfl, ⟨_, SqL.of hl⟩, ?_⟩
    refine for_it (walk_list (xs := ps)) (fun i σ H' => Same H1 H' ∧ (∀ (j : Nat) kc, j < i → c.conds[j]? = some kc → kc.holds xs = true) ∧ ∃ x3 : Option V, σ = [some (.ref p), some (.int cell), some (.ref r), x3]) ⟨Same.refl _, fun j kc h => by omega, none, rfl⟩ ?_ ?_ ?_
    · rintro i σ H' _ ⟨s1, _⟩
      exact SqL.of (s1 _ _ hl)
    · rintro i x σ Ha Hb hi ⟨s1, hall, x3, rfl⟩ ⟨rfl, hxi⟩
      obtain ⟨kc, hkc, hat⟩ := hc.get hxi
      have hok1 := hok kc (List.mem_of_getElem? hkc)
      have hat' := hat.same s1
      have hx' := s1 _ _ hx
      have stop : kc.holds xs = false → ∀ H', Same H1 H' → Q (.bl false) H' := fun he H' s => by
        have e : c.fits cell xs = false := by
          show (wishOk c.taken cell && c.conds.all fun k => k.holds xs) = false
          have e2 : (c.conds.all fun k => k.holds xs) = false := by
            rw [List.all_eq_false]
            exact ⟨kc, List.mem_of_getElem? hkc, by simp [he]⟩
          rw [e2, Bool.and_false]
        rw [e] at k
        exact k _ s
      have next : kc.holds xs = true → ∀ (j : Nat) kc', j < i + 1 → c.conds[j]? = some kc' → kc'.holds xs = true := fun hk j kc' hj h1 => by
        rcases Nat.lt_or_ge j i with h | h
        · exact hall j kc' h h1
        · have e : j = i := by omega
          subst e
          rw [hkc] at h1
          cases h1
          exact hk
      walk_at "rd"
      cases kc with
      | amt st ns =>
        obtain ⟨q, dq, lq, rfl, hq, hlq⟩ := hat'
        left
        walk_at "rd"
        refine rd_methR hq (by rfl) ?_
        walk_at "rd"
        refine ⟨q, dq, lq, r, st, ns, xs, rfl, hq, hlq, hx', ?_⟩
        refine ⟨_, rfl, ?_⟩
        refine ite_nb (fun hb => ?_) (fun hb => ?_)
        · walk_at "rd"
          exact stop hb _ s1
        · walk_at "rd"
          exact ⟨s1, next hb, _, rfl⟩
      | plc ws =>
        obtain ⟨q, dq, lq, rfl, hq, hlq⟩ := hat'
        right
        walk_at "rd"
        refine rd_methR hq (by rfl) ?_
        walk_at "rd"
        refine ⟨q, dq, lq, r, ws, xs, rfl, hq, hlq, hx', hok1, hx8, fun H2 s2 => ?_⟩
        refine ⟨_, rfl, ?_⟩
        refine ite_nb (fun hb => ?_) (fun hb => ?_)
        · walk_at "rd"
          exact stop hb _ (s1.trans s2)
        · walk_at "rd"
          exact ⟨s1.trans s2, next hb, _, rfl⟩
    · rintro σ H' ⟨s1, hall, x3, rfl⟩
      walk_at "rd"
      have e : c.fits cell xs = true := by
        show (wishOk c.taken cell && c.conds.all fun k => k.holds xs) = true
        have e2 : (c.conds.all fun k => k.holds xs) = true := by
          rw [List.all_eq_true]
          intro kc hm
          obtain ⟨j, hj, rfl⟩ := List.mem_iff_getElem.mp hm
          exact hall j _ (by rw [hc.len]; exact hj) (at_get hj)
        rw [hw, e2]; rfl
      rw [e] at k
      exact k _ s1
end
end JF

/-! ### rules: deciding, reading -/
namespace JF
open PySem PySem.Spec PyProof.Rows L2
theorem fit_at {cell : Int} {xs : List Int} : ∀ {cs : List Cla} {i : Nat} {c : Cla}, (∀ (j : Nat) d, j < i → cs[j]? = some d → d.fits cell xs = false) → cs[i]? = some c → c.fits cell xs = true → firstFit cell xs cs = some i
  | d :: cs, 0, c, _, h2, h3 => by
    simp only [List.getElem?_cons_zero, Option.some.injEq] at h2
    subst h2
    unfold firstFit
    rw [if_pos h3]
  | d :: cs, i + 1, c, h1, h2, h3 => by
    unfold firstFit
    rw [if_neg (by rw [h1 0 d (by omega) rfl]; decide), fit_at (i := i) (c := c) (fun j d' hj e => h1 (j + 1) d' (by omega) (by simpa using e)) (by simpa using h2) h3]
    rfl
  | [], _, _, _, h2, _ => by simp at h2
theorem fit_none {cell : Int} {xs : List Int} : ∀ {cs : List Cla}, (∀ (j : Nat) d, cs[j]? = some d → d.fits cell xs = false) → firstFit cell xs cs = none
  | [], _ => rfl
  | d :: cs, h => by
    unfold firstFit
    rw [if_neg (by rw [h 0 d rfl]; decide), fit_none fun j d' e => h (j + 1) d' (by simpa using e)]
    rfl
theorem fit_lt {cell : Int} {xs : List Int} : ∀ {cs : List Cla} {i : Nat}, firstFit cell xs cs = some i → ∃ c, cs[i]? = some c ∧ c.fits cell xs = true
  | d :: cs, i, h => by
    unfold firstFit at h
    by_cases z : d.fits cell xs = true
    · rw [if_pos z] at h
      cases h
      exact ⟨d, rfl, z⟩
    · rw [if_neg z] at h
      cases e : firstFit cell xs cs with
      | none => rw [e] at h; cases h
      | some j =>
        rw [e] at h
        cases h
        obtain ⟨c, h1, h2⟩ := fit_lt e
        exact ⟨c, by simpa using h1, h2⟩
  | [], _, h => by cases h
def RuleOk (cs : List Cla) : Prop := ∀ c ∈ cs, ∀ k ∈ c.conds, CondOk k
section
variable {P : Program} {w : World} {K : PySem.W.Frag} {mg : Str → Option Value} {base : Heap}
def sp_deciding (K : PySem.W.Frag) : Sp := fun vs H Q _ => ∃ (v : V) (r : Addr) (cs : List Cla) (cell : Int) (xs : List Int), vs = [v, .int cell, .ref r] ∧ RuleAt K H v cs ∧ H r = some (.lst (xs.map V.int)) ∧ xs.length = 8 ∧ RuleOk cs ∧ ∀ H', Same H H' → Q (optN (firstFit cell xs cs)) H'
theorem mp_deciding : MonP (sp_deciding K) := fun vs H Q Q' E h ⟨v, r, cs, cell, xs, x1, x2, x3, x4, x5, k⟩ => ⟨v, r, cs, cell, xs, x1, x2, x3, x4, x5, fun H' s => h _ _ (k H' s)⟩
theorem ok_deciding (T : Env fa fn K mg) : Good P w K mg base CX0 3 ("deciding", none) ["rule", "cell", "around"] (sp_deciding K) := by
  have G_Clause_fits := ok_fits (P := P) (w := w) (base := base) T
  refine good_mk T 17 (d := d_deciding) (N := ["rule", "cell", "around", "at", "clause"]) (ps := ["rule", "cell", "around"]) rfl rfl sc_deciding (fun _ _ _ _ _ _ us hl => match us, hl with | [_, _, _], _ => rfl) (fun vs H Q E h => ?_) (fun f cdv A outer σ0 H vs Q E hr h => ?_)
  · obtain ⟨v, r, cs, cell, xs, rfl, _⟩ := h; rfl
  · obtain ⟨v, r, cs, cell, xs, rfl, ⟨p, dx, l, ps, rfl, hp, hl, hc⟩, hx, hx8, hok, k⟩ := h
    have cl := T.cls 84
    have clc := T.cls 11
    have n1 := T.noat 83
    refine ⟨_, (pss_cons (ps_for PassesOwn.never rfl (pi_enum (by rfl) (T.free 10) (pa_cons (pe_fldK K rfl (pv 0) rfl) pa_nil)) (pg_tup rfl (pgs_cons (pg_name (i := 3) sc_deciding.nd rfl (Or.inl rfl)) (pgs_cons (pg_name (i := 4) sc_deciding.nd rfl (Or.inl rfl)) pgs_nil))) (pss_one (ps_if (pt_val (pe_mgK K rfl (pv 4) (T.cls 11) (T.meth 12) G_Clause_fits (hr.mono (by decide)) (pa_cons (pv 1) (pa_cons (pv 2) pa_nil)))) (pss_one (ps_ret (pv 3))) pss_nil)))
      (pss_one (ps_ret pe_non))), ?_⟩
    walk_at "rd"
    refine ⟨l, ps, rfl, SqL.of hl, ?_⟩
    refine for_it (walk_enum (xs := ps)) (fun i σ H' => Same H H' ∧ (∀ (j : Nat) d, j < i → cs[j]? = some d → d.fits cell xs = false) ∧ ∃ x3 x4 : Option V, σ = [some (.ref p), some (.int cell), some (.ref r), x3, x4]) ⟨Same.refl _, fun j d h => by omega, none, none, rfl⟩ ?_ ?_ ?_
    · rintro i σ H' _ ⟨s1, _⟩
      exact SqL.of (s1 _ _ hl)
    · rintro i x σ Ha Hb hi ⟨s1, hall, x3, x4, rfl⟩ ⟨t, u, v, rfl, ht, rfl, eu, ev⟩
      cases eu
      obtain ⟨c, hcc, hat⟩ := hc.get ev
      have s2 := same_upd (o := HO.tup [V.int (i : Nat), v]) ht
      have hT : (upd Ha t (HO.tup [V.int (i : Nat), v])) t = some (.tup [V.int (i : Nat), v]) := upd_same
      have s12 := s1.trans s2
      have hat' := hat.same s12
      obtain ⟨q, dq, lq, pq, rfl, hq, _⟩ := id hat'
      walk_at "rd"
      refine rd_methR hq (by rfl) ?_
      walk_at "rd"
      refine ⟨_, r, c, cell, xs, rfl, hat', s12 _ _ hx, hx8, hok c (List.mem_of_getElem? hcc), fun H3 s3 => ?_⟩
      refine ⟨_, rfl, ?_⟩
      refine ite_b (fun hb => ?_) (fun hb => ?_)
      · walk_at "rd"
        have e : firstFit cell xs cs = some i := fit_at hall hcc hb
        rw [e] at k
        exact k _ (s12.trans s3)
      · walk_at "rd"
        refine ⟨s12.trans s3, fun j d hj h1 => ?_, _, _, rfl⟩
        rcases Nat.lt_or_ge j i with h | h
        · exact hall j d h h1
        · have e : j = i := by omega
          subst e
          rw [hcc] at h1
          cases h1
          exact hb
    · rintro σ H' ⟨s1, hall, x3, x4, rfl⟩
      walk_at "rd"
      have e : firstFit cell xs cs = none := fit_none fun j d h1 => hall j d (by rw [hc.len]; exact (List.getElem?_eq_some_iff.mp h1).1) h1
      rw [e] at k
      exact k _ s1
def sp_becomes (K : PySem.W.Frag) : Sp := fun vs H Q _ => ∃ (v : V) (r : Addr) (cs : List Cla) (cell : Int) (xs : List Int), vs = [v, .int cell, .ref r] ∧ RuleAt K H v cs ∧ H r = some (.lst (xs.map V.int)) ∧ xs.length = 8 ∧ RuleOk cs ∧ ∀ H', Same H H' → Q (.int (ruleMakes cs cell xs)) H'
theorem mp_becomes : MonP (sp_becomes K) := fun vs H Q Q' E h ⟨v, r, cs, cell, xs, x1, x2, x3, x4, x5, k⟩ => ⟨v, r, cs, cell, xs, x1, x2, x3, x4, x5, fun H' s => h _ _ (k H' s)⟩
theorem AllV.at {α : Type} {R : V → α → Prop} : ∀ {vs : List V} {xs : List α} {i : Nat} {x : α}, AllV R vs xs → xs[i]? = some x → ∃ v, vs[i]? = some v ∧ R v x
  | [], [], _, _, _, e => by simp at e
  | v :: vs, x :: xs, 0, _, h, e => by
    simp only [List.getElem?_cons_zero, Option.some.injEq] at e
    subst e
    exact ⟨v, rfl, h.1⟩
  | v :: vs, x :: xs, i + 1, _, h, e => by
    simp only [List.getElem?_cons_succ] at e ⊢
    exact AllV.at h.2 e
  | [], _ :: _, _, _, h, _ => h.elim
  | _ :: _, [], _, _, h, _ => h.elim
theorem ok_becomes (T : Env fa fn K mg) : Good P w K mg base CX0 4 ("becomes", none) ["rule", "cell", "around"] (sp_becomes K) := by
  have G_deciding := ok_deciding (P := P) (w := w) (base := base) T
  refine good_mk T 18 (d := d_becomes) (N := ["rule", "cell", "around", "at"]) (ps := ["rule", "cell", "around"]) rfl rfl sc_becomes (fun _ _ _ _ _ _ us hl => match us, hl with | [_, _, _], _ => rfl) (fun vs H Q E h => ?_) (fun f cdv A outer σ0 H vs Q E hr h => ?_)
  · obtain ⟨v, r, cs, cell, xs, rfl, _⟩ := h; rfl
  · obtain ⟨v, r, cs, cell, xs, rfl, hR, hx, hx8, hok, k⟩ := h
    have cl := T.cls 84
    have clc := T.cls 11
    have n1 := T.noat 83
    have n2 := T.noat 80
    refine ⟨_, (pss_cons (ps_set (i := 3) sc_becomes.nd rfl (Or.inl rfl) (pe_cgK K rfl G_deciding (hr.mono (by decide)) (T.glo 13) (pa_cons (pv 0) (pa_cons (pv 1) (pa_cons (pv 2) pa_nil)))))
      (pss_cons (ps_if (pt_cmpR op_isN (pv 3) pe_non (nomark _)) (pss_one (ps_ret (pv 1))) pss_nil)
      (pss_one (ps_ret (pe_fldK K rfl (pe_ix (ix_listK K rfl) (pe_fldK K rfl (pv 0) rfl) (pv 3) (fun _ _ => rfl)) rfl))))), ?_⟩
    walk_at "rd"
    refine ⟨_, r, cs, cell, xs, rfl, hR, hx, hx8, hok, fun H2 s2 => ?_⟩
    obtain ⟨p, dx, l, ps, rfl, hp, hl, hc⟩ := hR.same s2
    cases e : firstFit cell xs cs with
    | none =>
      have em : ruleMakes cs cell xs = cell := by unfold ruleMakes; rw [e]
      rw [em] at k
      walk_at "rd"
      refine iteT ?_
      walk_at "rd"
      exact k _ s2
    | some i =>
      obtain ⟨c, hcc, _⟩ := fit_lt e
      have em : ruleMakes cs cell xs = c.made := by
        unfold ruleMakes
        rw [e]
        show (cs[i]?.map Cla.made).getD cell = c.made
        rw [hcc]; rfl
      rw [em] at k
      obtain ⟨v, hv, q, dq, lq, pq, rfl, hq, _⟩ := hc.at hcc
      walk_at "rd"
      refine iteF ?_
      walk_at "rd"
      refine rd_ixL (SqL.of hl) (atI_nat hv) ?_
      walk_at "rd"
      exact k _ s2
/-! #### reading -/
abbrev tx (l : List Nat) : Str := ⟨l.toArray⟩
def wishT : Option Int → Nat
  | none => 42
  | some i => 48 + i.toNat
def condT : Cond → List Nat
  | .amt s ns => (48 + s.toNat) :: 61 :: ns.map fun n => 48 + n.toNat
  | .plc ws => ws.map wishT
def claW (c : Cla) : List (List Nat) := [wishT c.taken] :: (c.conds.map condT ++ [[48 + c.made.toNat]])
def claT (c : Cla) : List Nat := TL.joinL [32] (claW c)
def ruleT (cs : List Cla) : List Nat := TL.joinL [59, 32] (cs.map claT)
def St (s : Int) : Prop := 0 ≤ s ∧ s ≤ 7
def WishW : Option Int → Prop
  | none => True
  | some s => St s
def CondW : Cond → Prop
  | .amt s ns => St s ∧ ns ≠ [] ∧ (∀ n ∈ ns, 0 ≤ n ∧ n ≤ 8) ∧ ns.Pairwise (· < ·)
  | .plc ws => ws.length = 8 ∧ ∀ w ∈ ws, WishW w
def ClaW (c : Cla) : Prop := WishW c.taken ∧ (∀ k ∈ c.conds, CondW k) ∧ St c.made
theorem CondW.ok {c : Cond} (h : CondW c) : CondOk c := by
  cases c with
  | amt s ns => trivial
  | plc ws => exact h.1
theorem sign_digit : ∀ d : Nat, d < 9 → PySem.intText? ⟨#[48 + d]⟩ = some (d : Int) := by decide +kernel
theorem states_has {c : Nat} (h0 : 48 ≤ c) (h1 : c ≤ 55) : c ∈ (Str.ofString "01234567").cps.toList := by
  have e : (Str.ofString "01234567").cps.toList = [48, 49, 50, 51, 52, 53, 54, 55] := by decide +kernel
  rw [e]
  simp only [List.mem_cons, List.not_mem_nil, or_false]
  omega
theorem numbers_has {c : Nat} (h0 : 48 ≤ c) (h1 : c ≤ 56) : c ∈ (Str.ofString "012345678").cps.toList := by
  have e : (Str.ofString "012345678").cps.toList = [48, 49, 50, 51, 52, 53, 54, 55, 56] := by decide +kernel
  rw [e]
  simp only [List.mem_cons, List.not_mem_nil, or_false]
  omega
theorem small_len {n : Nat} (h : n ≤ 1000000) : n ≤ sizeLine := by have := sizeBig; omega
def sp_read_state : Sp := fun vs H Q _ => ∃ s : Int, vs = [.str ⟨#[48 + s.toNat]⟩] ∧ St s ∧ Q (.int s) H
theorem mp_read_state : MonP sp_read_state := fun vs H Q Q' E h ⟨s, x1, x2, k⟩ => ⟨s, x1, x2, h _ _ k⟩
theorem ok_read_state (T : Env fa fn K mg) : Good P w K mg base CX0 1 ("read_state", none) ["word"] sp_read_state := by
  refine good_mk T 19 (d := d_read_state) (N := ["word"]) (ps := ["word"]) rfl rfl sc_read_state (fun _ _ _ _ _ _ us hl => match us, hl with | [_], _ => rfl) (fun vs H Q E h => ?_) (fun f cdv A outer σ0 H vs Q E hr h => ?_)
  · obtain ⟨s, rfl, _⟩ := h; rfl
  · obtain ⟨s, rfl, ⟨h0, h7⟩, k⟩ := h
    obtain ⟨d, rfl⟩ : ∃ d : Nat, s = (d : Int) := ⟨s.toNat, by omega⟩
    rw [Int.toNat_natCast]
    refine ⟨_, (pss_cons (ps_if (PW.pt (pw_or (pt_cmpR op_ne (pe_callB call_len_str (by rfl) (T.free 15) (by decide +kernel) (pa_cons (pv 0) pa_nil)) pe_int (nomark _)) (pw_or1 (pt_cmpR op_notIn_sign (pv 0) (pe_gstr (T.str 14) rfl) rfl)))) pss_never pss_nil)
      (pss_one (ps_ret (pe_callTy call_int_str (by rfl) (T.free 16) (by decide +kernel) (pa_cons (pv 0) pa_nil))))), ?_⟩
    walk_at "rd"
    refine ⟨_, rfl, small_len (by show 1 ≤ 1000000; decide), ?_⟩
    walk_at "rd"
    refine iteF ?_
    walk_at "rd"
    refine ⟨48 + d, _, rfl, rfl, ?_⟩
    rw [decide_eq_true (states_has (by omega) (by omega))]
    walk_at "rd"
    exact ⟨_, (d : Int), rfl, sign_digit d (by omega), by show 1 ≤ 640; decide, k⟩
def sp_read_wish : Sp := fun vs H Q _ => ∃ s : Option Int, vs = [.str ⟨#[wishT s]⟩] ∧ WishW s ∧ Q (optV s) H
theorem mp_read_wish : MonP sp_read_wish := fun vs H Q Q' E h ⟨s, x1, x2, k⟩ => ⟨s, x1, x2, h _ _ k⟩
theorem star_ne {s : Int} (h : St s) : ¬ ((⟨#[wishT (some s)]⟩ : Str) = Str.ofString "*") := by
  intro e
  have e2 : (Str.ofString "*").cps.toList = [42] := by decide +kernel
  have e1 : ([48 + s.toNat] : List Nat) = [42] := by rw [← e2, ← e]; rfl
  simp only [List.cons.injEq, and_true] at e1
  omega
theorem ok_read_wish (T : Env fa fn K mg) : Good P w K mg base CX0 2 ("read_wish", none) ["word"] sp_read_wish := by
  have G_read_state := ok_read_state (P := P) (w := w) (base := base) T
  refine good_mk T 20 (d := d_read_wish) (N := ["word"]) (ps := ["word"]) rfl rfl sc_read_wish (fun _ _ _ _ _ _ us hl => match us, hl with | [_], _ => rfl) (fun vs H Q E h => ?_) (fun f cdv A outer σ0 H vs Q E hr h => ?_)
  · obtain ⟨s, rfl, _⟩ := h; rfl
  · obtain ⟨s, rfl, hw, k⟩ := h
    refine ⟨_, (pss_cons (ps_if (pt_cmpR op_eq (pv 0) pe_str (nomark _)) (pss_one (ps_ret pe_non)) pss_nil)
      (pss_one (ps_ret (pe_cgK K rfl G_read_state (hr.mono (by decide)) (T.glo 18) (pa_cons (pv 0) pa_nil))))), ?_⟩
    cases s with
    | none =>
      walk_at "rd"
      refine iteT ?_
      walk_at "rd"
      exact k
    | some s =>
      obtain ⟨h0, h7⟩ := id hw
      walk_at "rd"
      rw [decide_eq_false (star_ne hw)]
      walk_at "rd"
      exact ⟨s, rfl, hw, k⟩
end
end JF

/-! ### rules: reading texts -/
namespace JF
open PySem PySem.Spec PyProof.Rows L2
theorem len_tx (l : List Nat) : (tx l).length = l.length := TL.len_tl _
theorem cut2 {l : List Nat} : cutS (tx l) (some 2) none = tx (l.drop 2) := by
  refine TL.ext_tl ?_
  have e1 : HT.sIx (tx l).length 0 (some 2) = min 2 (tx l).length := HT.sIx_nat _ _ 2
  have e2 : HT.sIx (tx l).length (tx l).length none = (tx l).length := rfl
  unfold cutS
  rw [e1, e2, len_tx]
  show (l.drop (min 2 l.length)).take (l.length - min 2 l.length) = l.drop 2
  rcases Nat.lt_or_ge l.length 2 with h | h
  · rw [List.drop_eq_nil_of_le (by omega), List.drop_eq_nil_of_le (by omega)]; simp
  · rw [Nat.min_eq_left h, List.take_of_length_le (by rw [List.length_drop]; exact Nat.le_refl _)]
theorem cut_mid (a b : V) (m : List V) : cutV (a :: (m ++ [b])) (some 1) (some (-1)) = m := by
  have n : (a :: (m ++ [b])).length = m.length + 2 := by simp
  have e1 : HT.sIx (a :: (m ++ [b])).length 0 (some 1) = min 1 (a :: (m ++ [b])).length := HT.sIx_nat _ _ 1
  have e2 : HT.sIx (a :: (m ++ [b])).length (a :: (m ++ [b])).length (some (-1)) = m.length + 1 := by
    show (if (-1 : Int) < 0 then ((-1 : Int) + ((a :: (m ++ [b])).length : Int)).toNat else min (-1 : Int).toNat (a :: (m ++ [b])).length) = _
    rw [if_pos (by decide), n]; omega
  unfold cutV
  rw [e1, e2, n]
  have e3 : min 1 (m.length + 2) = 1 := by omega
  rw [e3]
  show (m ++ [b]).take (m.length + 1 - 1) = m
  rw [Nat.add_sub_cancel, List.take_left]
theorem split_tx {y : Str} {s : Nat} {S : List Nat} (ey : TL.tl y = s :: S) (hk : y.cps.all (· < 256) = true) {ws : List (List Nat)} (hne : ws ≠ []) (hp : ∀ w ∈ ws, s ∉ w) : Txt.split (tx (TL.joinL (s :: S) ws)) y = ws.map tx := by
  have e : tx (TL.joinL (s :: S) ws) = Txt.join y (ws.map tx) := by
    refine TL.ext_tl ?_
    rw [TL.join_eq, TL.tl_join, ey, List.map_map]
    show TL.joinL (s :: S) ws = TL.joinL (s :: S) (ws.map fun w => w)
    rw [List.map_id']
  rw [e]
  refine TL.split_join ey hk (by simpa using hne) fun p hm => ?_
  obtain ⟨w, hw, rfl⟩ := List.mem_map.mp hm
  exact hp w hw
/-! what is new -/
def CondAtN (N : Addr → Prop) (K : PySem.W.Frag) (H : Hp) (v : V) : Cond → Prop
  | .amt s ns => ∃ p dx l, v = .ref p ∧ H p = some (.ins (He.ga K "Amount") dx [("state", .int s), ("numbers", .ref l)]) ∧ H l = some (.lst (ns.map V.int)) ∧ N p ∧ N l
  | .plc ws => ∃ p dx l, v = .ref p ∧ H p = some (.ins (He.ga K "Places") dx [("wanted", .ref l)]) ∧ H l = some (.lst (ws.map optV)) ∧ N p ∧ N l
theorem CondAtN.at {N : Addr → Prop} {K : PySem.W.Frag} {H : Hp} {v : V} {c : Cond} (h : CondAtN N K H v c) : CondAt K H v c := by
  cases c with
  | amt s ns => obtain ⟨p, dx, l, e, h1, h2, _⟩ := h; exact ⟨p, dx, l, e, h1, h2⟩
  | plc ws => obtain ⟨p, dx, l, e, h1, h2, _⟩ := h; exact ⟨p, dx, l, e, h1, h2⟩
theorem CondAtN.imp {N N' : Addr → Prop} {K : PySem.W.Frag} {H : Hp} {v : V} {c : Cond} (h : CondAtN N K H v c) (k : ∀ b, N b → N' b) : CondAtN N' K H v c := by
  cases c with
  | amt s ns => obtain ⟨p, dx, l, e, h1, h2, h3, h4⟩ := h; exact ⟨p, dx, l, e, h1, h2, k _ h3, k _ h4⟩
  | plc ws => obtain ⟨p, dx, l, e, h1, h2, h3, h4⟩ := h; exact ⟨p, dx, l, e, h1, h2, k _ h3, k _ h4⟩
theorem CondAtN.same {N : Addr → Prop} {K : PySem.W.Frag} {H H' : Hp} {v : V} {c : Cond} (h : CondAtN N K H v c) (s : Same H H') : CondAtN N K H' v c := by
  cases c with
  | amt st ns => obtain ⟨p, dx, l, e, h1, h2, h3, h4⟩ := h; exact ⟨p, dx, l, e, s _ _ h1, s _ _ h2, h3, h4⟩
  | plc ws => obtain ⟨p, dx, l, e, h1, h2, h3, h4⟩ := h; exact ⟨p, dx, l, e, s _ _ h1, s _ _ h2, h3, h4⟩
theorem CondAtN.upd {N : Addr → Prop} {K : PySem.W.Frag} {H : Hp} {v : V} {c : Cond} {D : Addr} {o : HO} (h : CondAtN N K H v c) (k : ∀ b, N b → b ≠ D) : CondAtN N K (L2.upd H D o) v c := by
  cases c with
  | amt st ns => obtain ⟨p, dx, l, e, h1, h2, h3, h4⟩ := h; exact ⟨p, dx, l, e, by rw [upd_ne (k _ h3)]; exact h1, by rw [upd_ne (k _ h4)]; exact h2, h3, h4⟩
  | plc ws => obtain ⟨p, dx, l, e, h1, h2, h3, h4⟩ := h; exact ⟨p, dx, l, e, by rw [upd_ne (k _ h3)]; exact h1, by rw [upd_ne (k _ h4)]; exact h2, h3, h4⟩
def ClaAtN (N : Addr → Prop) (K : PySem.W.Frag) (H : Hp) (v : V) (c : Cla) : Prop := ∃ p dx l ps, v = .ref p ∧ H p = some (.ins (He.ga K "Clause") dx [("taken", optV c.taken), ("conditions", .ref l), ("made", .int c.made)]) ∧ H l = some (.lst ps) ∧ N p ∧ N l ∧ AllV (CondAtN N K H) ps c.conds
theorem ClaAtN.at {N : Addr → Prop} {K : PySem.W.Frag} {H : Hp} {v : V} {c : Cla} (h : ClaAtN N K H v c) : ClaAt K H v c := by
  obtain ⟨p, dx, l, ps, e, h1, h2, _, _, h3⟩ := h
  exact ⟨p, dx, l, ps, e, h1, h2, h3.imp fun _ _ h => h.at⟩
theorem ClaAtN.imp {N N' : Addr → Prop} {K : PySem.W.Frag} {H : Hp} {v : V} {c : Cla} (h : ClaAtN N K H v c) (k : ∀ b, N b → N' b) : ClaAtN N' K H v c := by
  obtain ⟨p, dx, l, ps, e, h1, h2, h3, h4, h5⟩ := h
  exact ⟨p, dx, l, ps, e, h1, h2, k _ h3, k _ h4, h5.imp fun _ _ h => h.imp k⟩
theorem ClaAtN.same {N : Addr → Prop} {K : PySem.W.Frag} {H H' : Hp} {v : V} {c : Cla} (h : ClaAtN N K H v c) (s : Same H H') : ClaAtN N K H' v c := by
  obtain ⟨p, dx, l, ps, e, h1, h2, h3, h4, h5⟩ := h
  exact ⟨p, dx, l, ps, e, s _ _ h1, s _ _ h2, h3, h4, h5.imp fun _ _ h => h.same s⟩
theorem ClaAtN.upd {N : Addr → Prop} {K : PySem.W.Frag} {H : Hp} {v : V} {c : Cla} {D : Addr} {o : HO} (h : ClaAtN N K H v c) (k : ∀ b, N b → b ≠ D) : ClaAtN N K (L2.upd H D o) v c := by
  obtain ⟨p, dx, l, ps, e, h1, h2, h3, h4, h5⟩ := h
  exact ⟨p, dx, l, ps, e, by rw [upd_ne (k _ h3)]; exact h1, by rw [upd_ne (k _ h4)]; exact h2, h3, h4, h5.imp fun _ _ h => h.upd k⟩
theorem none_of {H H' : Hp} (s : Same H H') {b : Addr} (h : H' b = none) : H b = none := by
  cases e : H b with
  | none => rfl
  | some o => rw [s _ _ e] at h; cases h
theorem small_len16 {n : Nat} (h : n + 2 ≤ 16000000) : n + 2 ≤ sizeLine := by have := sizeBig; omega
section
variable {K : PySem.W.Frag} {σ : L2.St} {H : Hp} {Q : VK}
theorem rd_m1 {r : V → List V → Hp → VK → Prop} {ta tb : TE} (h : ta σ H fun x H1 => (∃ a, x = .str a) ∧ tb σ H1 fun y H2 => r x [y] H2 Q) : tM1 r ta tb σ H Q := h
theorem rd_st {z : Str} {R : Prop} (h : R) : (∃ a, V.str z = .str a) ∧ R := ⟨⟨z, rfl⟩, h⟩
theorem Same.put2 {H0 H : Hp} {p : Addr} {o : HO} (s : Same H0 H) (h : H0 p = none) : Same H0 (upd H p o) := fun b u e => by
  rw [upd_ne (ne_of_none e h)]; exact s b u e
end
section
variable {P : Program} {w : World} {K : PySem.W.Frag} {mg : Str → Option Value} {base : Heap}
def numT (ns : List Int) : List Nat := ns.map fun n => 48 + n.toNat
def sp_read_numbers : Sp := fun vs H Q _ => ∃ ns : List Int, vs = [.str (tx (numT ns))] ∧ (∀ n ∈ ns, 0 ≤ n ∧ n ≤ 8) ∧ ns.Pairwise (· < ·) ∧ ns.length ≤ 1000 ∧ ∀ H' l, Same H H' → H l = none → H' l = some (.lst (ns.map V.int)) → Q (.ref l) H'
theorem mp_read_numbers : MonP sp_read_numbers := fun vs H Q Q' E h ⟨ns, x1, x2, x3, x4, k⟩ => ⟨ns, x1, x2, x3, x4, fun H' l a b c => h _ _ (k H' l a b c)⟩
theorem ok_read_numbers (T : Env fa fn K mg) : Good P w K mg base CX0 1 ("read_numbers", none) ["word"] sp_read_numbers := by
  refine good_mk T 21 (d := d_read_numbers) (N := ["word", "numbers", "sign", "number"]) (ps := ["word"]) rfl rfl sc_read_numbers (fun _ _ _ _ _ _ us hl => match us, hl with | [_], _ => rfl) (fun vs H Q E h => ?_) (fun f cdv A outer σ0 H vs Q E hr h => ?_)
  · obtain ⟨ns, rfl, _⟩ := h; rfl
  · obtain ⟨ns, rfl, hn, hp, hl, k⟩ := h
    refine ⟨_, (pss_cons (ps_set (i := 1) sc_read_numbers.nd rfl (Or.inl rfl) (pe_lst pa_nil))
      (pss_cons (ps_for PassesOwn.never rfl (pi_str (pv 0)) (pg_name (i := 2) sc_read_numbers.nd rfl (Or.inl rfl)) (pss_cons (ps_if (pt_cmpR op_notIn_sign (pv 2) (pe_gstr (T.str 19) rfl) rfl) pss_never pss_nil)
      (pss_cons (ps_set (i := 3) sc_read_numbers.nd rfl (Or.inl rfl) (pe_callTy call_int_str (by rfl) (T.free 16) (by decide +kernel) (pa_cons (pv 2) pa_nil)))
      (pss_cons (ps_if (PW.pt (pw_and (pt_cmpR (op_neDK K rfl hr.units) (pv 1) (pe_lst pa_nil) (nomark _)) (pw_and1 (pt_cmpR op_le (pv 3) (pe_ix (ix_listK K rfl) (pv 1) (pe_un un_neg pe_int) (fun _ _ => rfl)) (nomark _))))) pss_never pss_nil)
      (pss_one (ps_expr (pe_bm PySem.F.plainAttrs_list PySem.F.slot_list_append PySem.F.type_list_append mt_append (pv 1) (pa_cons (pv 3) pa_nil))))))))
      (pss_one (ps_ret (pv 1))))), ?_⟩
    walk_at "rd"
    refine rd_new (hn := by show 0 ≤ sizeLine; decide) fun p hp0 => ?_
    have s0 := same_upd (o := .lst []) hp0
    walk_at "rd"
    refine ⟨_, rfl, ?_⟩
    refine for_it (walk_str (z := tx (numT ns))) (fun i σ H' => Same H H' ∧ H' p = some (.lst ((ns.take i).map V.int)) ∧ ∃ x2 x3 : Option V, σ = [some (.str (tx (numT ns))), some (.ref p), x2, x3]) ⟨s0, upd_same, none, none, rfl⟩ (fun _ _ _ _ _ => trivial) ?_ ?_
    · rintro i x σ Ha Hb hi ⟨s1, h1, x2, x3, rfl⟩ ⟨rfl, c, hc, rfl⟩
      have hi' : i < ns.length := by
        have e : (tx (numT ns)).cps.size = ns.length := by show (numT ns).toArray.size = _; simp [numT]
        omega
      have hc' : (numT ns)[i]? = some c := by rw [← hc]; show _ = (numT ns).toArray[i]?; simp
      have hni := hn ns[i] (List.getElem_mem hi')
      have ec : c = 48 + ns[i].toNat := by
        unfold numT at hc'
        rw [List.getElem?_map, at_get hi'] at hc'
        exact (Option.some.inj hc').symm
      subst ec
      walk_at "rd"
      refine ⟨_, _, rfl, rfl, ?_⟩
      rw [decide_eq_true (numbers_has (by omega) (by omega))]
      walk_at "rd"
      refine ⟨_, _, rfl, sign_digit ns[i].toNat (by omega), by show 1 ≤ 640; decide, ?_⟩
      have en : ((ns[i].toNat : Nat) : Int) = ns[i] := by omega
      rw [en]
      walk_at "rd"
      refine rd_new (hn := by show 0 ≤ sizeLine; decide) fun pe hpe => ?_
      have se := same_upd (o := .lst []) hpe
      refine rd_neLI (ns := ns.take i) (ms := []) (SqL.of (se _ _ h1)) (SqL.of upd_same) ?_
      have h1e := se _ _ h1
      have fin : ∀ (x2 x3 : Option V), Same H (upd (upd Hb pe (.lst [])) p (.lst ((ns.take i).map V.int ++ [V.int ns[i]]))) ∧ (upd (upd Hb pe (.lst [])) p (.lst ((ns.take i).map V.int ++ [V.int ns[i]]))) p = some (.lst ((ns.take (i + 1)).map V.int)) ∧ ∃ y2 y3 : Option V, [some (V.str (tx (numT ns))), some (.ref p), x2, x3] = [some (V.str (tx (numT ns))), some (.ref p), y2, y3] := fun x2 x3 => by
        refine ⟨Same.put2 (s1.trans se) hp0, ?_, _, _, rfl⟩
        rw [upd_same, take_snoc (at_get hi'), List.map_append]; rfl
      have hlen : ((ns.take i).map V.int).length < sizeLine := by rw [List.length_map, List.length_take]; have := sizeBig; omega
      by_cases z : ns.take i = []
      · rw [decide_eq_true z]
        walk_at "rd"
        refine rd_tyL h1e ?_
        walk_at "rd"
        refine rd_append h1e hlen ?_
        walk_at "rd"
        exact fin _ _
      · rw [decide_eq_false z]
        walk_at "rd"
        obtain ⟨j, hj⟩ : ∃ j, i = j + 1 := by
          cases i with
          | zero => exact absurd rfl z
          | succ j => exact ⟨j, rfl⟩
        subst hj
        have hjn : j < ns.length := by omega
        have et : ns.take (j + 1) = ns.take j ++ [ns[j]] := take_snoc (at_get hjn)
        refine rd_ixL (SqL.of h1e) (v := .int ns[j]) (by rw [et, List.map_append]; exact atI_last _ _) ?_
        walk_at "rd"
        have hlt : ns[j] < ns[j + 1] := (List.pairwise_iff_getElem.mp hp) j (j + 1) hjn hi' (by omega)
        rw [decide_eq_false (by omega)]
        walk_at "rd"
        refine rd_tyL h1e ?_
        walk_at "rd"
        refine rd_append h1e hlen ?_
        walk_at "rd"
        exact fin _ _
    · rintro σ H' ⟨s1, h1, x2, x3, rfl⟩
      walk_at "rd"
      have e : (tx (numT ns)).cps.size = ns.length := by show (numT ns).toArray.size = _; simp [numT]
      rw [e, List.take_length] at h1
      exact k _ _ s1 hp0 h1
def sp_read_condition (K : PySem.W.Frag) : Sp := fun vs H Q _ => ∃ c : Cond, vs = [.str (tx (condT c))] ∧ CondW c ∧ ∀ H' v, Same H H' → CondAtN (fun b => H b = none) K H' v c → Q v H'
theorem mp_read_condition : MonP (sp_read_condition K) := fun vs H Q Q' E h ⟨c, x1, x2, k⟩ => ⟨c, x1, x2, fun H' v a b => h _ _ (k H' v a b)⟩
theorem nums_le : ∀ {ns : List Int} {a : Int}, (∀ n ∈ ns, a ≤ n ∧ n ≤ 8) → ns.Pairwise (· < ·) → (ns.length : Int) ≤ 9 - a ∨ ns = []
  | [], a, _, _ => .inr rfl
  | [n], a, h, _ => by
    have := h n List.mem_cons_self
    left; simp; omega
  | n :: m :: ns, a, h, hp => by
    left
    have hn := h n List.mem_cons_self
    rw [List.pairwise_cons] at hp
    rcases nums_le (ns := m :: ns) (a := n + 1) (fun x hx => ⟨by have := hp.1 x hx; omega, (h x (List.mem_cons_of_mem _ hx)).2⟩) hp.2 with e | e
    · simp only [List.length_cons] at e ⊢; omega
    · cases e
theorem eq_sign {d : Nat} (h : d ≠ 61) : ¬ ((⟨#[d]⟩ : Str) = Str.ofString "=") := by
  intro e
  have e2 : (Str.ofString "=").cps.toList = [61] := by decide +kernel
  have e1 : ([d] : List Nat) = [61] := by rw [← e2, ← e]
  simp only [List.cons.injEq, and_true] at e1
  exact h e1
theorem wish_ne {s : Option Int} (h : WishW s) : wishT s ≠ 61 := by
  cases s with
  | none => decide
  | some s =>
    have z : St s := h
    show 48 + s.toNat ≠ 61
    unfold St at z
    omega
set_option maxHeartbeats 8000000 in
theorem ok_read_condition (T : Env fa fn K mg) : Good P w K mg base CX0 3 ("read_condition", none) ["word"] (sp_read_condition K) := by
  have G_read_state := ok_read_state (P := P) (w := w) (base := base) T
  have G_read_wish := ok_read_wish (P := P) (w := w) (base := base) T
  have G_read_numbers := ok_read_numbers (P := P) (w := w) (base := base) T
  have G_Amount_init := ok_amt_init (P := P) (w := w) (base := base) T
  have G_Places_init := ok_plc_init (P := P) (w := w) (base := base) T
  refine good_mk T 22 (d := d_read_condition) (N := ["word", "sign"]) (ps := ["word"]) rfl rfl sc_read_condition (fun _ _ _ _ _ _ us hl => match us, hl with | [_], _ => rfl) (fun vs H Q E h => ?_) (fun f cdv A outer σ0 H vs Q E hr h => ?_)
  · obtain ⟨c, rfl, _⟩ := h; rfl
  · obtain ⟨c, rfl, hc, k⟩ := h
    refine ⟨_, (pss_cons (ps_if (PW.pt (pw_and (pt_cmpR op_gt (pe_callB call_len_str (by rfl) (T.free 15) (by decide +kernel) (pa_cons (pv 0) pa_nil)) pe_int (nomark _)) (pw_and1 (pt_cmpR op_eq (pe_ix ix_str (pv 0) pe_int (fun _ _ => rfl)) pe_str (nomark _))))) (pss_one (ps_ret (pe_mkgK K rfl (T.mkr 20) G_Amount_init (hr.mono (by decide)) (T.glo 21) (pa_cons (pe_cgK K rfl G_read_state (hr.mono (by decide)) (T.glo 18) (pa_cons (pe_ix ix_str (pv 0) pe_int (fun _ _ => rfl)) pa_nil)) (pa_cons (pe_cgK K rfl G_read_numbers (hr.mono (by decide)) (T.glo 22) (pa_cons (pe_slice sl_str (pv 0) (po_some pe_int) po_none) pa_nil)) pa_nil))))) pss_nil)
      (pss_cons (ps_if (pt_cmpR op_ne (pe_callB call_len_str (by rfl) (T.free 15) (by decide +kernel) (pa_cons (pv 0) pa_nil)) pe_int (nomark _)) pss_never pss_nil)
      (pss_one (ps_ret (pe_mkgK K rfl (T.mkr 23) G_Places_init (hr.mono (by decide)) (T.glo 24) (pa_cons (pe_lc (own := [("sign", 1)]) (tt := tYes) rfl sc_read_condition.nd (pi_str (pv 0)) (blkOk_by (own := [("sign", 1)]) (N := ["word", "sign"]) (sc := defScope st_read_condition) (by decide +kernel)) (fun _ _ _ _ _ => by exact (pg_name (i := 1) sc_read_condition.nd rfl (Or.inl rfl))) (fun _ _ _ _ _ => by exact pts_nil) (fun _ _ _ _ _ => by exact (pe_cgK K rfl G_read_wish (hr.mono (by decide)) (T.glo 25) (pa_cons (pv 1) pa_nil)))) pa_nil)))))), ?_⟩
    cases c with
    | amt s ns =>
      obtain ⟨hs, hne, hn, hp⟩ := hc
      have hnl : ns.length ≤ 9 := by
        rcases nums_le hn hp with e | e
        · omega
        · rw [e]; simp
      have hl0 : 0 < ns.length := List.length_pos_iff.mpr hne
      have el : (tx (condT (.amt s ns))).length = ns.length + 2 := by rw [len_tx]; simp [condT]
      walk_at "rd"
      refine ⟨_, rfl, small_len (by rw [el]; omega), ?_⟩
      rw [el]
      walk_at "rd"
      rw [decide_eq_true (by omega)]
      walk_at "rd"
      refine ⟨_, _, 61, rfl, rfl, small_len (by rw [el]; omega), atI_nat (j := 1) rfl, ?_⟩
      walk_at "rd"
      refine iteT ?_
      walk_at "rd"
      refine rd_make ?_
      walk_at "rd"
      refine ⟨_, _, 48 + s.toNat, rfl, rfl, small_len (by rw [el]; omega), atI_nat (j := 0) rfl, ?_⟩
      walk_at "rd"
      refine ⟨s, rfl, hs, ?_⟩
      walk_at "rd"
      refine ⟨_, rfl, small_len (by rw [el]; omega), ?_⟩
      rw [cut2]
      walk_at "rd"
      refine ⟨ns, rfl, hn, hp, by omega, fun H2 l s2 hln hl => ?_⟩
      walk_at "rd"
      intro x dx hx hdx hne2
      refine ⟨x, dx, l, s, rfl, upd_same, rfl, ?_⟩
      have hlx : l ≠ x := ne_of_none hl hx
      have hldx : l ≠ dx := ne_of_none hl hdx
      refine k _ _ (s2.trans (Same.put2 (Same.put2 (made_same2 hx hdx) hx) hx)) ⟨x, dx, l, rfl, upd_same, ?_, none_of s2 hx, hln⟩
      rw [upd_ne hlx, upd_ne hlx, upd_ne hlx, upd_ne hldx]
      exact hl
    | plc ws =>
      obtain ⟨h8, hw⟩ := hc
      have el : (tx (condT (.plc ws))).length = 8 := by rw [len_tx]; show (ws.map wishT).length = 8; rw [List.length_map]; exact h8
      walk_at "rd"
      refine ⟨_, rfl, small_len (by rw [el]; decide), ?_⟩
      rw [el]
      walk_at "rd"
      refine iteT ?_
      walk_at "rd"
      have h1 : 1 < ws.length := by omega
      refine ⟨_, _, wishT ws[1], rfl, rfl, small_len (by rw [el]; decide), ?_, ?_⟩
      · refine atI_nat (j := 1) ?_
        show (ws.map wishT)[1]? = _
        rw [List.getElem?_map, at_get h1]; rfl
      walk_at "rd"
      rw [decide_eq_false (eq_sign (wish_ne (hw _ (List.getElem_mem h1))))]
      walk_at "rd"
      refine ⟨_, rfl, small_len (by rw [el]; decide), ?_⟩
      rw [el]
      walk_at "rd"
      refine iteF ?_
      walk_at "rd"
      refine rd_make ?_
      walk_at "rd"
      refine ⟨_, rfl, fun D hD => ?_⟩
      refine lc_it (walk_str (z := tx (ws.map wishT))) (fun i H' => H' = upd H D (.lst ((ws.take i).map optV))) rfl (fun _ _ _ _ => trivial) ?_ ?_
      · rintro i x Ha Hb hi rfl ⟨rfl, c, hcc, rfl⟩
        have hi' : i < ws.length := by
          have e : (tx (ws.map wishT)).cps.size = ws.length := by show (ws.map wishT).toArray.size = _; simp
          omega
        have hc' : (ws.map wishT)[i]? = some c := by rw [← hcc]; show _ = (ws.map wishT).toArray[i]?; simp
        rw [List.getElem?_map, at_get hi'] at hc'
        have ec : c = wishT ws[i] := (Option.some.inj hc').symm
        subst ec
        walk_at "rd"
        refine ⟨rfl, ?_⟩
        walk_at "rd"
        refine ⟨ws[i], rfl, hw _ (List.getElem_mem hi'), ?_⟩
        refine ⟨_, upd_same, ?_, ?_⟩
        · rw [List.length_map, List.length_take]; exact small1000 (by omega)
        · rw [upd_upd, take_snoc (at_get hi'), List.map_append]; rfl
      · rintro H2 rfl
        have e : (tx (ws.map wishT)).cps.size = ws.length := by show (ws.map wishT).toArray.size = _; simp
        rw [e, List.take_length]
        have sD := same_upd (o := .lst (ws.map optV)) hD
        walk_at "rd"
        intro x dx hx hdx hne2
        refine ⟨x, dx, D, rfl, upd_same, rfl, ?_⟩
        have hL : (upd H D (.lst (ws.map optV))) D = some (.lst (ws.map optV)) := upd_same
        have hlx : D ≠ x := ne_of_none hL hx
        have hldx : D ≠ dx := ne_of_none hL hdx
        refine k _ _ (sD.trans (Same.put2 (made_same2 hx hdx) hx)) ⟨x, dx, D, rfl, upd_same, ?_, none_of sD hx, hD⟩
        rw [upd_ne hlx, upd_ne hlx, upd_ne hldx]
        exact hL
/-! #### clauses -/
theorem claW_no {c : Cla} (h : ClaW c) : ∀ w ∈ claW c, (32 : Nat) ∉ w ∧ (59 : Nat) ∉ w := by
  have wish : ∀ s : Option Int, WishW s → wishT s ≠ 32 ∧ wishT s ≠ 59 := fun s hs => by
    cases s with
    | none => decide
    | some s =>
      have z : St s := hs
      unfold St at z
      show 48 + s.toNat ≠ 32 ∧ 48 + s.toNat ≠ 59
      omega
  obtain ⟨h1, h2, h3⟩ := h
  intro w hw
  unfold claW at hw
  rcases List.mem_cons.mp hw with rfl | hw
  · have := wish _ h1
    simp only [List.mem_singleton]
    exact ⟨Ne.symm this.1, Ne.symm this.2⟩
  · rcases List.mem_append.mp hw with hw | hw
    · obtain ⟨k, hk, rfl⟩ := List.mem_map.mp hw
      have hc := h2 k hk
      cases k with
      | amt s ns =>
        obtain ⟨hs, _, hn, _⟩ := hc
        unfold St at hs
        unfold condT
        simp only [List.mem_cons, List.mem_map, not_or, not_exists, not_and]
        refine ⟨⟨by omega, by decide, fun n hm => ?_⟩, ⟨by omega, by decide, fun n hm => ?_⟩⟩
        · have := hn n hm; omega
        · have := hn n hm; omega
      | plc ws =>
        obtain ⟨_, hs⟩ := hc
        unfold condT
        simp only [List.mem_map, not_exists, not_and]
        exact ⟨fun x hm => (wish x (hs x hm)).1, fun x hm => (wish x (hs x hm)).2⟩
    · rw [List.mem_singleton] at hw
      subst hw
      unfold St at h3
      simp only [List.mem_singleton]
      omega
theorem tl_space : TL.tl (Str.ofString " ") = [32] := by decide +kernel
theorem tl_semi : TL.tl (Str.ofString "; ") = [59, 32] := by decide +kernel
def sp_read_clause (K : PySem.W.Frag) : Sp := fun vs H Q _ => ∃ c : Cla, vs = [.str (tx (claT c))] ∧ ClaW c ∧ (claT c).length ≤ 100000 ∧ c.conds.length ≤ 1000 ∧ ∀ H' v, Same H H' → ClaAtN (fun b => H b = none) K H' v c → Q v H'
theorem mp_read_clause : MonP (sp_read_clause K) := fun vs H Q Q' E h ⟨c, x1, x2, x3, x4, k⟩ => ⟨c, x1, x2, x3, x4, fun H' v a b => h _ _ (k H' v a b)⟩
set_option maxHeartbeats 8000000 in
theorem ok_read_clause (T : Env fa fn K mg) : Good P w K mg base CX0 4 ("read_clause", none) ["part"] (sp_read_clause K) := by
  have G_read_state := ok_read_state (P := P) (w := w) (base := base) T
  have G_read_wish := ok_read_wish (P := P) (w := w) (base := base) T
  have G_read_condition := ok_read_condition (P := P) (w := w) (base := base) T
  have G_Clause_init := ok_cla_init (P := P) (w := w) (base := base) T
  refine good_mk T 23 (d := d_read_clause) (N := ["part", "words", "conditions", "word"]) (ps := ["part"]) rfl rfl sc_read_clause (fun _ _ _ _ _ _ us hl => match us, hl with | [_], _ => rfl) (fun vs H Q E h => ?_) (fun f cdv A outer σ0 H vs Q E hr h => ?_)
  · obtain ⟨c, rfl, _⟩ := h; rfl
  · obtain ⟨c, rfl, hc, hlen, hcl, k⟩ := h
    have hno := claW_no hc
    refine ⟨_, (pss_cons (ps_set (i := 1) sc_read_clause.nd rfl (Or.inl rfl) (pe_split (pv 0) pe_str))
      (pss_cons (ps_if (pt_cmpR op_lt (pe_callB (call_lenK K rfl) (by rfl) (T.free 15) (by decide +kernel) (pa_cons (pv 1) pa_nil)) pe_int (nomark _)) pss_never pss_nil)
      (pss_cons (ps_setLc (i := 2) (own := [("word", 3)]) (tt := tYes) rfl sc_read_clause.nd rfl rfl (sw_true rfl rfl rfl (by decide +kernel)) (pi_listK K rfl (pe_slice (sl_listK K rfl) (pv 1) (po_some pe_int) (po_some (pe_un un_neg pe_int)))) (blkOk_by (own := [("word", 3)]) (N := ["part", "words", "conditions", "word"]) (sc := defScope st_read_clause) (by decide +kernel)) (fun _ _ _ _ _ => by exact (pg_name (i := 3) sc_read_clause.nd rfl (Or.inl rfl))) (fun _ _ _ _ _ => by exact pts_nil) (fun _ _ _ _ _ => by exact (pe_cgK K rfl G_read_condition (hr.mono (by decide)) (T.glo 26) (pa_cons (pv 3) pa_nil))))
      (pss_one (ps_ret (pe_mkgK K rfl (T.mkr 27) G_Clause_init (hr.mono (by decide)) (T.glo 28) (pa_cons (pe_cgK K rfl G_read_wish (hr.mono (by decide)) (T.glo 25) (pa_cons (pe_ix (ix_listK K rfl) (pv 1) pe_int (fun _ _ => rfl)) pa_nil)) (pa_cons (pv 2) (pa_cons (pe_cgK K rfl G_read_state (hr.mono (by decide)) (T.glo 18) (pa_cons (pe_ix (ix_listK K rfl) (pv 1) (pe_un un_neg pe_int) (fun _ _ => rfl)) pa_nil)) pa_nil))))))))), ?_⟩
    walk_at "rd"
    refine rd_m1 ?_
    walk_at "rd"
    refine rd_st ?_
    walk_at "rd"
    refine ⟨_, _, rfl, rfl, by decide +kernel, small_len (by rw [len_tx]; omega), fun pw hpw => ?_⟩
    have esp : Txt.split (tx (claT c)) (Str.ofString " ") = (claW c).map tx := split_tx tl_space (by decide +kernel) (by simp [claW]) fun w hw => (hno w hw).1
    rw [esp]
    have eW : ((claW c).map tx).map V.str = V.str (tx [wishT c.taken]) :: ((c.conds.map fun k => V.str (tx (condT k))) ++ [V.str (tx [48 + c.made.toNat])]) := by
      simp [claW, List.map_map, Function.comp_def]
    rw [eW]
    have s1 := same_upd (o := .lst (V.str (tx [wishT c.taken]) :: ((c.conds.map fun k => V.str (tx (condT k))) ++ [V.str (tx [48 + c.made.toNat])]))) hpw
    have L1 : (upd H pw (.lst (V.str (tx [wishT c.taken]) :: ((c.conds.map fun k => V.str (tx (condT k))) ++ [V.str (tx [48 + c.made.toNat])])))) pw = some (.lst (V.str (tx [wishT c.taken]) :: ((c.conds.map fun k => V.str (tx (condT k))) ++ [V.str (tx [48 + c.made.toNat])]))) := upd_same
    generalize upd H pw (.lst (V.str (tx [wishT c.taken]) :: ((c.conds.map fun k => V.str (tx (condT k))) ++ [V.str (tx [48 + c.made.toNat])]))) = H1 at s1 L1 ⊢
    walk_at "rd"
    refine rd_len (SqL.of L1) ?_
    walk_at "rd"
    rw [decide_eq_false (by simp only [List.length_cons, List.length_append, List.length_map, List.length_nil]; omega)]
    walk_at "rd"
    refine ⟨pw, _, rfl, SqL.of L1, fun p2 hp2 => ?_⟩
    rw [show ((-(1 : Int))) = -1 from rfl, cut_mid]
    have s2 := same_upd (o := .lst (c.conds.map fun k => V.str (tx (condT k)))) hp2
    have L2 : (upd H1 p2 (.lst (c.conds.map fun k => V.str (tx (condT k))))) p2 = some (.lst (c.conds.map fun k => V.str (tx (condT k)))) := upd_same
    generalize upd H1 p2 (.lst (c.conds.map fun k => V.str (tx (condT k)))) = H2 at s2 L2 ⊢
    refine ⟨p2, rfl, ⟨_, SqL.of L2⟩, fun D hD => ?_⟩
    have sD := fun o => same_upd (o := o) hD
    refine lc_list (K := K) (xs := c.conds.map fun k => V.str (tx (condT k))) (fun i H' => Same H2 H' ∧ ∃ us, H' D = some (.lst us) ∧ AllV (CondAtN (fun b => b ≠ D ∧ H b = none) K H') us (c.conds.take i)) ?_ ?_ ?_ ?_
    · exact ⟨sD _, [], upd_same, trivial⟩
    · rintro i H' _ ⟨s3, _⟩
      exact SqL.of (s3 _ _ L2)
    · rintro i x H' hx ⟨s3, us, hus, hall⟩
      obtain ⟨kc, hk, rfl⟩ : ∃ kc, c.conds[i]? = some kc ∧ x = V.str (tx (condT kc)) := by
        rw [List.getElem?_map] at hx
        cases e : c.conds[i]? with
        | none => rw [e] at hx; cases hx
        | some y => rw [e] at hx; exact ⟨y, rfl, (Option.some.inj hx).symm⟩
      have hi := (List.getElem?_eq_some_iff.mp hk).1
      walk_at "rd"
      refine ⟨rfl, ?_⟩
      walk_at "rd"
      refine ⟨kc, rfl, hc.2.1 kc (List.mem_of_getElem? hk), fun H4 v s4 hv => ?_⟩
      have hus4 := s4 _ _ hus
      have t : Same H2 (upd H4 D (.lst (us ++ [v]))) := Same.put2 (s3.trans s4) hD
      have hv' : CondAtN (fun b => b ≠ D ∧ H b = none) K H4 v kc := hv.imp fun b hb => ⟨fun z => (by rw [z, hus] at hb; cases hb), none_of ((s1.trans s2).trans s3) hb⟩
      refine ⟨us, hus4, ?_, t, us ++ [v], upd_same, ?_⟩
      · have := hall.len
        rw [List.length_take] at this
        exact small1000 (by omega)
      · rw [take_snoc hk]
        exact ((hall.imp fun _ _ h => h.same s4).app hv').imp fun _ _ h => h.upd fun b hb => hb.1
    · rintro H3 ⟨s3, us, hus, hall⟩
      rw [List.length_map, List.take_length] at hall
      have L3 := s3 _ _ (s2 _ _ L1)
      walk_at "rd"
      refine rd_make ?_
      walk_at "rd"
      refine rd_ixL (SqL.of L3) (v := V.str (tx [wishT c.taken])) (atI_nat (j := 0) rfl) ?_
      walk_at "rd"
      refine ⟨c.taken, rfl, hc.1, ?_⟩
      walk_at "rd"
      refine rd_ixL (SqL.of L3) (v := V.str (tx [48 + c.made.toNat])) (atI_last (_ :: _) _) ?_
      walk_at "rd"
      refine ⟨c.made, rfl, hc.2.2, ?_⟩
      walk_at "rd"
      intro x dx hx hdx hne
      refine ⟨x, dx, D, c.taken, c.made, rfl, upd_same, fun H4 ho hx4 => ⟨rfl, ?_⟩⟩
      have s0 := (s1.trans s2).trans s3
      have s4 : Same H3 H4 := fun b o e => by
        rw [ho b (ne_of_none e hx), upd_ne (ne_of_none e hx), upd_ne (ne_of_none e hdx)]; exact e
      refine k _ _ (s0.trans s4) ⟨x, dx, D, us, rfl, hx4, s4 _ _ hus, none_of s0 hx, none_of (s1.trans s2) hD, (hall.imp fun _ _ h => (h.same s4).imp fun b hb => hb.2)⟩
/-! #### rules -/
def eights : List Int := [0, 0, 0, 0, 0, 0, 0, 0]
def RuleW (cs : List Cla) : Prop := (∀ c ∈ cs, ClaW c) ∧ (∀ c ∈ cs, (claT c).length ≤ 100000 ∧ c.conds.length ≤ 1000) ∧ cs.length ≤ 1000 ∧ (ruleT cs).length ≤ 10000000 ∧ ruleMakes cs 0 eights = 0
theorem RuleW.ok {cs : List Cla} (h : RuleW cs) : RuleOk cs := fun c hc k hk => ((h.1 c hc).2.1 k hk).ok
theorem joinL_pos {S : List Nat} {x : List Nat} (h : x ≠ []) (xs : List (List Nat)) : TL.joinL S (x :: xs) ≠ [] := by
  cases xs with
  | nil => exact h
  | cons y ys =>
    show x ++ _ ≠ []
    intro e
    exact h (List.append_eq_nil_iff.mp e).1
theorem claT_pos (c : Cla) : claT c ≠ [] := joinL_pos (by simp) _
theorem no_semi {c : Cla} (h : ClaW c) : (59 : Nat) ∉ claT c := by
  have hno := claW_no h
  have gen : ∀ ws : List (List Nat), (∀ w ∈ ws, (59 : Nat) ∉ w) → (59 : Nat) ∉ TL.joinL [32] ws := fun ws => by
    induction ws with
    | nil => intro _; simp [TL.joinL]
    | cons x ws ih =>
      intro hw
      cases ws with
      | nil => exact hw x List.mem_cons_self
      | cons y ys =>
        show (59 : Nat) ∉ x ++ ([32] ++ TL.joinL [32] (y :: ys))
        simp only [List.mem_append, List.mem_singleton, not_or]
        exact ⟨hw x List.mem_cons_self, by decide, ih fun w hw' => hw w (List.mem_cons_of_mem _ hw')⟩
  exact gen _ fun w hw => (hno w hw).2
def sp_read_rule (K : PySem.W.Frag) : Sp := fun vs H Q _ => ∃ cs : List Cla, vs = [.str (tx (ruleT cs))] ∧ RuleW cs ∧ ∀ H' v, Same H H' → RuleAt K H' v cs → Q v H'
theorem mp_read_rule : MonP (sp_read_rule K) := fun vs H Q Q' E h ⟨cs, x1, x2, k⟩ => ⟨cs, x1, x2, fun H' v a b => h _ _ (k H' v a b)⟩
def sp_rule_init (C : Addr) : Sp := fun vs H Q _ => ∃ (p dx l : Addr), vs = [.ref p, .ref l] ∧ H p = some (.ins C dx []) ∧ Q .non (upd H p (.ins C dx [("clauses", .ref l)]))
theorem ok_rule_init (T : Env fa fn K mg) : Good P w K mg base CX0 1 ("Rule", some "__init__") ["self", "clauses"] (sp_rule_init (He.ga K "Rule")) := by
  refine good_mk T 16 (d := d_Rule_init) (N := ["self", "clauses"]) (ps := ["self", "clauses"]) rfl rfl sc_Rule_init (fun _ _ _ _ _ _ us hl => match us, hl with | [_, _], _ => rfl) (fun vs H Q E h => ?_) (fun f cdv A outer σ0 H vs Q E hr h => ?_)
  · obtain ⟨p, dx, l, rfl, _⟩ := h; rfl
  · obtain ⟨p, dx, l, rfl, hp, k⟩ := h
    have cl := T.cls 84
    refine ⟨_, (pss_one (ps_fld (pv 0) (pv 1) rfl)), ?_⟩
    walk_at "rd"
    refine ⟨p, _, dx, [], rfl, hp, cl, T.noat 83, by decide, ?_⟩
    exact k
theorem isi_str {z : Str} {H : Hp} {Q : VK} (q : Q (.bl true) H) : rIsi K [.str z, .ty "str"] H Q := isi_ty (.base (.str z)) (by decide +kernel : kitB "str" "str" = some true) q
set_option maxHeartbeats 8000000 in
theorem ok_read_rule (T : Env fa fn K mg) : Good P w K mg base CX0 5 ("read_rule", none) ["text"] (sp_read_rule K) := by
  have G_read_clause := ok_read_clause (P := P) (w := w) (base := base) T
  have G_Rule_init := ok_rule_init (P := P) (w := w) (base := base) T
  have G_becomes := ok_becomes (P := P) (w := w) (base := base) T
  refine good_mk T 24 (d := d_read_rule) (N := ["text", "clauses", "rule", "part"]) (ps := ["text"]) rfl rfl sc_read_rule (fun _ _ _ _ _ _ us hl => match us, hl with | [_], _ => rfl) (fun vs H Q E h => ?_) (fun f cdv A outer σ0 H vs Q E hr h => ?_)
  · obtain ⟨cs, rfl, _⟩ := h; rfl
  · obtain ⟨cs, rfl, hR, k⟩ := h
    obtain ⟨hw, hlen, hcl, hrl, hz⟩ := id hR
    have mp1 := mp_read_clause (K := K)
    refine ⟨_, (pss_cons (ps_if (pt_not (pt_val (pe_callB (call_isiK K rfl) (by rfl) (T.free 29) (by decide +kernel) (pa_cons (pv 0) (pa_cons (pe_bltn (v := V.ty "str") rfl (T.free 1) (by decide +kernel) rfl) pa_nil))))) pss_never pss_nil)
      (pss_cons (ps_set (i := 1) sc_read_rule.nd rfl (Or.inl rfl) (pe_lst pa_nil))
      (pss_cons (ps_if (pt_cmpR op_ne (pv 0) pe_str (nomark _)) (pss_one (ps_setLc (i := 1) (own := [("part", 3)]) (tt := tYes) rfl sc_read_rule.nd rfl rfl (sw_true rfl rfl rfl (by decide +kernel)) (pi_listK K rfl (pe_split (pv 0) pe_str)) (blkOk_by (own := [("part", 3)]) (N := ["text", "clauses", "rule", "part"]) (sc := defScope st_read_rule) (by decide +kernel)) (fun _ _ _ _ _ => by exact (pg_name (i := 3) sc_read_rule.nd rfl (Or.inl rfl))) (fun _ _ _ _ _ => by exact pts_nil) (fun _ _ _ _ _ => by exact (pe_cgK K rfl G_read_clause (hr.mono (by decide)) (T.glo 30) (pa_cons (pv 3) pa_nil))))) pss_nil)
      (pss_cons (ps_set (i := 2) sc_read_rule.nd rfl (Or.inl rfl) (pe_mkgK K rfl (T.mkr 31) G_Rule_init (hr.mono (by decide)) (T.glo 32) (pa_cons (pv 1) pa_nil)))
      (pss_cons (ps_if (pt_cmpR op_ne (pe_cgK K rfl G_becomes (hr.mono (by decide)) (T.glo 33) (pa_cons (pv 2) (pa_cons pe_int (pa_cons (pe_lst (pa_cons pe_int (pa_cons pe_int (pa_cons pe_int (pa_cons pe_int (pa_cons pe_int (pa_cons pe_int (pa_cons pe_int (pa_cons pe_int pa_nil))))))))) pa_nil)))) pe_int (nomark _)) pss_never pss_nil)
      (pss_one (ps_ret (pv 2)))))))), ?_⟩
    walk_at "rd"
    refine isi_str ?_
    walk_at "rd"
    refine rd_new (hn := by show 0 ≤ sizeLine; decide) fun p0 hp0 => ?_
    have s0 := same_upd (o := .lst []) hp0
    have L0 : (upd H p0 (.lst [])) p0 = some (.lst []) := upd_same
    generalize upd H p0 (.lst []) = H0 at s0 L0 ⊢
    walk_at "rhi"
    refine rd_cut (fun σ H1 => ∃ (l : Addr) (us : List V) (x3 : Option V), σ = [some (.str (tx (ruleT cs))), some (.ref l), none, x3] ∧ Same H H1 ∧ H1 l = some (.lst us) ∧ AllV (ClaAt K H1) us cs) (by walk_at "mono") ?_ ?_
    · walk_at "rd"
      cases cs with
      | nil =>
        rw [show (decide ((tx (ruleT [])) = Str.ofString "")) = true from by decide +kernel]
        walk_at "rd"
        exact ⟨p0, [], none, rfl, s0, L0, trivial⟩
      | cons c cs =>
        have hne : ¬ (tx (ruleT (c :: cs)) = Str.ofString "") := fun e => by
          have e2 : (Str.ofString "").cps.toList = [] := by decide +kernel
          have e1 : ruleT (c :: cs) = [] := by rw [← e2, ← e]
          exact joinL_pos (claT_pos c) _ e1
        rw [decide_eq_false hne]
        walk_at "rd"
        refine rd_m1 ?_
        walk_at "rd"
        refine rd_st ?_
        walk_at "rd"
        refine ⟨_, _, rfl, rfl, by decide +kernel, small_len16 (by rw [len_tx]; omega), fun pw hpw => ?_⟩
        have esp : Txt.split (tx (ruleT (c :: cs))) (Str.ofString "; ") = ((c :: cs).map claT).map tx := split_tx tl_semi (by decide +kernel) (by simp) fun w hw' => by
          obtain ⟨d, hd, rfl⟩ := List.mem_map.mp hw'
          exact no_semi (hw d hd)
        rw [esp]
        have eW : (((c :: cs).map claT).map tx).map V.str = (c :: cs).map fun d => V.str (tx (claT d)) := by simp only [List.map_map, Function.comp_def]
        rw [eW]
        generalize hcs : c :: cs = ds at *
        have s2 := same_upd (o := .lst (ds.map fun d => V.str (tx (claT d)))) hpw
        have L2 : (upd H0 pw (.lst (ds.map fun d => V.str (tx (claT d))))) pw = some (.lst (ds.map fun d => V.str (tx (claT d)))) := upd_same
        generalize upd H0 pw (.lst (ds.map fun d => V.str (tx (claT d)))) = H2 at s2 L2 ⊢
        refine ⟨pw, rfl, ⟨_, SqL.of L2⟩, fun D hD => ?_⟩
        have sD := fun o => same_upd (o := o) hD
        refine lc_list (K := K) (xs := ds.map fun d => V.str (tx (claT d))) (fun i H' => Same H2 H' ∧ ∃ us, H' D = some (.lst us) ∧ AllV (ClaAtN (fun b => b ≠ D) K H') us (ds.take i)) ?_ ?_ ?_ ?_
        · exact ⟨sD _, [], upd_same, trivial⟩
        · rintro i H' _ ⟨s3, _⟩
          exact SqL.of (s3 _ _ L2)
        · rintro i x H' hx ⟨s3, us, hus, hall⟩
          obtain ⟨d, hk, rfl⟩ : ∃ d, ds[i]? = some d ∧ x = V.str (tx (claT d)) := by
            rw [List.getElem?_map] at hx
            cases e : ds[i]? with
            | none => rw [e] at hx; cases hx
            | some y => rw [e] at hx; exact ⟨y, rfl, (Option.some.inj hx).symm⟩
          have hi := (List.getElem?_eq_some_iff.mp hk).1
          have hm := List.mem_of_getElem? hk
          walk_at "rd"
          refine ⟨rfl, ?_⟩
          walk_at "rd"
          refine ⟨d, rfl, hw d hm, (hlen d hm).1, (hlen d hm).2, fun H4 v s4 hv => ?_⟩
          have hus4 := s4 _ _ hus
          have hv' : ClaAtN (fun b => b ≠ D) K H4 v d := hv.imp fun b hb z => by rw [z, hus] at hb; cases hb
          refine ⟨us, hus4, ?_, Same.put2 (s3.trans s4) hD, us ++ [v], upd_same, ?_⟩
          · have := hall.len
            rw [List.length_take] at this
            exact small1000 (by omega)
          · rw [take_snoc hk]
            exact ((hall.imp fun _ _ h => h.same s4).app hv').imp fun _ _ h => h.upd fun b hb => hb
        · rintro H3 ⟨s3, us, hus, hall⟩
          rw [List.length_map, List.take_length] at hall
          walk_at "rd"
          exact ⟨D, us, none, rfl, (s0.trans s2).trans s3, hus, hall.imp fun _ _ h => h.at⟩
    rintro σ H1 ⟨l, us, x3, rfl, s1, hl, hall⟩
    walk_at "rd"
    refine rd_make ?_
    walk_at "rd"
    intro x dx hx hdx hne
    refine ⟨x, dx, l, rfl, upd_same, rfl, ?_⟩
    have s2 : Same H1 (upd (upd (upd H1 dx (.own x)) x (.ins (He.ga K "Rule") dx [])) x (.ins (He.ga K "Rule") dx [("clauses", .ref l)])) := Same.put2 (made_same2 hx hdx) hx
    have hat : RuleAt K (upd (upd (upd H1 dx (.own x)) x (.ins (He.ga K "Rule") dx [])) x (.ins (He.ga K "Rule") dx [("clauses", .ref l)])) (.ref x) cs := ⟨x, dx, l, us, rfl, upd_same, s2 _ _ hl, hall.imp fun _ _ h => h.same s2⟩
    generalize upd (upd (upd H1 dx (.own x)) x (.ins (He.ga K "Rule") dx [])) x (.ins (He.ga K "Rule") dx [("clauses", .ref l)]) = H2 at s2 hat ⊢
    walk_at "rd"
    refine rd_new (hn := by show 8 ≤ sizeLine; decide) fun pz hpz => ?_
    have s3 := same_upd (o := .lst [V.int 0, V.int 0, V.int 0, V.int 0, V.int 0, V.int 0, V.int 0, V.int 0]) hpz
    walk_at "rd"
    refine ⟨_, pz, cs, 0, eights, rfl, hat.same s3, upd_same, rfl, hR.ok, fun H4 s4 => ?_⟩
    rw [hz]
    walk_at "rd"
    refine iteF ?_
    walk_at "rd"
    exact k _ _ (((s1.trans s2).trans s3).trans s4) ((hat.same s3).same s4)
end
end JF

/-! ### rules: helpers of the laws -/
namespace JF
open PySem PySem.Spec PyProof.Rows L2
theorem tl_tx (l : List Nat) : TL.tl (tx l) = l := rfl
theorem tl_int {d : Nat} (h : d < 10) : TL.tl (Str.ofString (toString (d : Int))) = [48 + d] := by rw [TL.tl_num, TL.numL_lt h]
theorem take_sign {t : Nat} (h : t < 9) : ((Str.ofString "01234567*").cps.toList)[t]? = some (if t = 8 then 42 else 48 + t) := by
  have e : (Str.ofString "01234567*").cps.toList = [48, 49, 50, 51, 52, 53, 54, 55, 42] := by decide +kernel
  rw [e]
  match t, h with
  | 0, _ => rfl
  | 1, _ => rfl
  | 2, _ => rfl
  | 3, _ => rfl
  | 4, _ => rfl
  | 5, _ => rfl
  | 6, _ => rfl
  | 7, _ => rfl
  | 8, _ => rfl
theorem add_ok {i j : Str} (h : (TL.tl i).length + (TL.tl j).length ≤ 1000000) : i.length + j.length ≤ sizeLine := by
  rw [TL.len_tl i, TL.len_tl j]
  exact small_len h
theorem log_ok {i : Int} (h : i.natAbs < 1000) : i.natAbs.log2 < 1920 := Nat.lt_of_le_of_lt (Nat.log2_le_self _) (by omega)
theorem sum_len : ∀ nu : List Int, (nu.map (List.length ∘ fun n : Int => [48 + n.toNat])).sum = nu.length
  | [] => rfl
  | n :: ns => by
    have ih := sum_len ns
    simp only [List.map_cons, List.sum_cons, ih, Function.comp_apply, List.length_cons, List.length_nil]
    omega
theorem join_one : ∀ nu : List Int, TL.joinL [] (nu.map fun n => [48 + n.toNat]) = numT nu
  | [] => rfl
  | [n] => rfl
  | n :: m :: ns => by
    show [48 + n.toNat] ++ ([] ++ TL.joinL [] ((m :: ns).map fun n => [48 + n.toNat])) = _
    rw [join_one (m :: ns)]; rfl
theorem rule_one (c : Cla) (cell : Int) (xs : List Int) : ruleMakes [c] cell xs = if c.fits cell xs = true then c.made else cell := by
  unfold ruleMakes firstFit
  by_cases h : c.fits cell xs = true
  · rw [if_pos h, if_pos h]; rfl
  · rw [if_neg h, if_neg h]; rfl
theorem fits_one (tk : Nat) (s m : Int) (nu : List Int) (cell : Int) (xs : List Int) : Cla.fits ⟨if tk = 8 then none else some (tk : Int), [.amt s nu], m⟩ cell xs = (decide ((tk : Int) = cell ∨ (tk : Int) = 8) && decide (((xs.count s : Nat) : Int) ∈ nu)) := by
  show (wishOk (if tk = 8 then none else some (tk : Int)) cell && ([Cond.amt s nu].all fun k => k.holds xs)) = _
  have e : ([Cond.amt s nu].all fun k => k.holds xs) = decide (((xs.count s : Nat) : Int) ∈ nu) := by simp [Cond.holds]
  rw [e]
  by_cases z : tk = 8
  · rw [if_pos z, decide_eq_true (by omega : (tk : Int) = cell ∨ (tk : Int) = 8)]; rfl
  · rw [if_neg z]
    show (decide ((tk : Int) = cell) && _) = _
    by_cases y : (tk : Int) = cell
    · rw [decide_eq_true y, decide_eq_true (Or.inl y)]
    · rw [decide_eq_false y, decide_eq_false (by omega : ¬ ((tk : Int) = cell ∨ (tk : Int) = 8))]
section
variable {P : Program} {w : World} {K : PySem.W.Frag} {mg : Str → Option Value} {base : Heap}
def sp_whole : Sp := fun vs H Q _ => ∃ x : V, vs = [x] ∧ ((∃ i, x = .int i) ∨ (∃ b, x = .bl b) ∨ (∃ z, x = .str z) ∨ x = .non) ∧ Q (.bl (wholeV x)) H
theorem mp_whole : MonP sp_whole := fun vs H Q Q' E h ⟨x, x1, x2, q⟩ => ⟨x, x1, x2, h _ _ q⟩
end
end JF

/-! ### drawn clauses: what the laws draw -/
namespace JF
open PySem PySem.Spec PyProof.Rows L2
def wishOf (w : Int) : Option Int := if w = 8 then none else some w
/-- a condition as the laws hold it: a tuple -/
def LCond (H : Hp) (v : V) : Cond → Prop
  | .amt s ns => ∃ (t l : Addr), v = .ref t ∧ H t = some (.tup [.str "amount", .int s, .ref l]) ∧ H l = some (.lst (ns.map V.int))
  | .plc ws => ∃ (t l : Addr) (wv : List Int), v = .ref t ∧ H t = some (.tup [.str "places", .ref l]) ∧ H l = some (.lst (wv.map V.int)) ∧ ws = wv.map wishOf ∧ ∀ w ∈ wv, 0 ≤ w ∧ w ≤ 8
theorem LCond.same {H H' : Hp} {v : V} {c : Cond} (h : LCond H v c) (s : Same H H') : LCond H' v c := by
  cases c with
  | amt st ns => obtain ⟨t, l, e, h1, h2⟩ := h; exact ⟨t, l, e, s _ _ h1, s _ _ h2⟩
  | plc ws => obtain ⟨t, l, wv, e, h1, h2, h3⟩ := h; exact ⟨t, l, wv, e, s _ _ h1, s _ _ h2, h3⟩
def LCondN (N : Addr → Prop) (H : Hp) (v : V) : Cond → Prop
  | .amt s ns => ∃ (t l : Addr), v = .ref t ∧ H t = some (.tup [.str "amount", .int s, .ref l]) ∧ H l = some (.lst (ns.map V.int)) ∧ N l
  | .plc ws => ∃ (t l : Addr) (wv : List Int), v = .ref t ∧ H t = some (.tup [.str "places", .ref l]) ∧ H l = some (.lst (wv.map V.int)) ∧ N l ∧ ws = wv.map wishOf ∧ ∀ w ∈ wv, 0 ≤ w ∧ w ≤ 8
theorem LCondN.at {N : Addr → Prop} {H : Hp} {v : V} {c : Cond} (h : LCondN N H v c) : LCond H v c := by
  cases c with
  | amt st ns => obtain ⟨t, l, e, h1, h2, _⟩ := h; exact ⟨t, l, e, h1, h2⟩
  | plc ws => obtain ⟨t, l, wv, e, h1, h2, _, h3⟩ := h; exact ⟨t, l, wv, e, h1, h2, h3⟩
theorem LCondN.imp {N N' : Addr → Prop} {H : Hp} {v : V} {c : Cond} (h : LCondN N H v c) (k : ∀ b, N b → N' b) : LCondN N' H v c := by
  cases c with
  | amt st ns => obtain ⟨t, l, e, h1, h2, h3⟩ := h; exact ⟨t, l, e, h1, h2, k _ h3⟩
  | plc ws => obtain ⟨t, l, wv, e, h1, h2, h3, h4⟩ := h; exact ⟨t, l, wv, e, h1, h2, k _ h3, h4⟩
theorem LCondN.same {N : Addr → Prop} {H H' : Hp} {v : V} {c : Cond} (h : LCondN N H v c) (s : Same H H') : LCondN N H' v c := by
  cases c with
  | amt st ns => obtain ⟨t, l, e, h1, h2, h3⟩ := h; exact ⟨t, l, e, s _ _ h1, s _ _ h2, h3⟩
  | plc ws => obtain ⟨t, l, wv, e, h1, h2, h3, h4⟩ := h; exact ⟨t, l, wv, e, s _ _ h1, s _ _ h2, h3, h4⟩
theorem LCondN.upd {N : Addr → Prop} {H : Hp} {v : V} {c : Cond} {D : Addr} {o : HO} {xs : List V} (h : LCondN N H v c) (hD : H D = some (.lst xs)) (k : ∀ b, N b → b ≠ D) : LCondN N (L2.upd H D o) v c := by
  have tn : ∀ t ys, H t = some (.tup ys) → t ≠ D := fun t ys e z => by rw [z, hD] at e; cases e
  cases c with
  | amt st ns => obtain ⟨t, l, e, h1, h2, h3⟩ := h; exact ⟨t, l, e, by rw [upd_ne (tn _ _ h1)]; exact h1, by rw [upd_ne (k _ h3)]; exact h2, h3⟩
  | plc ws => obtain ⟨t, l, wv, e, h1, h2, h3, h4⟩ := h; exact ⟨t, l, wv, e, by rw [upd_ne (tn _ _ h1)]; exact h1, by rw [upd_ne (k _ h3)]; exact h2, h3, h4⟩
def takenN (t : Option Int) : Int := t.getD 8
def LCla (H : Hp) (v : V) (c : Cla) : Prop := ∃ t l ps, v = .ref t ∧ H t = some (.tup [.int (takenN c.taken), .ref l, .int c.made]) ∧ H l = some (.lst ps) ∧ AllV (LCond H) ps c.conds
theorem LCla.same {H H' : Hp} {v : V} {c : Cla} (h : LCla H v c) (s : Same H H') : LCla H' v c := by
  obtain ⟨t, l, ps, e, h1, h2, h3⟩ := h
  exact ⟨t, l, ps, e, s _ _ h1, s _ _ h2, h3.imp fun _ _ h => h.same s⟩
section
variable {P : Program} {w : World} {K : PySem.W.Frag} {mg : Str → Option Value} {base : Heap}
/-- some number from 0 on -/
def sp_mix : Sp := fun vs H Q _ => ∃ c k : Int, vs = [.int c, .int k] ∧ 0 ≤ k ∧ k ≤ 100000 ∧ ∀ z : Int, 0 ≤ z → z < 2147483648 → Q (.int z) H
theorem mp_mix : MonP sp_mix := fun vs H Q Q' E h ⟨c, k, x1, x2, x3, q⟩ => ⟨c, k, x1, x2, x3, fun z a b => h _ _ (q z a b)⟩
theorem mid_mul {a b : Int} (h1 : -(2 ^ 100) < a) (h2 : a < 2 ^ 100) (h3 : -(2 ^ 100) < b) (h4 : b < 2 ^ 100) : CMulW a b := by
  have e1 : (2 : Int) ^ 100 ≤ 2 ^ 2000 := by decide +kernel
  exact mulW_of (by omega) (by omega) (by omega) (by omega)
theorem ok_mix (T : Env fa fn K mg) : Good P w K mg base CX0 1 ("_law_mix", none) ["_law_cell", "_law_k"] sp_mix := by
  refine good_mk T 27 (d := d_w_mix) (N := ["_law_cell", "_law_k", "_law_value"]) (ps := ["_law_cell", "_law_k"]) rfl rfl sc_w_mix (fun _ _ _ _ _ _ us hl => match us, hl with | [_, _], _ => rfl) (fun vs H Q E h => ?_) (fun f cdv A outer σ0 H vs Q E hr h => ?_)
  · obtain ⟨c, k, rfl, _⟩ := h; rfl
  · obtain ⟨c, kk, rfl, h0, h1, k⟩ := h
    refine ⟨_, (pss_cons (ps_set (i := 2) sc_w_mix.nd rfl (Or.inl rfl) (pe_op op_mod (pe_op op_mulW (pe_op op_add (pe_op op_add (pe_op op_mod (pv 0) pe_int) (pe_op op_mulW pe_int (pv 1))) pe_int) (pe_op op_add pe_int (pe_op op_mulW pe_int (pv 1)))) pe_int))
      (pss_one (ps_ret (pe_op op_fdivW (pe_op op_mod (pe_op op_mulW (pe_op op_add (pe_op op_fdivW (pv 2) pe_int) (pv 1)) pe_int) pe_int) pe_int)))), ?_⟩
    walk_at "rd"
    refine rd_I (mid_mul (by decide) (by decide) (by omega) (by omega)) ?_
    walk_at "rd"
    refine rd_I (mid_mul (by decide) (by decide) (by omega) (by omega)) ?_
    walk_at "rd"
    refine rd_I (mid_mul (by omega) (by omega) (by omega) (by omega)) ?_
    walk_at "rd"
    generalize hm : (c % 998244353 + 17 * kk + 5) * (48271 + 2 * kk) % 2147483647 = m
    have m0 : 0 ≤ m := by rw [← hm]; exact Int.emod_nonneg _ (by decide)
    have m1 : m < 2147483647 := by rw [← hm]; exact Int.emod_lt_of_pos _ (by decide)
    refine rd_I (mid_mul (by omega) (by omega) (by omega) (by omega)) ?_
    walk_at "rd"
    refine k _ (by omega) (by omega)
def sp_state_by : Sp := fun vs H Q _ => ∃ (t : Addr) (a b v : Int), vs = [.ref t, .int v] ∧ H t = some (.tup [.int a, .int b]) ∧ St a ∧ St b ∧ ∀ s, St s → Q (.int s) H
theorem mp_state_by : MonP sp_state_by := fun vs H Q Q' E h ⟨t, a, b, v, x1, x2, x3, x4, q⟩ => ⟨t, a, b, v, x1, x2, x3, x4, fun s hs => h _ _ (q s hs)⟩
theorem ok_state_by (T : Env fa fn K mg) : Good P w K mg base CX0 1 ("_law_state_by", none) ["_law_mains", "_law_value"] sp_state_by := by
  refine good_mk T 28 (d := d_w_state_by) (N := ["_law_mains", "_law_value"]) (ps := ["_law_mains", "_law_value"]) rfl rfl sc_w_state_by (fun _ _ _ _ _ _ us hl => match us, hl with | [_, _], _ => rfl) (fun vs H Q E h => ?_) (fun f cdv A outer σ0 H vs Q E hr h => ?_)
  · obtain ⟨t, a, b, v, rfl, _⟩ := h; rfl
  · obtain ⟨t, a, b, v, rfl, ht, ha, hb, k⟩ := h
    refine ⟨_, (pss_cons (ps_if (pt_cmpR op_lt (pe_op op_mod (pv 1) pe_int) pe_int (nomark _)) (pss_one (ps_ret (pe_ix (ix_tupK K rfl) (pv 0) (pe_op op_mod (pv 1) pe_int) (fun _ _ => rfl)))) pss_nil)
      (pss_one (ps_ret (pe_op op_mod (pe_op op_fdivW (pv 1) pe_int) pe_int)))), ?_⟩
    walk_at "rd"
    refine ite_d (fun h1 => ?_) (fun h1 => ?_)
    · walk_at "rd"
      rcases (by omega : v % 3 = 0 ∨ v % 3 = 1) with z | z <;> rw [z]
      · exact rd_ixT (SqT.of ht) (atI_nat (j := 0) rfl) (k _ ha)
      · exact rd_ixT (SqT.of ht) (atI_nat (j := 1) rfl) (k _ hb)
    · walk_at "rd"
      exact k _ ⟨by omega, by omega⟩
def bitsOf (v : Int) : Nat → List Int
  | 0 => []
  | k + 1 => bitsOf v k ++ (if (v / 2 ^ k) % 2 = 1 then [(k : Int)] else [])
theorem bitsOf_mem {v : Int} : ∀ {k : Nat} {n : Int}, n ∈ bitsOf v k → 0 ≤ n ∧ n < (k : Int)
  | 0, n, h => by cases h
  | k + 1, n, h => by
    rcases List.mem_append.mp h with h | h
    · have := bitsOf_mem h; omega
    · split at h
      · rw [List.mem_singleton] at h; omega
      · cases h
theorem bitsOf_inc {v : Int} : ∀ k : Nat, (bitsOf v k).Pairwise (· < ·)
  | 0 => .nil
  | k + 1 => by
    unfold bitsOf
    rw [List.pairwise_append]
    refine ⟨bitsOf_inc k, by split <;> simp, fun a ha b hb => ?_⟩
    split at hb
    · rw [List.mem_singleton] at hb
      have := bitsOf_mem ha
      omega
    · cases hb
theorem bitsOf_len {v : Int} : ∀ k : Nat, (bitsOf v k).length ≤ k
  | 0 => Nat.le_refl _
  | k + 1 => by
    have h := bitsOf_len (v := v) k
    unfold bitsOf
    rw [List.length_append]
    split
    · simp only [List.length_cons, List.length_nil]; omega
    · simp only [List.length_nil]; omega
theorem bitsOf_ne {v : Int} (h1 : 1 ≤ v) (h2 : v ≤ 511) : bitsOf v 9 ≠ [] := by
  intro e
  simp only [bitsOf, List.append_eq_nil_iff, List.nil_append] at e
  obtain ⟨⟨⟨⟨⟨⟨⟨⟨e0, e1⟩, e2⟩, e3⟩, e4⟩, e5⟩, e6⟩, e7⟩, e8⟩ := e
  have z : ∀ (k : Nat), (if (v / 2 ^ k) % 2 = 1 then [(k : Int)] else []) = [] → ¬ (v / 2 ^ k) % 2 = 1 := fun k h y => by rw [if_pos y] at h; cases h
  have z0 := z 0 e0; have z1 := z 1 e1; have z2 := z 2 e2; have z3 := z 3 e3; have z4 := z 4 e4; have z5 := z 5 e5; have z6 := z 6 e6; have z7 := z 7 e7; have z8 := z 8 e8
  omega
theorem band1'' (i : Int) : Builtin.bitAnd i 1 = i % 2 := PySem.W.kbt_mask i 1
theorem wishW_of {w : Int} (h0 : 0 ≤ w) (h8 : w ≤ 8) : WishW (wishOf w) := by
  unfold wishOf
  by_cases z : w = 8
  · rw [if_pos z]; trivial
  · rw [if_neg z]; show St w; unfold St; omega
def sp_condition_by : Sp := fun vs H Q _ => ∃ (t : Addr) (a b sd j : Int), vs = [.ref t, .int sd, .int j] ∧ H t = some (.tup [.int a, .int b]) ∧ St a ∧ St b ∧ 0 ≤ j ∧ j ≤ 90000 ∧ ∀ H' v (c : Cond), Same H H' → LCondN (fun b => H b = none) H' v c → CondW c → Q v H'
theorem mp_condition_by : MonP sp_condition_by := fun vs H Q Q' E h ⟨t, a, b, sd, j, x1, x2, x3, x4, x5, x6, q⟩ => ⟨t, a, b, sd, j, x1, x2, x3, x4, x5, x6, fun H' v c a b d => h _ _ (q H' v c a b d)⟩
set_option maxHeartbeats 8000000 in
theorem ok_condition_by (T : Env fa fn K mg) : Good P w K mg base CX0 2 ("_law_condition_by", none) ["_law_mains", "_law_seed", "_law_j"] sp_condition_by := by
  have G_w_mix := ok_mix (P := P) (w := w) (base := base) T
  have G_w_state_by := ok_state_by (P := P) (w := w) (base := base) T
  refine good_mk T 29 (d := d_w_condition_by) (N := ["_law_mains", "_law_seed", "_law_j", "_law_wanted", "_law_k", "_law_value", "_law_mask"]) (ps := ["_law_mains", "_law_seed", "_law_j"]) rfl rfl sc_w_condition_by (fun _ _ _ _ _ _ us hl => match us, hl with | [_, _, _], _ => rfl) (fun vs H Q E h => ?_) (fun f cdv A outer σ0 H vs Q E hr h => ?_)
  · obtain ⟨t, a, b, sd, j, rfl, _⟩ := h; rfl
  · obtain ⟨t, a, b, sd, j, rfl, ht, ha, hb, h0, h1, k⟩ := h
    refine ⟨_, (pss_cons (ps_if (pt_cmpR op_eq (pe_op op_mod (pe_cgK K rfl G_w_mix (hr.mono (by decide)) (T.glo 36) (pa_cons (pv 1) (pa_cons (pv 2) pa_nil))) pe_int) pe_int (nomark _)) (pss_cons (ps_set (i := 3) sc_w_condition_by.nd rfl (Or.inl rfl) (pe_lst pa_nil))
      (pss_cons (ps_for PassesOwn.never rfl (pi_range1 (by rfl) (T.free 37) (pa_cons pe_int pa_nil)) (pg_name (i := 4) sc_w_condition_by.nd rfl (Or.inl rfl)) (pss_cons (ps_set (i := 5) sc_w_condition_by.nd rfl (Or.inl rfl) (pe_cgK K rfl G_w_mix (hr.mono (by decide)) (T.glo 36) (pa_cons (pv 1) (pa_cons (pe_op op_add (pe_op op_add (pv 2) pe_int) (pv 4)) pa_nil))))
      (pss_one (ps_if (pt_cmpR op_eq (pe_op op_mod (pe_op op_fdivW (pv 5) pe_int) pe_int) pe_int (nomark _)) (pss_one (ps_expr (pe_bm PySem.F.plainAttrs_list PySem.F.slot_list_append PySem.F.type_list_append mt_append (pv 3) (pa_cons (pe_cgK K rfl G_w_state_by (hr.mono (by decide)) (T.glo 38) (pa_cons (pv 0) (pa_cons (pv 5) pa_nil))) pa_nil)))) (pss_one (ps_expr (pe_bm PySem.F.plainAttrs_list PySem.F.slot_list_append PySem.F.type_list_append mt_append (pv 3) (pa_cons pe_int pa_nil))))))))
      (pss_one (ps_ret (pe_tup (pa_cons pe_str (pa_cons (pv 3) pa_nil))))))) pss_nil)
      (pss_cons (ps_set (i := 6) sc_w_condition_by.nd rfl (Or.inr rfl) (pe_op op_add (pe_op op_mod (pe_cgK K rfl G_w_mix (hr.mono (by decide)) (T.glo 36) (pa_cons (pv 1) (pa_cons (pe_op op_add (pv 2) pe_int) pa_nil))) pe_int) pe_int))
      (pss_one (ps_ret (pe_tup (pa_cons pe_str (pa_cons (pe_cgK K rfl G_w_state_by (hr.mono (by decide)) (T.glo 38) (pa_cons (pv 0) (pa_cons (pe_cgK K rfl G_w_mix (hr.mono (by decide)) (T.glo 36) (pa_cons (pv 1) (pa_cons (pe_op op_add (pv 2) pe_int) pa_nil))) pa_nil))) (pa_cons (pe_lc (own := [("_law_k", 4)]) rfl sc_w_condition_by.nd (pi_range1 (by rfl) (T.free 37) (pa_cons pe_int pa_nil)) (blkOk_by (own := [("_law_k", 4)]) (N := ["_law_mains", "_law_seed", "_law_j", "_law_wanted", "_law_k", "_law_value", "_law_mask"]) (sc := defScope st_w_condition_by) (by decide +kernel)) (fun _ _ _ _ _ => by exact (pg_name (i := 4) sc_w_condition_by.nd rfl (Or.inl rfl))) (fun _ _ _ _ _ => by exact (pts_one (pt_cmpR op_eq (pe_op op_and (pe_op op_shr (pv 6) (pv 4)) pe_int) pe_int (nomark _)))) (fun _ _ _ _ _ => by exact (pv 4))) pa_nil)))))))), ?_⟩
    walk_at "rd"
    refine ⟨sd, j, rfl, h0, by omega, fun z0 _ _ => ?_⟩
    walk_at "rd"
    refine ite_d (fun hc => ?_) (fun hc => ?_)
    · walk_at "rd"
      refine rd_new (hn := by show 0 ≤ sizeLine; decide) fun l hl => ?_
      have s0 := same_upd (o := .lst []) hl
      walk_at "rd"
      refine ⟨8, rfl, by decide, by decide, ?_⟩
      refine for_it (walk_r0 (n := 8)) (fun i σ H' => Same H H' ∧ ∃ (xs : List Int) (x4 x5 : Option V), σ = [some (.ref t), some (.int sd), some (.int j), some (.ref l), x4, x5, none] ∧ H' l = some (.lst (xs.map V.int)) ∧ xs.length = i ∧ ∀ w ∈ xs, 0 ≤ w ∧ w ≤ 8) ⟨s0, [], none, none, rfl, upd_same, rfl, by simp⟩ (fun _ _ _ _ _ => trivial) ?_ ?_
      · rintro i x σ Ha Hb hi ⟨s1, xs, x4, x5, rfl, hx, hxl, hbd⟩ ⟨rfl, rfl⟩
        have hlt : (xs.map V.int).length < sizeLine := by rw [List.length_map]; exact small1000 (by omega)
        have fin : ∀ z : Int, 0 ≤ z → z ≤ 8 → ∀ w ∈ xs ++ [z], 0 ≤ w ∧ w ≤ 8 := fun z g0 g8 w hw => by
          rcases List.mem_append.mp hw with hw | hw
          · exact hbd w hw
          · rw [List.mem_singleton] at hw; subst hw; exact ⟨g0, g8⟩
        walk_at "rd"
        refine ⟨sd, j + 1 + (i : Int), rfl, by omega, by omega, fun z1 _ _ => ?_⟩
        walk_at "rd"
        refine ite_d (fun h => ?_) (fun h => ?_)
        · walk_at "rd"
          refine rd_tyL hx ?_
          walk_at "rd"
          refine ⟨t, a, b, z1, rfl, s1 _ _ ht, ha, hb, fun s hs => ?_⟩
          walk_at "rd"
          refine rd_append hx hlt ?_
          walk_at "rd"
          exact ⟨Same.put2 s1 hl, xs ++ [s], _, _, rfl, by rw [upd_same, List.map_append]; rfl, by rw [List.length_append, hxl]; rfl, fin s hs.1 (by have := hs.2; omega)⟩
        · walk_at "rd"
          refine rd_tyL hx ?_
          walk_at "rd"
          refine rd_append hx hlt ?_
          walk_at "rd"
          exact ⟨Same.put2 s1 hl, xs ++ [8], _, _, rfl, by rw [upd_same, List.map_append]; rfl, by rw [List.length_append, hxl]; rfl, fin 8 (by decide) (by decide)⟩
      · rintro σ H' ⟨s1, xs, x4, x5, rfl, hx, hxl, hbd⟩
        walk_at "rd"
        refine rd_new (hn := by show 2 ≤ sizeLine; decide) fun t2 ht2 => ?_
        have s2 := same_upd (o := .tup [V.str "places", V.ref l]) ht2
        refine k _ _ (.plc (xs.map wishOf)) (s1.trans s2) ⟨t2, l, xs, rfl, upd_same, s2 _ _ hx, hl, rfl, hbd⟩ ⟨by rw [List.length_map]; exact hxl, fun w hw => ?_⟩
        obtain ⟨w0, hw0, rfl⟩ := List.mem_map.mp hw
        exact wishW_of (hbd w0 hw0).1 (hbd w0 hw0).2
    · walk_at "rd"
      refine ⟨sd, j + 10, rfl, by omega, by omega, fun z1 _ _ => ?_⟩
      walk_at "rd"
      have v1 : 1 ≤ z1 % 511 + 1 := by omega
      have v2 : z1 % 511 + 1 ≤ 511 := by omega
      generalize z1 % 511 + 1 = v at v1 v2
      refine ⟨sd, j + 9, rfl, by omega, by omega, fun z2 _ _ => ?_⟩
      walk_at "rd"
      refine ⟨t, a, b, z2, rfl, ht, ha, hb, fun s hs => ?_⟩
      walk_at "rd"
      refine ⟨9, rfl, by decide, by decide, fun pn hpn => ?_⟩
      refine lc_it (walk_r0 (n := 9)) (fun i H' => H' = upd H pn (.lst ((bitsOf v i).map V.int))) rfl (fun _ _ _ _ => trivial) ?_ ?_
      · rintro i x Ha Hb hi rfl ⟨rfl, rfl⟩
        walk_at "rd"
        refine ⟨rfl, ?_⟩
        walk_at "rd"
        refine rd_I (by omega) ?_
        walk_at "rd"
        rw [band1'', Int.toNat_natCast]
        have en : bitsOf v (i + 1) = bitsOf v i ++ (if (v / 2 ^ i) % 2 = 1 then [(i : Int)] else []) := rfl
        refine ite_d (fun hb' => ?_) (fun hb' => ?_)
        · walk_at "rd"
          refine ⟨_, upd_same, ?_, ?_⟩
          · rw [List.length_map]
            have : (bitsOf v i).length ≤ i := bitsOf_len i
            exact small1000 (by omega)
          · rw [upd_upd, en, if_pos hb', List.map_append]; rfl
        · rw [en, if_neg hb', List.append_nil]
      rintro H1 rfl
      have s1 := same_upd (o := .lst ((bitsOf v 9).map V.int)) hpn
      have L1 : (upd H pn (.lst ((bitsOf v 9).map V.int))) pn = some (.lst ((bitsOf v 9).map V.int)) := upd_same
      generalize upd H pn (.lst ((bitsOf v 9).map V.int)) = H1 at s1 L1 ⊢
      walk_at "rd"
      refine rd_new (hn := by show 3 ≤ sizeLine; decide) fun t2 ht2 => ?_
      have s2 := same_upd (o := .tup [V.str "amount", V.int s, V.ref pn]) ht2
      exact k _ _ (.amt s (bitsOf v 9)) (s1.trans s2) ⟨t2, pn, rfl, upd_same, s2 _ _ L1, hpn⟩ ⟨hs, bitsOf_ne v1 v2, fun n hn => by have := bitsOf_mem hn; omega, bitsOf_inc 9⟩
end
end JF

/-! ### drawn clauses: clause_by, holds, decides, becomes -/
namespace JF
open PySem PySem.Spec PyProof.Rows L2
def LClaN (N : Addr → Prop) (H : Hp) (v : V) (c : Cla) : Prop := ∃ t l ps, v = .ref t ∧ H t = some (.tup [.int (takenN c.taken), .ref l, .int c.made]) ∧ H l = some (.lst ps) ∧ N l ∧ AllV (LCondN N H) ps c.conds
theorem LClaN.at {N : Addr → Prop} {H : Hp} {v : V} {c : Cla} (h : LClaN N H v c) : LCla H v c := by
  obtain ⟨t, l, ps, e, h1, h2, _, h3⟩ := h
  exact ⟨t, l, ps, e, h1, h2, h3.imp fun _ _ h => h.at⟩
theorem LClaN.imp {N N' : Addr → Prop} {H : Hp} {v : V} {c : Cla} (h : LClaN N H v c) (k : ∀ b, N b → N' b) : LClaN N' H v c := by
  obtain ⟨t, l, ps, e, h1, h2, h3, h4⟩ := h
  exact ⟨t, l, ps, e, h1, h2, k _ h3, h4.imp fun _ _ h => h.imp k⟩
theorem LClaN.same {N : Addr → Prop} {H H' : Hp} {v : V} {c : Cla} (h : LClaN N H v c) (s : Same H H') : LClaN N H' v c := by
  obtain ⟨t, l, ps, e, h1, h2, h3, h4⟩ := h
  exact ⟨t, l, ps, e, s _ _ h1, s _ _ h2, h3, h4.imp fun _ _ h => h.same s⟩
theorem LClaN.upd {N : Addr → Prop} {H : Hp} {v : V} {c : Cla} {D : Addr} {o : HO} {xs : List V} (h : LClaN N H v c) (hD : H D = some (.lst xs)) (k : ∀ b, N b → b ≠ D) : LClaN N (L2.upd H D o) v c := by
  have tn : ∀ t ys, H t = some (.tup ys) → t ≠ D := fun t ys e z => by rw [z, hD] at e; cases e
  obtain ⟨t, l, ps, e, h1, h2, h3, h4⟩ := h
  exact ⟨t, l, ps, e, by rw [upd_ne (tn _ _ h1)]; exact h1, by rw [upd_ne (k _ h3)]; exact h2, h3, h4.imp fun _ _ h => h.upd hD k⟩
theorem takenN_wish {w : Int} : takenN (wishOf w) = w := by
  unfold wishOf takenN
  by_cases z : w = 8
  · rw [if_pos z, z]; rfl
  · rw [if_neg z]; rfl
section
variable {P : Program} {w : World} {K : PySem.W.Frag} {mg : Str → Option Value} {base : Heap}
def sp_clause_by : Sp := fun vs H Q _ => ∃ (t : Addr) (a b sd j : Int), vs = [.ref t, .int sd, .int j] ∧ H t = some (.tup [.int a, .int b]) ∧ St a ∧ St b ∧ 0 ≤ j ∧ j ≤ 50000 ∧ ∀ H' v (c : Cla), Same H H' → LClaN (fun b => H b = none) H' v c → ClaW c → c.conds.length ≤ 8 → Q v H'
theorem mp_clause_by : MonP sp_clause_by := fun vs H Q Q' E h ⟨t, a, b, sd, j, x1, x2, x3, x4, x5, x6, q⟩ => ⟨t, a, b, sd, j, x1, x2, x3, x4, x5, x6, fun H' v c a b d e => h _ _ (q H' v c a b d e)⟩
set_option maxHeartbeats 8000000 in
theorem ok_clause_by (T : Env fa fn K mg) : Good P w K mg base CX0 3 ("_law_clause_by", none) ["_law_mains", "_law_seed", "_law_j"] sp_clause_by := by
  have G_w_mix := ok_mix (P := P) (w := w) (base := base) T
  have G_w_state_by := ok_state_by (P := P) (w := w) (base := base) T
  have G_w_condition_by := ok_condition_by (P := P) (w := w) (base := base) T
  refine good_mk T 30 (d := d_w_clause_by) (N := ["_law_mains", "_law_seed", "_law_j", "_law_taken", "_law_conditions", "_law_value", "_law_many", "_law_k"]) (ps := ["_law_mains", "_law_seed", "_law_j"]) rfl rfl sc_w_clause_by (fun _ _ _ _ _ _ us hl => match us, hl with | [_, _, _], _ => rfl) (fun vs H Q E h => ?_) (fun f cdv A outer σ0 H vs Q E hr h => ?_)
  · obtain ⟨t, a, b, sd, j, rfl, _⟩ := h; rfl
  · obtain ⟨t, a, b, sd, j, rfl, ht, ha, hb, h0, h1, k⟩ := h
    have mp1 := mp_mix
    have mp2 := mp_state_by
    refine ⟨_, (pss_cons (ps_set (i := 3) sc_w_clause_by.nd rfl (Or.inl rfl) pe_int)
      (pss_cons (ps_if (pt_cmpR op_gt (pe_op op_mod (pe_cgK K rfl G_w_mix (hr.mono (by decide)) (T.glo 36) (pa_cons (pv 1) (pa_cons (pv 2) pa_nil))) pe_int) pe_int (nomark _)) (pss_one (ps_set (i := 3) sc_w_clause_by.nd rfl (Or.inl rfl) (pe_cgK K rfl G_w_state_by (hr.mono (by decide)) (T.glo 38) (pa_cons (pv 0) (pa_cons (pe_cgK K rfl G_w_mix (hr.mono (by decide)) (T.glo 36) (pa_cons (pv 1) (pa_cons (pe_op op_add (pv 2) pe_int) pa_nil))) pa_nil))))) pss_nil)
      (pss_cons (ps_set (i := 4) sc_w_clause_by.nd rfl (Or.inl rfl) (pe_lst pa_nil))
      (pss_cons (ps_set (i := 5) sc_w_clause_by.nd rfl (Or.inl rfl) (pe_cgK K rfl G_w_mix (hr.mono (by decide)) (T.glo 36) (pa_cons (pv 1) (pa_cons (pe_op op_add (pv 2) pe_int) pa_nil))))
      (pss_cons (ps_set (i := 6) sc_w_clause_by.nd rfl (Or.inl rfl) (pe_op op_mod (pv 5) pe_int))
      (pss_cons (ps_if (pt_cmpR op_eq (pe_op op_mod (pe_op op_fdivW (pv 5) pe_int) pe_int) pe_int (nomark _)) (pss_one (ps_set (i := 6) sc_w_clause_by.nd rfl (Or.inl rfl) (pe_op op_add pe_int (pe_op op_mod (pe_op op_fdivW (pv 5) pe_int) pe_int)))) pss_nil)
      (pss_cons (ps_for PassesOwn.never rfl (pi_range1 (by rfl) (T.free 37) (pa_cons (pv 6) pa_nil)) (pg_name (i := 7) sc_w_clause_by.nd rfl (Or.inl rfl)) (pss_one (ps_expr (pe_bm PySem.F.plainAttrs_list PySem.F.slot_list_append PySem.F.type_list_append mt_append (pv 4) (pa_cons (pe_cgK K rfl G_w_condition_by (hr.mono (by decide)) (T.glo 39) (pa_cons (pv 0) (pa_cons (pv 1) (pa_cons (pe_op op_add (pv 2) (pe_op op_mulW pe_int (pe_op op_add (pv 7) pe_int))) pa_nil)))) pa_nil)))))
      (pss_one (ps_ret (pe_tup (pa_cons (pv 3) (pa_cons (pv 4) (pa_cons (pe_cgK K rfl G_w_state_by (hr.mono (by decide)) (T.glo 38) (pa_cons (pv 0) (pa_cons (pe_cgK K rfl G_w_mix (hr.mono (by decide)) (T.glo 36) (pa_cons (pv 1) (pa_cons (pe_op op_add (pv 2) pe_int) pa_nil))) pa_nil))) pa_nil))))))))))))), ?_⟩
    walk_at "rhi"
    refine rd_cut (fun σ Hq => Hq = H ∧ ∃ tk : Int, 0 ≤ tk ∧ tk ≤ 8 ∧ σ = [some (.ref t), some (.int sd), some (.int j), some (.int tk), none, none, none, none]) (by walk_at "mono") ?_ ?_
    · walk_at "rd"
      refine ⟨sd, j, rfl, h0, by omega, fun z0 _ _ => ?_⟩
      walk_at "rd"
      refine ite_d (fun hc => ?_) (fun hc => ?_)
      · walk_at "rd"
        refine ⟨sd, j + 1, rfl, by omega, by omega, fun z1 _ _ => ?_⟩
        walk_at "rd"
        refine ⟨t, a, b, z1, rfl, ht, ha, hb, fun s hs => ?_⟩
        walk_at "rd"
        exact ⟨rfl, s, hs.1, by have := hs.2; omega, rfl⟩
      · walk_at "rd"
        exact ⟨rfl, 8, by decide, by decide, rfl⟩
    rintro σ H1 ⟨rfl, tk, tk0, tk8, rfl⟩
    walk_at "rd"
    refine rd_new (hn := by show 0 ≤ sizeLine; decide) fun l hl => ?_
    have s0 := same_upd (o := .lst []) hl
    have L0 : (upd H1 l (.lst [])) l = some (.lst []) := upd_same
    generalize upd H1 l (.lst []) = H2 at s0 L0 ⊢
    walk_at "rd"
    refine ⟨sd, j + 2, rfl, by omega, by omega, fun v v0 v1 => ?_⟩
    walk_at "rhi"
    refine rd_cut (fun σ Hq => Hq = H2 ∧ ∃ mn : Nat, mn ≤ 8 ∧ σ = [some (.ref t), some (.int sd), some (.int j), some (.int tk), some (.ref l), some (.int v), some (.int (mn : Int)), none]) (by walk_at "mono") ?_ ?_
    · walk_at "rd"
      refine ite_d (fun hc => ?_) (fun hc => ?_)
      · walk_at "rd"
        obtain ⟨m, hm⟩ := nat_of (show 0 ≤ 4 + v / 24 % 5 by omega)
        exact ⟨rfl, m, by omega, by rw [← hm]; rfl⟩
      · walk_at "rd"
        obtain ⟨m, hm⟩ := nat_of (show 0 ≤ v % 4 by omega)
        exact ⟨rfl, m, by omega, by rw [← hm]; rfl⟩
    rintro σ H3 ⟨rfl, mn, mn8, rfl⟩
    walk_at "rd"
    refine ⟨(mn : Int), rfl, by omega, by omega, ?_⟩
    rw [Int.toNat_natCast]
    refine for_it (walk_r0 (n := mn)) (fun i σ Hq => Same H1 Hq ∧ ∃ (us : List V) (cs : List Cond) (x7 : Option V), σ = [some (.ref t), some (.int sd), some (.int j), some (.int tk), some (.ref l), some (.int v), some (.int (mn : Int)), x7] ∧ Hq l = some (.lst us) ∧ AllV (LCondN (fun b => b ≠ l ∧ H1 b = none) Hq) us cs ∧ cs.length = i ∧ ∀ c ∈ cs, CondW c)
      ⟨s0, [], [], none, rfl, L0, trivial, rfl, by simp⟩ (fun _ _ _ _ _ => trivial) ?_ ?_
    · rintro i x σ Ha Hb hi ⟨s1, us, cs, x7, rfl, hus, hall, hcl, hcw⟩ ⟨rfl, rfl⟩
      walk_at "rd"
      refine rd_tyL hus ?_
      walk_at "rd"
      refine rd_I (mid_mul (by decide) (by decide) (by omega) (by omega)) ?_
      walk_at "rd"
      refine ⟨t, a, b, sd, j + 20 * ((i : Int) + 1), rfl, s1 _ _ ht, ha, hb, by omega, by omega, fun H4 u c s4 hc hw => ?_⟩
      have hus4 := s4 _ _ hus
      walk_at "rd"
      refine rd_append hus4 (by rw [hall.len]; exact small1000 (by omega)) ?_
      walk_at "rd"
      have hc' : LCondN (fun b => b ≠ l ∧ H1 b = none) H4 u c := hc.imp fun b hb => ⟨fun z => (by rw [z, hus] at hb; cases hb), none_of s1 hb⟩
      refine ⟨Same.put2 (s1.trans s4) (none_of (Same.refl _) hl), us ++ [u], cs ++ [c], _, rfl, upd_same, ((hall.imp fun _ _ h => h.same s4).app hc').imp fun _ _ h => h.upd hus4 fun b hb => hb.1, by rw [List.length_append, hcl]; rfl, fun c' hm => ?_⟩
      rcases List.mem_append.mp hm with hm | hm
      · exact hcw c' hm
      · rw [List.mem_singleton] at hm; subst hm; exact hw
    · rintro σ H4 ⟨s1, us, cs, x7, rfl, hus, hall, hcl, hcw⟩
      walk_at "rd"
      refine ⟨sd, j + 3, rfl, by omega, by omega, fun z1 _ _ => ?_⟩
      walk_at "rd"
      refine ⟨t, a, b, z1, rfl, s1 _ _ ht, ha, hb, fun s hs => ?_⟩
      walk_at "rd"
      refine rd_new (hn := by show 3 ≤ sizeLine; decide) fun t2 ht2 => ?_
      have s2 := same_upd (o := .tup [V.int tk, V.ref l, V.int s]) ht2
      refine k _ _ ⟨wishOf tk, cs, s⟩ (s1.trans s2) ⟨t2, l, us, rfl, by rw [takenN_wish]; exact upd_same, s2 _ _ hus, hl, (hall.imp fun _ _ h => (h.same s2).imp fun b hb => hb.2)⟩ ⟨wishW_of tk0 tk8, hcw, hs⟩ (by show cs.length ≤ 8; omega)
end
end JF

/-! ### drawn clauses: what is due by them -/
namespace JF
open PySem PySem.Spec PyProof.Rows L2
section
variable {P : Program} {w : World} {K : PySem.W.Frag} {mg : Str → Option Value} {base : Heap}
def sp_holds : Sp := fun vs H Q _ => ∃ (v : V) (r : Addr) (c : Cond) (xs : List Int), vs = [v, .ref r] ∧ LCond H v c ∧ CondOk c ∧ H r = some (.lst (xs.map V.int)) ∧ xs.length = 8 ∧ Q (.bl (c.holds xs)) H
theorem mp_holds : MonP sp_holds := fun vs H Q Q' E h ⟨v, r, c, xs, x1, x2, x3, x4, x5, q⟩ => ⟨v, r, c, xs, x1, x2, x3, x4, x5, h _ _ q⟩
theorem ok_holds (T : Env fa fn K mg) : Good P w K mg base CX0 1 ("_law_holds", none) ["_law_condition", "_law_around"] sp_holds := by
  refine good_mk T 31 (d := d_w_holds) (N := ["_law_condition", "_law_around", "_law_k", "_law_many", "_law_state"]) (ps := ["_law_condition", "_law_around"]) rfl rfl sc_w_holds (fun _ _ _ _ _ _ us hl => match us, hl with | [_, _], _ => rfl) (fun vs H Q E h => ?_) (fun f cdv A outer σ0 H vs Q E hr h => ?_)
  · obtain ⟨v, r, c, xs, rfl, _⟩ := h; rfl
  · obtain ⟨v, r, c, xs, rfl, hc, hok, hr', hx, k⟩ := h
    refine ⟨_, (pss_cons (ps_if (pt_cmpR op_eq (pe_ix (ix_tupK K rfl) (pv 0) pe_int (fun _ _ => rfl)) pe_str (nomark _)) (pss_cons (ps_for PassesOwn.never rfl (pi_range1 (by rfl) (T.free 37) (pa_cons pe_int pa_nil)) (pg_name (i := 2) sc_w_holds.nd rfl (Or.inl rfl)) (pss_one (ps_if (PW.pt (pw_and (pt_cmpR op_ne (pe_ix (ix_listK K rfl) (pe_ix (ix_tupK K rfl) (pv 0) pe_int (fun _ _ => rfl)) (pv 2) (fun _ _ => rfl)) pe_int (nomark _)) (pw_and1 (pt_cmpR op_ne (pe_ix (ix_listK K rfl) (pe_ix (ix_tupK K rfl) (pv 0) pe_int (fun _ _ => rfl)) (pv 2) (fun _ _ => rfl)) (pe_ix (ix_listK K rfl) (pv 1) (pv 2) (fun _ _ => rfl)) (nomark _))))) (pss_one (ps_ret pe_bl)) pss_nil)))
      (pss_one (ps_ret pe_bl))) pss_nil)
      (pss_cons (ps_set (i := 3) sc_w_holds.nd rfl (Or.inl rfl) pe_int)
      (pss_cons (ps_for PassesOwn.never rfl (pi_listK K rfl (pv 1)) (pg_name (i := 4) sc_w_holds.nd rfl (Or.inl rfl)) (pss_one (ps_if (pt_cmpR op_eq (pv 4) (pe_ix (ix_tupK K rfl) (pv 0) pe_int (fun _ _ => rfl)) (nomark _)) (pss_one (ps_set (i := 3) sc_w_holds.nd rfl (Or.inl rfl) (pe_op op_add (pv 3) pe_int))) pss_nil)))
      (pss_one (ps_ret (pe_cmpR (op_inK K rfl) (pv 3) (pe_ix (ix_tupK K rfl) (pv 0) pe_int (fun _ _ => rfl)) (by first | exact nomark _ | rfl))))))), ?_⟩
    cases c with
    | amt s ns =>
      obtain ⟨t, l, rfl, ht, hl⟩ := hc
      walk_at "rd"
      refine iteF ?_
      walk_at "rd"
      refine ⟨r, rfl, ⟨_, SqL.of hr'⟩, ?_⟩
      refine for_it (walk_list (xs := xs.map V.int)) (fun i σ H' => H' = H ∧ ∃ x2 x4 : Option V, σ = [some (.ref t), some (.ref r), x2, some (.int ((xs.take i).count s : Nat)), x4]) ⟨rfl, none, none, rfl⟩ ?_ ?_ ?_
      · rintro i σ H' _ ⟨rfl, _⟩
        exact SqL.of hr'
      · rintro i x σ Ha Hb hi ⟨rfl, x2, x4, rfl⟩ ⟨rfl, hx'⟩
        obtain ⟨c, hcc, rfl⟩ : ∃ c, xs[i]? = some c ∧ x = .int c := by
          rw [List.getElem?_map] at hx'
          cases e : xs[i]? with
          | none => rw [e] at hx'; cases hx'
          | some c => rw [e] at hx'; exact ⟨c, rfl, (Option.some.inj hx').symm⟩
        have et := take_snoc hcc
        walk_at "rd"
        refine ite_d (fun h => ?_) (fun h => ?_)
        · walk_at "rd"
          refine ⟨rfl, x2, some (.int c), ?_⟩
          rw [et, List.count_append, List.count_singleton]
          simp [h]
        · walk_at "rd"
          refine ⟨rfl, x2, some (.int c), ?_⟩
          rw [et, List.count_append, List.count_singleton]
          simp [h]
      · rintro σ H' ⟨rfl, x2, x4, rfl⟩
        rw [List.length_map, List.take_length]
        walk_at "rd"
        exact rd_inI (SqL.of hl) k
    | plc ws =>
      obtain ⟨t, l, wv, rfl, ht, hl, rfl, hwb⟩ := hc
      have hw8 : wv.length = 8 := by have z : (wv.map wishOf).length = 8 := hok; rwa [List.length_map] at z
      walk_at "rd"
      refine iteT ?_
      walk_at "rd"
      refine ⟨8, rfl, by decide, by decide, ?_⟩
      refine for_it (walk_r0 (n := 8)) (fun i σ H' => H' = H ∧ (∀ (j : Nat) w x, j < i → (wv.map wishOf)[j]? = some w → xs[j]? = some x → wishOk w x = true) ∧ ∃ x2 : Option V, σ = [some (.ref t), some (.ref r), x2, none, none]) ⟨rfl, fun j w x h => by omega, none, rfl⟩ (fun _ _ _ _ _ => trivial) ?_ ?_
      · rintro i x σ Ha Hb hi ⟨rfl, hall, x2, rfl⟩ ⟨rfl, rfl⟩
        have hi1 : i < wv.length := by omega
        have hi2 : i < xs.length := by omega
        have a1 : atI (wv.map V.int) ((i : Nat) : Int) = some (.int wv[i]) := atI_nat (map_get V.int (at_get hi1))
        have a2 : atI (xs.map V.int) ((i : Nat) : Int) = some (.int xs[i]) := atI_nat (map_get V.int (at_get hi2))
        have wi : (wv.map wishOf)[i]? = some (wishOf wv[i]) := map_get wishOf (at_get hi1)
        have next : wishOk (wishOf wv[i]) xs[i] = true → ∀ (j : Nat) w x, j < i + 1 → (wv.map wishOf)[j]? = some w → xs[j]? = some x → wishOk w x = true := fun hk j w x hj h1 h2 => by
          rcases Nat.lt_or_ge j i with h | h
          · exact hall j w x h h1 h2
          · have e : j = i := by omega
            subst e
            rw [wi] at h1; rw [at_get hi2] at h2
            cases h1; cases h2
            exact hk
        walk_at "rd"
        refine rd_ixL (SqL.of hl) a1 ?_
        walk_at "rd"
        refine ite_nd (fun h8 => ?_) (fun h8 => ?_)
        · walk_at "rd"
          refine rd_ixL (SqL.of hl) a1 ?_
          walk_at "rd"
          refine rd_ixL (SqL.of hr') a2 ?_
          walk_at "rd"
          have ew : wishOf wv[i] = some wv[i] := by unfold wishOf; rw [if_neg h8]
          refine ite_nd (fun hne => ?_) (fun he => ?_)
          · walk_at "rd"
            have e : (Cond.plc (wv.map wishOf)).holds xs = false := plcOk_split _ xs i _ _ wi (at_get hi2) (by rw [ew]; exact decide_eq_false hne)
            rw [e] at k
            exact k
          · walk_at "rd"
            exact ⟨rfl, next (by rw [ew]; exact decide_eq_true he), _, rfl⟩
        · walk_at "rd"
          have ew : wishOf wv[i] = none := by unfold wishOf; rw [if_pos h8]
          exact ⟨rfl, next (by rw [ew]; rfl), _, rfl⟩
      · rintro σ H' ⟨rfl, hall, x2, rfl⟩
        walk_at "rd"
        have e : (Cond.plc (wv.map wishOf)).holds xs = true := plcOk_all _ xs fun i w x h1 h2 => hall i w x (by have := (List.getElem?_eq_some_iff.mp h2).1; omega) h1 h2
        rw [e] at k
        exact k
def ClasW (cs : List Cla) : Prop := ∀ c ∈ cs, ClaW c
def sp_decides : Sp := fun vs H Q _ => ∃ (p r : Addr) (us : List V) (cs : List Cla) (cell : Int) (xs : List Int), vs = [.ref p, .int cell, .ref r] ∧ H p = some (.lst us) ∧ AllV (LCla H) us cs ∧ ClasW cs ∧ cs.length ≤ 1000 ∧ H r = some (.lst (xs.map V.int)) ∧ xs.length = 8 ∧ ∀ H', Same H H' → Q (optN (firstFit cell xs cs)) H'
theorem mp_decides : MonP sp_decides := fun vs H Q Q' E h ⟨p, r, us, cs, cell, xs, x1, x2, x3, x4, x5, x6, x7, q⟩ => ⟨p, r, us, cs, cell, xs, x1, x2, x3, x4, x5, x6, x7, fun H' s => h _ _ (q H' s)⟩
theorem taken_in {t : Option Int} (h : WishW t) (cell : Int) : decide (takenN t ∈ [cell, 8]) = wishOk t cell := by
  cases t with
  | none =>
    show decide ((8 : Int) ∈ [cell, 8]) = true
    exact decide_eq_true (by simp)
  | some s =>
    have z : St s := h
    unfold St at z
    show decide (s ∈ [cell, 8]) = decide (s = cell)
    by_cases e : s = cell
    · rw [decide_eq_true e, decide_eq_true (by simp [e])]
    · rw [decide_eq_false e, decide_eq_false (by simp [e]; omega)]
set_option maxHeartbeats 8000000 in
theorem ok_decides (T : Env fa fn K mg) : Good P w K mg base CX0 2 ("_law_decides", none) ["_law_clauses", "_law_cell", "_law_around"] sp_decides := by
  have G_w_holds := ok_holds (P := P) (w := w) (base := base) T
  refine good_mk T 32 (d := d_w_decides) (N := ["_law_clauses", "_law_cell", "_law_around", "_law_at_here", "_law_fits", "_law_condition"]) (ps := ["_law_clauses", "_law_cell", "_law_around"]) rfl rfl sc_w_decides (fun _ _ _ _ _ _ us hl => match us, hl with | [_, _, _], _ => rfl) (fun vs H Q E h => ?_) (fun f cdv A outer σ0 H vs Q E hr h => ?_)
  · obtain ⟨p, r, us, cs, cell, xs, rfl, _⟩ := h; rfl
  · obtain ⟨p, r, us, cs, cell, xs, rfl, hp, hall, hw, hcl, hr', hx, k⟩ := h
    have hlen := hall.len
    refine ⟨_, (pss_cons (ps_for PassesOwn.never rfl (pi_range1 (by rfl) (T.free 37) (pa_cons (pe_callB (call_lenK K rfl) (by rfl) (T.free 15) (by decide +kernel) (pa_cons (pv 0) pa_nil)) pa_nil)) (pg_name (i := 3) sc_w_decides.nd rfl (Or.inl rfl)) (pss_cons (ps_set (i := 4) sc_w_decides.nd rfl (Or.inl rfl) (pe_cmpR (op_inK K rfl) (pe_ix (ix_tupK K rfl) (pe_ix (ix_listK K rfl) (pv 0) (pv 3) (fun _ _ => rfl)) pe_int (fun _ _ => rfl)) (pe_lst (pa_cons (pv 1) (pa_cons pe_int pa_nil))) (by first | exact nomark _ | rfl)))
      (pss_cons (ps_for PassesOwn.never rfl (pi_listK K rfl (pe_ix (ix_tupK K rfl) (pe_ix (ix_listK K rfl) (pv 0) (pv 3) (fun _ _ => rfl)) pe_int (fun _ _ => rfl))) (pg_name (i := 5) sc_w_decides.nd rfl (Or.inl rfl)) (pss_one (ps_set (i := 4) sc_w_decides.nd rfl (Or.inl rfl) (pe_and (pv 4) (pe_one (pe_cgK K rfl G_w_holds (hr.mono (by decide)) (T.glo 40) (pa_cons (pv 5) (pa_cons (pv 2) pa_nil))))))))
      (pss_one (ps_if (pt_val (pv 4)) (pss_one (ps_ret (pv 3))) pss_nil)))))
      (pss_one (ps_ret pe_non))), ?_⟩
    walk_at "rd"
    refine rd_len (SqL.of hp) ?_
    walk_at "rd"
    refine ⟨(us.length : Int), rfl, by omega, by omega, ?_⟩
    rw [Int.toNat_natCast]
    refine for_it (walk_r0 (n := us.length)) (fun i σ H' => Same H H' ∧ (∀ (j : Nat) d, j < i → cs[j]? = some d → d.fits cell xs = false) ∧ ∃ x3 x4 x5 : Option V, σ = [some (.ref p), some (.int cell), some (.ref r), x3, x4, x5]) ⟨Same.refl _, fun j d h => by omega, none, none, none, rfl⟩ (fun _ _ _ _ _ => trivial) ?_ ?_
    · rintro i x σ Ha Hb hi ⟨s1, hno, x3, x4, x5, rfl⟩ ⟨rfl, rfl⟩
      have hic : i < cs.length := by omega
      obtain ⟨v, hv, hat⟩ := hall.at (at_get hic)
      have hcw := hw _ (List.getElem_mem hic)
      have hget := at_get hic
      generalize cs[i] = c at hat hcw hget
      obtain ⟨t, l, ps, rfl, ht, hl, hcs⟩ := hat.same s1
      have av : atI us ((i : Nat) : Int) = some (.ref t) := atI_nat hv
      walk_at "rd"
      refine rd_ixL (SqL.of (s1 _ _ hp)) av ?_
      walk_at "rd"
      refine rd_new (hn := by show 2 ≤ sizeLine; decide) fun p2 hp2 => ?_
      have s2 := same_upd (o := .lst [V.int cell, V.int 8]) hp2
      refine rd_inI (ns := [cell, 8]) (SqL.of upd_same) ?_
      rw [taken_in hcw.1]
      have s12 := s1.trans s2
      have ht2 := s2 _ _ ht
      have hl2 := s2 _ _ hl
      have hcs2 := hcs.imp fun _ _ h => LCond.same h s2
      have hp2' := s12 _ _ hp
      have hr2 := s12 _ _ hr'
      generalize upd Hb p2 (.lst [V.int cell, V.int 8]) = H2 at s2 s12 ht2 hl2 hcs2 hp2' hr2 ⊢
      walk_at "rh"
      refine rd_cut (fun σ Hq => Hq = H2 ∧ ∃ x5 : Option V, σ = [some (.ref p), some (.int cell), some (.ref r), some (.int (i : Nat)), some (.bl (c.fits cell xs)), x5]) (by
        have m1 := mp_holds
        walk_at "mono") ?_ ?_
      · walk_at "rd"
        refine rd_ixL (SqL.of hp2') av ?_
        walk_at "rd"
        refine ⟨l, rfl, ⟨_, SqL.of hl2⟩, ?_⟩
        refine for_it (walk_list (xs := ps)) (fun m σ Hq => Hq = H2 ∧ ∃ x5 : Option V, σ = [some (.ref p), some (.int cell), some (.ref r), some (.int (i : Nat)), some (.bl (wishOk c.taken cell && (c.conds.take m).all fun k => k.holds xs)), x5]) ?_ ?_ ?_ ?_
        · exact ⟨rfl, x5, by simp⟩
        · rintro m σ H' _ ⟨rfl, _⟩
          exact SqL.of hl2
        · rintro m y σ Hc Hd hm ⟨rfl, x5, rfl⟩ ⟨rfl, hy⟩
          obtain ⟨kc, hk, hlc⟩ := hcs2.get hy
          have hkw := (hcw.2.1 kc (List.mem_of_getElem? hk)).ok
          have et : (c.conds.take (m + 1)).all (fun k => k.holds xs) = ((c.conds.take m).all (fun k => k.holds xs) && kc.holds xs) := by
            rw [take_snoc hk, List.all_append]; simp
          walk_at "rd"
          refine ite_b (fun hb => ?_) (fun hb => ?_)
          · walk_at "rd"
            refine ⟨y, r, kc, xs, rfl, hlc, hkw, hr2, hx, ?_⟩
            walk_at "rd"
            refine ⟨rfl, some y, ?_⟩
            rw [et, ← Bool.and_assoc, hb, Bool.true_and]; rfl
          · walk_at "rd"
            refine ⟨rfl, some y, ?_⟩
            rw [et, ← Bool.and_assoc, hb, Bool.false_and]; rfl
        · rintro σ Hq ⟨rfl, x5, rfl⟩
          rw [hcs2.len, List.take_length]
          exact ⟨rfl, x5, rfl⟩
      rintro σ Hq ⟨rfl, x5, rfl⟩
      walk_at "rd"
      refine ite_b (fun hb => ?_) (fun hb => ?_)
      · walk_at "rd"
        have e : firstFit cell xs cs = some i := fit_at hno hget hb
        rw [e] at k
        exact k _ s12
      · walk_at "rd"
        refine ⟨s12, fun j d hj h1 => ?_, _, _, _, rfl⟩
        rcases Nat.lt_or_ge j i with h | h
        · exact hno j d h h1
        · have e : j = i := by omega
          subst e
          rw [hget] at h1
          cases h1
          exact hb
    · rintro σ H' ⟨s1, hno, x3, x4, x5, rfl⟩
      walk_at "rd"
      have e : firstFit cell xs cs = none := fit_none fun j d h1 => hno j d (by rw [hlen]; exact (List.getElem?_eq_some_iff.mp h1).1) h1
      rw [e] at k
      exact k _ s1
def sp_lbecomes : Sp := fun vs H Q _ => ∃ (p r : Addr) (us : List V) (cs : List Cla) (cell : Int) (xs : List Int), vs = [.ref p, .int cell, .ref r] ∧ H p = some (.lst us) ∧ AllV (LCla H) us cs ∧ ClasW cs ∧ cs.length ≤ 1000 ∧ H r = some (.lst (xs.map V.int)) ∧ xs.length = 8 ∧ ∀ H', Same H H' → Q (.int (ruleMakes cs cell xs)) H'
theorem mp_lbecomes : MonP sp_lbecomes := fun vs H Q Q' E h ⟨p, r, us, cs, cell, xs, x1, x2, x3, x4, x5, x6, x7, q⟩ => ⟨p, r, us, cs, cell, xs, x1, x2, x3, x4, x5, x6, x7, fun H' s => h _ _ (q H' s)⟩
theorem ok_lbecomes (T : Env fa fn K mg) : Good P w K mg base CX0 3 ("_law_becomes", none) ["_law_clauses", "_law_cell", "_law_around"] sp_lbecomes := by
  have G_w_decides := ok_decides (P := P) (w := w) (base := base) T
  refine good_mk T 33 (d := d_w_becomes) (N := ["_law_clauses", "_law_cell", "_law_around", "_law_at_here"]) (ps := ["_law_clauses", "_law_cell", "_law_around"]) rfl rfl sc_w_becomes (fun _ _ _ _ _ _ us hl => match us, hl with | [_, _, _], _ => rfl) (fun vs H Q E h => ?_) (fun f cdv A outer σ0 H vs Q E hr h => ?_)
  · obtain ⟨p, r, us, cs, cell, xs, rfl, _⟩ := h; rfl
  · obtain ⟨p, r, us, cs, cell, xs, rfl, hp, hall, hw, hcl, hr', hx, k⟩ := h
    refine ⟨_, (pss_cons (ps_set (i := 3) sc_w_becomes.nd rfl (Or.inl rfl) (pe_cgK K rfl G_w_decides (hr.mono (by decide)) (T.glo 41) (pa_cons (pv 0) (pa_cons (pv 1) (pa_cons (pv 2) pa_nil)))))
      (pss_cons (ps_if (pt_cmpR op_isN (pv 3) pe_non (nomark _)) (pss_one (ps_ret (pv 1))) pss_nil)
      (pss_one (ps_ret (pe_ix (ix_tupK K rfl) (pe_ix (ix_listK K rfl) (pv 0) (pv 3) (fun _ _ => rfl)) pe_int (fun _ _ => rfl)))))), ?_⟩
    walk_at "rd"
    refine ⟨p, r, us, cs, cell, xs, rfl, hp, hall, hw, hcl, hr', hx, fun H2 s2 => ?_⟩
    cases e : firstFit cell xs cs with
    | none =>
      have em : ruleMakes cs cell xs = cell := by unfold ruleMakes; rw [e]
      rw [em] at k
      walk_at "rd"
      refine iteT ?_
      walk_at "rd"
      exact k _ s2
    | some i =>
      obtain ⟨c, hcc, _⟩ := fit_lt e
      have em : ruleMakes cs cell xs = c.made := by
        unfold ruleMakes
        rw [e]
        show (cs[i]?.map Cla.made).getD cell = c.made
        rw [hcc]; rfl
      rw [em] at k
      obtain ⟨v, hv, hat⟩ := hall.at hcc
      obtain ⟨t, l, ps, rfl, ht, _⟩ := hat.same s2
      walk_at "rd"
      refine iteF ?_
      walk_at "rd"
      refine rd_ixL (SqL.of (s2 _ _ hp)) (atI_nat hv) ?_
      walk_at "rd"
      exact k _ s2
end
end JF

/-! ### drawn clauses: their text -/
namespace JF
open PySem PySem.Spec PyProof.Rows L2
theorem joinL_le {S : List Nat} {B : Nat} : ∀ {ws : List (List Nat)}, (∀ w ∈ ws, w.length ≤ B) → (TL.joinL S ws).length ≤ ws.length * (B + S.length)
  | [], _ => Nat.zero_le _
  | [x], h => by
    have := h x List.mem_cons_self
    show x.length ≤ 1 * (B + S.length)
    omega
  | x :: y :: ws, h => by
    have ih := joinL_le (S := S) (ws := y :: ws) fun w hw => h w (List.mem_cons_of_mem _ hw)
    have hx := h x List.mem_cons_self
    have e : TL.joinL S (x :: y :: ws) = x ++ (S ++ TL.joinL S (y :: ws)) := rfl
    rw [e, List.length_append, List.length_append, List.length_cons, Nat.succ_mul]
    omega
theorem inc_len {b : Nat} : ∀ {ns : List Int} {a : Nat}, ns.Pairwise (· < ·) → (∀ n ∈ ns, (a : Int) ≤ n ∧ n < (b : Int)) → ns.length ≤ b - a
  | [], _, _, _ => Nat.zero_le _
  | n :: ns, a, hp, hb => by
    rw [List.pairwise_cons] at hp
    have h1 := hb n List.mem_cons_self
    obtain ⟨m, hm⟩ := nat_of (show 0 ≤ n by omega)
    have ih := inc_len (a := m + 1) hp.2 fun k hk => ⟨by have := hp.1 k hk; omega, (hb k (List.mem_cons_of_mem _ hk)).2⟩
    rw [List.length_cons]
    omega
theorem amt_len {ns : List Int} (h : ∀ n ∈ ns, 0 ≤ n ∧ n ≤ 8) (hp : ns.Pairwise (· < ·)) : ns.length ≤ 9 := inc_len (a := 0) (b := 9) hp fun n hn => by have := h n hn; omega
theorem condT_len {c : Cond} (h : CondW c) : (condT c).length ≤ 11 := by
  cases c with
  | amt s ns =>
    have := amt_len h.2.2.1 h.2.2.2
    show ((48 + s.toNat) :: 61 :: ns.map fun n => 48 + n.toNat).length ≤ 11
    simp only [List.length_cons, List.length_map]
    omega
  | plc ws =>
    have z : ws.length = 8 := h.1
    show (ws.map wishT).length ≤ 11
    rw [List.length_map]; omega
theorem claT_len {c : Cla} (h : ClaW c) (h8 : c.conds.length ≤ 8) : (claT c).length ≤ 120 := by
  have h1 : (claW c).length ≤ 10 := by
    show ([wishT c.taken] :: (c.conds.map condT ++ [[48 + c.made.toNat]])).length ≤ 10
    simp only [List.length_cons, List.length_append, List.length_map, List.length_nil]
    omega
  have h2 := joinL_le (S := [32]) (B := 11) (ws := claW c) fun w hw => by
    rcases List.mem_cons.mp hw with rfl | hw
    · simp
    · rcases List.mem_append.mp hw with hw | hw
      · obtain ⟨k, hk, rfl⟩ := List.mem_map.mp hw
        exact condT_len (h.2.1 k hk)
      · rw [List.mem_singleton] at hw; subst hw; simp
  have e : ([32] : List Nat).length = 1 := rfl
  rw [e] at h2
  show (TL.joinL [32] (claW c)).length ≤ 120
  omega
theorem ruleT_len {cs : List Cla} (h : ∀ c ∈ cs, ClaW c ∧ c.conds.length ≤ 8) : (ruleT cs).length ≤ cs.length * 122 := by
  have h2 := joinL_le (S := [59, 32]) (B := 120) (ws := cs.map claT) fun w hw => by
    obtain ⟨c, hc, rfl⟩ := List.mem_map.mp hw
    exact claT_len (h c hc).1 (h c hc).2
  rw [List.length_map] at h2
  exact h2
theorem rule_w {cs : List Cla} (h : ∀ c ∈ cs, ClaW c ∧ c.conds.length ≤ 8) (hl : cs.length ≤ 1000) (hz : ruleMakes cs 0 eights = 0) : RuleW cs := by
  refine ⟨fun c hc => (h c hc).1, fun c hc => ⟨by have := claT_len (h c hc).1 (h c hc).2; omega, by have := (h c hc).2; omega⟩, hl, ?_, hz⟩
  have := ruleT_len h
  omega
theorem join_ones : ∀ ws : List Nat, TL.joinL [] (ws.map fun c => [c]) = ws
  | [] => rfl
  | [n] => rfl
  | n :: m :: ns => by
    show [n] ++ ([] ++ TL.joinL [] ((m :: ns).map fun c => [c])) = _
    rw [join_ones (m :: ns)]; rfl
theorem sum_ones : ∀ ws : List Nat, (ws.map fun c => ([c] : List Nat).length).sum = ws.length
  | [] => rfl
  | n :: ns => by
    have ih := sum_ones ns
    show ([n] : List Nat).length + (ns.map fun c => ([c] : List Nat).length).sum = ns.length + 1
    rw [ih]
    show 1 + ns.length = _
    omega
theorem sum_le {B : Nat} : ∀ {ls : List Nat}, (∀ l ∈ ls, l ≤ B) → ls.sum ≤ ls.length * B
  | [], _ => Nat.zero_le _
  | l :: ls, h => by
    have ih := sum_le fun x hx => h x (List.mem_cons_of_mem _ hx)
    have := h l List.mem_cons_self
    rw [List.sum_cons, List.length_cons, Nat.succ_mul]
    omega
theorem wish_sign {w : Int} (h0 : 0 ≤ w) (h8 : w ≤ 8) : (if w.toNat = 8 then 42 else 48 + w.toNat) = wishT (wishOf w) := by
  unfold wishOf
  by_cases z : w = 8
  · rw [if_pos z, if_pos (by omega)]; rfl
  · rw [if_neg z, if_neg (by omega)]; rfl
theorem sign_at {w : Int} (h0 : 0 ≤ w) (h8 : w ≤ 8) : atI (Str.ofString "01234567*").cps.toList w = some (wishT (wishOf w)) := by
  obtain ⟨d, rfl⟩ := nat_of h0
  rw [← wish_sign h0 h8, Int.toNat_natCast]
  exact atI_nat (take_sign (by omega))
theorem str_tx {l : List Nat} {z : Str} (h : TL.tl z = l) : z = tx l := TL.ext_tl h
section
variable {P : Program} {w : World} {K : PySem.W.Frag} {mg : Str → Option Value} {base : Heap}
def sp_word : Sp := fun vs H Q _ => ∃ (v : V) (c : Cond), vs = [v] ∧ LCond H v c ∧ CondW c ∧ ∀ H', Same H H' → Q (.str (tx (condT c))) H'
theorem mp_word : MonP sp_word := fun vs H Q Q' E h ⟨v, c, x1, x2, x3, q⟩ => ⟨v, c, x1, x2, x3, fun H' s => h _ _ (q H' s)⟩
theorem ok_word (T : Env fa fn K mg) : Good P w K mg base CX0 1 ("_law_word", none) ["_law_condition"] sp_word := by
  refine good_mk T 35 (d := d_w_word) (N := ["_law_condition", "_law_state", "_law_k"]) (ps := ["_law_condition"]) rfl rfl sc_w_word (fun _ _ _ _ _ _ us hl => match us, hl with | [_], _ => rfl) (fun vs H Q E h => ?_) (fun f cdv A outer σ0 H vs Q E hr h => ?_)
  · obtain ⟨v, c, rfl, _⟩ := h; rfl
  · obtain ⟨v, c, rfl, hc, hcw, k⟩ := h
    have hsz := sizeBig
    refine ⟨_, (pss_cons (ps_if (pt_cmpR op_eq (pe_ix (ix_tupK K rfl) (pv 0) pe_int (fun _ _ => rfl)) pe_str (nomark _)) (pss_one (ps_ret (pe_join pe_str (pe_lc (own := [("_law_state", 1)]) (tt := tYes) rfl sc_w_word.nd (pi_listK K rfl (pe_ix (ix_tupK K rfl) (pv 0) pe_int (fun _ _ => rfl))) (blkOk_by (own := [("_law_state", 1)]) (N := ["_law_condition", "_law_state", "_law_k"]) (sc := defScope st_w_word) (by decide +kernel)) (fun _ _ _ _ _ => by exact (pg_name (i := 1) sc_w_word.nd rfl (Or.inl rfl))) (fun _ _ _ _ _ => by exact pts_nil) (fun _ _ _ _ _ => by exact (pe_ix ix_str pe_str (pv 1) (fun _ _ => rfl))))))) pss_nil)
      (pss_one (ps_ret (pe_op op_add_str (pe_op op_add_str (pe_callTy call_str_int (by rfl) (T.free 1) (by decide +kernel) (pa_cons (pe_ix (ix_tupK K rfl) (pv 0) pe_int (fun _ _ => rfl)) pa_nil)) pe_str) (pe_join pe_str (pe_lc (own := [("_law_k", 2)]) (tt := tYes) rfl sc_w_word.nd (pi_listK K rfl (pe_ix (ix_tupK K rfl) (pv 0) pe_int (fun _ _ => rfl))) (blkOk_by (own := [("_law_k", 2)]) (N := ["_law_condition", "_law_state", "_law_k"]) (sc := defScope st_w_word) (by decide +kernel)) (fun _ _ _ _ _ => by exact (pg_name (i := 2) sc_w_word.nd rfl (Or.inl rfl))) (fun _ _ _ _ _ => by exact pts_nil) (fun _ _ _ _ _ => by exact (pe_callTy call_str_int (by rfl) (T.free 1) (by decide +kernel) (pa_cons (pv 2) pa_nil))))))))), ?_⟩
    cases c with
    | amt s nu =>
      obtain ⟨t, l, rfl, ht, hl⟩ := hc
      obtain ⟨hs, hne, nm, hinc⟩ := hcw
      have nlen := amt_len nm hinc
      walk_at "rd"
      refine iteF ?_
      walk_at "rd"
      refine ⟨s, rfl, log_ok (by have := hs.1; have := hs.2; omega), ?_⟩
      walk_at "rd"
      obtain ⟨sn, hsn⟩ := nat_of hs.1
      have e0 : TL.tl (Str.ofString (toString s)) = [48 + s.toNat] := by
        rw [hsn, tl_int (by have := hs.2; omega), Int.toNat_natCast]
      generalize Str.ofString (toString s) = z0 at e0 ⊢
      have eeq : TL.tl (Str.ofString "=") = [61] := by decide +kernel
      refine ⟨_, _, rfl, rfl, add_ok (by rw [e0, eeq]; simp), ?_⟩
      have e1 : TL.tl (z0 ++ Str.ofString "=") = [48 + s.toNat, 61] := by rw [TL.tl_append, e0, eeq]; rfl
      generalize z0 ++ Str.ofString "=" = z1 at e1 ⊢
      walk_at "rd"
      refine rd_m1 ?_
      walk_at "rd"
      refine rd_st ?_
      walk_at "rd"
      refine ⟨l, rfl, ⟨_, SqL.of hl⟩, fun D hD => ?_⟩
      refine lc_list (K := K) (xs := nu.map V.int) (fun i H' => H' = upd H D (.lst ((nu.take i).map fun n => V.str (Str.ofString (toString n))))) rfl (fun i H' _ e => SqL.of (by rw [e]; exact (same_upd hD) _ _ hl)) ?_ ?_
      · rintro i x H' hx rfl
        obtain ⟨c, hc, rfl⟩ : ∃ c, nu[i]? = some c ∧ x = .int c := by
          rw [List.getElem?_map] at hx
          cases e : nu[i]? with
          | none => rw [e] at hx; cases hx
          | some c => rw [e] at hx; exact ⟨c, rfl, (Option.some.inj hx).symm⟩
        have hb := nm c (List.mem_of_getElem? hc)
        have hi := (List.getElem?_eq_some_iff.mp hc).1
        walk_at "rd"
        refine ⟨rfl, ?_⟩
        walk_at "rd"
        refine ⟨c, rfl, log_ok (by omega), ?_⟩
        refine ⟨_, upd_same, ?_, ?_⟩
        · rw [List.length_map, List.length_take]; exact small1000 (by omega)
        · rw [upd_upd, take_snoc hc, List.map_append]; rfl
      rintro H3 rfl
      rw [List.length_map, List.take_length]
      have s3 := same_upd (o := .lst (nu.map fun n => V.str (Str.ofString (toString n)))) hD
      have LD : (upd H D (.lst (nu.map fun n => V.str (Str.ofString (toString n))))) D = some (.lst ((nu.map fun n => Str.ofString (toString n)).map V.str)) := by rw [upd_same, List.map_map]; rfl
      generalize upd H D (.lst (nu.map fun n => V.str (Str.ofString (toString n)))) = H3 at s3 LD ⊢
      walk_at "rd"
      have tlys : (nu.map fun n => Str.ofString (toString n)).map TL.tl = nu.map fun n => [48 + n.toNat] := by
        rw [List.map_map]
        refine List.map_congr_left fun n hn => ?_
        have hb := nm n hn
        obtain ⟨d, rfl⟩ : ∃ d : Nat, n = (d : Int) := ⟨n.toNat, by omega⟩
        show TL.tl (Str.ofString (toString (d : Int))) = _
        rw [tl_int (by omega), Int.toNat_natCast]
      have lys : ((nu.map fun n => Str.ofString (toString n)).map (·.length)).sum ≤ 9 := by
        have e : (nu.map fun n => Str.ofString (toString n)).map (·.length) = ((nu.map fun n => Str.ofString (toString n)).map TL.tl).map List.length := by
          rw [List.map_map (f := TL.tl)]
          refine List.map_congr_left fun z _ => TL.len_tl z
        rw [e, tlys, List.map_map]
        have e' := sum_len nu
        rw [e']; exact nlen
      refine ⟨_, D, _, rfl, rfl, .inl (SqL.of LD), ?_, ?_⟩
      · rw [List.length_map]
        have e : (Str.ofString "").length = 0 := by decide +kernel
        rw [e]; omega
      have ej : TL.tl (Txt.join (Str.ofString "") (nu.map fun n => Str.ofString (toString n))) = numT nu := by
        rw [TL.join_eq, TL.tl_join, tlys]
        have e : TL.tl (Str.ofString "") = [] := by decide +kernel
        rw [e]
        exact join_one nu
      generalize Txt.join (Str.ofString "") (nu.map fun n => Str.ofString (toString n)) = zj at ej ⊢
      have lnum : (numT nu).length = nu.length := List.length_map _
      walk_at "rd"
      refine ⟨_, _, rfl, rfl, add_ok (by rw [e1, ej, lnum]; simp only [List.length_cons, List.length_nil]; omega), ?_⟩
      have e4 : z1 ++ zj = tx (condT (.amt s nu)) := str_tx (by rw [TL.tl_append, e1, ej]; rfl)
      rw [e4]
      exact k _ s3
    | plc ws =>
      obtain ⟨t, l, wv, rfl, ht, hl, rfl, hwb⟩ := hc
      have hw8 : wv.length = 8 := by have z : (wv.map wishOf).length = 8 := hcw.1; rwa [List.length_map] at z
      walk_at "rd"
      refine iteT ?_
      walk_at "rd"
      refine rd_m1 ?_
      walk_at "rd"
      refine rd_st ?_
      walk_at "rd"
      refine ⟨l, rfl, ⟨_, SqL.of hl⟩, fun D hD => ?_⟩
      refine lc_list (K := K) (xs := wv.map V.int) (fun i H' => H' = upd H D (.lst ((wv.take i).map fun w => V.str (tx [wishT (wishOf w)])))) rfl (fun i H' _ e => SqL.of (by rw [e]; exact (same_upd hD) _ _ hl)) ?_ ?_
      · rintro i x H' hx rfl
        obtain ⟨c, hc, rfl⟩ : ∃ c, wv[i]? = some c ∧ x = .int c := by
          rw [List.getElem?_map] at hx
          cases e : wv[i]? with
          | none => rw [e] at hx; cases hx
          | some c => rw [e] at hx; exact ⟨c, rfl, (Option.some.inj hx).symm⟩
        have hcb := hwb c (List.mem_of_getElem? hc)
        have hi := (List.getElem?_eq_some_iff.mp hc).1
        walk_at "rd"
        refine ⟨rfl, ?_⟩
        walk_at "rd"
        refine ⟨_, c, _, rfl, rfl, by decide +kernel, sign_at hcb.1 hcb.2, ?_⟩
        refine ⟨_, upd_same, ?_, ?_⟩
        · rw [List.length_map, List.length_take]; exact small1000 (by omega)
        · rw [upd_upd, take_snoc hc, List.map_append]; rfl
      rintro H3 rfl
      rw [List.length_map, List.take_length]
      have s3 := same_upd (o := .lst (wv.map fun w => V.str (tx [wishT (wishOf w)]))) hD
      have LD : (upd H D (.lst (wv.map fun w => V.str (tx [wishT (wishOf w)])))) D = some (.lst ((wv.map fun w => tx [wishT (wishOf w)]).map V.str)) := by rw [upd_same, List.map_map]; rfl
      generalize upd H D (.lst (wv.map fun w => V.str (tx [wishT (wishOf w)]))) = H3 at s3 LD ⊢
      walk_at "rd"
      have tlys : (wv.map fun w => tx [wishT (wishOf w)]).map TL.tl = (wv.map fun w => wishT (wishOf w)).map fun c => [c] := by
        rw [List.map_map, List.map_map]; rfl
      have lys : ((wv.map fun w => tx [wishT (wishOf w)]).map (·.length)).sum ≤ 9 := by
        have e : (wv.map fun w => tx [wishT (wishOf w)]).map (·.length) = (wv.map fun w => wishT (wishOf w)).map fun c => ([c] : List Nat).length := by
          rw [List.map_map, List.map_map]; rfl
        rw [e, sum_ones, List.length_map]; omega
      refine ⟨_, D, _, rfl, rfl, .inl (SqL.of LD), ?_, ?_⟩
      · rw [List.length_map]
        have e : (Str.ofString "").length = 0 := by decide +kernel
        rw [e]; omega
      have ej : Txt.join (Str.ofString "") (wv.map fun w => tx [wishT (wishOf w)]) = tx (condT (.plc (wv.map wishOf))) := str_tx (by
        rw [TL.join_eq, TL.tl_join, tlys]
        have e : TL.tl (Str.ofString "") = [] := by decide +kernel
        rw [e, join_ones]
        show _ = (wv.map wishOf).map wishT
        rw [List.map_map]; rfl)
      rw [ej]
      exact k _ s3
end
end JF

/-! ### drawn clauses: the whole text; the drawn rule -/
namespace JF
open PySem PySem.Spec PyProof.Rows L2
theorem len_word {c : Cla} (h : ClaW c) (h8 : c.conds.length ≤ 8) : ∀ w ∈ claW c, w.length ≤ 11 := fun w hw => by
  rcases List.mem_cons.mp hw with rfl | hw
  · simp
  · rcases List.mem_append.mp hw with hw | hw
    · obtain ⟨k, hk, rfl⟩ := List.mem_map.mp hw
      exact condT_len (h.2.1 k hk)
    · rw [List.mem_singleton] at hw; subst hw; simp
theorem tx_len (l : List Nat) : (tx l).length = l.length := rfl
theorem sum_tx {B : Nat} {ws : List (List Nat)} (h : ∀ w ∈ ws, w.length ≤ B) : ((ws.map tx).map (·.length)).sum ≤ ws.length * B := by
  have := sum_le (B := B) (ls := (ws.map tx).map (·.length)) fun l hl => by
    obtain ⟨z, hz, rfl⟩ := List.mem_map.mp hl
    obtain ⟨w, hw, rfl⟩ := List.mem_map.mp hz
    exact h w hw
  rwa [List.length_map, List.length_map] at this
theorem join_tx {y : Str} {S : List Nat} (hy : TL.tl y = S) (ws : List (List Nat)) : Txt.join y (ws.map tx) = tx (TL.joinL S ws) := str_tx (by
  rw [TL.join_eq, TL.tl_join, hy, List.map_map]
  show TL.joinL S (ws.map fun w => w) = _
  rw [List.map_id'])
theorem tl_semi2 : TL.tl (Str.ofString "; ") = [59, 32] := by decide +kernel
theorem AllV.len' {α : Type} {R : V → α → Prop} {vs : List V} {xs : List α} (h : AllV R vs xs) : xs.length = vs.length := h.len.symm
section
variable {P : Program} {w : World} {K : PySem.W.Frag} {mg : Str → Option Value} {base : Heap}
def LClas (H : Hp) (us : List V) (cs : List Cla) : Prop := AllV (LCla H) us cs ∧ (∀ c ∈ cs, ClaW c ∧ c.conds.length ≤ 8) ∧ cs.length ≤ 100
def sp_text : Sp := fun vs H Q _ => ∃ (p : Addr) (us : List V) (cs : List Cla), vs = [.ref p] ∧ H p = some (.lst us) ∧ LClas H us cs ∧ ∀ H', Same H H' → Q (.str (tx (ruleT cs))) H'
theorem mp_text : MonP sp_text := fun vs H Q Q' E h ⟨p, us, cs, x1, x2, x3, q⟩ => ⟨p, us, cs, x1, x2, x3, fun H' s => h _ _ (q H' s)⟩
set_option maxHeartbeats 8000000 in
theorem ok_text (T : Env fa fn K mg) : Good P w K mg base CX0 2 ("_law_text", none) ["_law_clauses"] sp_text := by
  have G_w_word := ok_word (P := P) (w := w) (base := base) T
  refine good_mk T 36 (d := d_w_text) (N := ["_law_clauses", "_law_parts", "_law_clause", "_law_words", "_law_condition"]) (ps := ["_law_clauses"]) rfl rfl sc_w_text (fun _ _ _ _ _ _ us hl => match us, hl with | [_], _ => rfl) (fun vs H Q E h => ?_) (fun f cdv A outer σ0 H vs Q E hr h => ?_)
  · obtain ⟨p, us, cs, rfl, _⟩ := h; rfl
  · obtain ⟨p, us, cs, rfl, hp, ⟨hall, hw, hcl⟩, k⟩ := h
    have hsz := sizeBig
    have hlen := hall.len
    refine ⟨_, (pss_cons (ps_set (i := 1) sc_w_text.nd rfl (Or.inl rfl) (pe_lst pa_nil))
      (pss_cons (ps_for PassesOwn.never rfl (pi_listK K rfl (pv 0)) (pg_name (i := 2) sc_w_text.nd rfl (Or.inl rfl)) (pss_cons (ps_set (i := 3) sc_w_text.nd rfl (Or.inl rfl) (pe_op op_cat (pe_lst (pa_cons (pe_ix ix_str pe_str (pe_ix (ix_tupK K rfl) (pv 2) pe_int (fun _ _ => rfl)) (fun _ _ => rfl)) pa_nil)) (pe_lc (own := [("_law_condition", 4)]) (tt := tYes) rfl sc_w_text.nd (pi_listK K rfl (pe_ix (ix_tupK K rfl) (pv 2) pe_int (fun _ _ => rfl))) (blkOk_by (own := [("_law_condition", 4)]) (N := ["_law_clauses", "_law_parts", "_law_clause", "_law_words", "_law_condition"]) (sc := defScope st_w_text) (by decide +kernel)) (fun _ _ _ _ _ => by exact (pg_name (i := 4) sc_w_text.nd rfl (Or.inl rfl))) (fun _ _ _ _ _ => by exact pts_nil) (fun _ _ _ _ _ => by exact (pe_cgK K rfl G_w_word (hr.mono (by decide)) (T.glo 45) (pa_cons (pv 4) pa_nil))))))
      (pss_one (ps_expr (pe_bm PySem.F.plainAttrs_list PySem.F.slot_list_append PySem.F.type_list_append mt_append (pv 1) (pa_cons (pe_join pe_str (pe_op op_cat (pv 3) (pe_lst (pa_cons (pe_callTy call_str_int (by rfl) (T.free 1) (by decide +kernel) (pa_cons (pe_ix (ix_tupK K rfl) (pv 2) pe_int (fun _ _ => rfl)) pa_nil)) pa_nil)))) pa_nil))))))
      (pss_one (ps_ret (pe_join pe_str (pv 1)))))), ?_⟩
    walk_at "rd"
    refine rd_new (hn := by show 0 ≤ sizeLine; decide) fun p0 hp0 => ?_
    have s0 := same_upd (o := .lst []) hp0
    have L0 : (upd H p0 (.lst [])) p0 = some (.lst []) := upd_same
    generalize upd H p0 (.lst []) = H0 at s0 L0 ⊢
    walk_at "rd"
    refine ⟨p, rfl, ⟨_, SqL.of (s0 _ _ hp)⟩, ?_⟩
    refine for_it (walk_list (xs := us)) (fun i σ H' => Same H H' ∧ H' p0 = some (.lst (((cs.take i).map claT).map fun w => V.str (tx w))) ∧ ∃ x2 x3 x4 : Option V, σ = [some (.ref p), some (.ref p0), x2, x3, x4]) ⟨s0, L0, none, none, none, rfl⟩ ?_ ?_ ?_
    · rintro i σ H' _ ⟨s1, _⟩
      exact SqL.of (s1 _ _ hp)
    · rintro i x σ Ha Hb hi ⟨s1, h1, x2, x3, x4, rfl⟩ ⟨rfl, hx⟩
      obtain ⟨c, hcc, hat⟩ := hall.get hx
      have hcm := List.mem_of_getElem? hcc
      obtain ⟨t, l, ps, rfl, ht, hl, hcs⟩ := hat.same s1
      obtain ⟨hcw, h8⟩ := hw c hcm
      have hic := (List.getElem?_eq_some_iff.mp hcc).1
      have htk : 0 ≤ takenN c.taken ∧ takenN c.taken ≤ 8 := by
        have z := hcw.1
        cases e : c.taken with
        | none => exact ⟨by decide, by decide⟩
        | some s => rw [e] at z; have z' : St s := z; unfold St at z'; show 0 ≤ s ∧ s ≤ 8; omega
      have hwt : wishOf (takenN c.taken) = c.taken := by
        have z := hcw.1
        cases e : c.taken with
        | none => rfl
        | some s => rw [e] at z; have z' : St s := z; unfold St at z'; show (if s = 8 then none else some s) = some s; rw [if_neg (by omega)]
      walk_at "rd"
      refine ⟨_, takenN c.taken, _, rfl, rfl, by decide +kernel, sign_at htk.1 htk.2, ?_⟩
      walk_at "rd"
      rw [hwt]
      refine rd_new (hn := by show 1 ≤ sizeLine; decide) fun p2 hp2 => ?_
      have s2 := same_upd (o := .lst [V.str (tx [wishT c.taken])]) hp2
      have L2 : (upd Hb p2 (.lst [V.str (tx [wishT c.taken])])) p2 = some (.lst [V.str (tx [wishT c.taken])]) := upd_same
      generalize upd Hb p2 (.lst [V.str (tx [wishT c.taken])]) = H2 at s2 L2 ⊢
      have hl2 := s2 _ _ hl
      walk_at "rd"
      refine rd_ixT (SqT.of (s2 _ _ ht)) (atI_nat (j := 1) rfl) ?_
      refine ⟨l, rfl, ⟨_, SqL.of hl2⟩, fun D hD => ?_⟩
      have sD := fun o => same_upd (o := o) hD
      refine lc_list (K := K) (xs := ps) (fun i H' => Same H2 H' ∧ H' D = some (.lst ((c.conds.take i).map fun k => V.str (tx (condT k))))) ⟨sD _, upd_same⟩ ?_ ?_ ?_
      · rintro i H' _ ⟨s3, _⟩
        exact SqL.of (s3 _ _ hl2)
      · rintro m x H' hx ⟨s3, h3⟩
        obtain ⟨kc, hk, hat3⟩ := hcs.get hx
        have hm := (List.getElem?_eq_some_iff.mp hk).1
        walk_at "rd"
        refine ⟨rfl, ?_⟩
        walk_at "rd"
        refine ⟨x, kc, rfl, (hat3.same s2).same s3, hcw.2.1 kc (List.mem_of_getElem? hk), fun H4 s4 => ?_⟩
        have h4 := s4 _ _ h3
        refine ⟨_, h4, ?_, Same.put2 (s3.trans s4) hD, ?_⟩
        · rw [List.length_map, List.length_take]; exact small1000 (by omega)
        · rw [upd_same, take_snoc hk, List.map_append]; rfl
      rintro H3 ⟨s3, LD⟩
      have hpl : ps.length = c.conds.length := hcs.len
      rw [hpl, List.take_length] at LD
      have L3 := s3 _ _ L2
      walk_at "rd"
      refine ⟨p2, D, _, _, rfl, rfl, L3, LD, ?_, fun p5 hp5 => ?_⟩
      · rw [List.length_map]; simp only [List.length_cons, List.length_nil]; omega
      have s5 := same_upd (o := .lst ([V.str (tx [wishT c.taken])] ++ c.conds.map fun k => V.str (tx (condT k)))) hp5
      have L5 : (upd H3 p5 (.lst ([V.str (tx [wishT c.taken])] ++ c.conds.map fun k => V.str (tx (condT k))))) p5 = some (.lst ([V.str (tx [wishT c.taken])] ++ c.conds.map fun k => V.str (tx (condT k)))) := upd_same
      generalize upd H3 p5 (.lst ([V.str (tx [wishT c.taken])] ++ c.conds.map fun k => V.str (tx (condT k)))) = H5 at s5 L5 ⊢
      have s25 := (s2.trans s3).trans s5
      have h15 := s25 _ _ h1
      walk_at "rd"
      refine rd_tyL h15 ?_
      walk_at "rd"
      refine rd_m1 ?_
      walk_at "rd"
      refine rd_st ?_
      walk_at "rd"
      refine rd_ixT (SqT.of (s25 _ _ ht)) (atI_nat (j := 2) rfl) ?_
      walk_at "rd"
      have hmd := hcw.2.2
      unfold St at hmd
      obtain ⟨md, hmd'⟩ := nat_of hmd.1
      refine ⟨c.made, rfl, log_ok (by omega), ?_⟩
      have etm : Str.ofString (toString c.made) = tx [48 + c.made.toNat] := str_tx (by rw [hmd', tl_int (by omega), Int.toNat_natCast])
      rw [etm]
      refine rd_new (hn := by show 1 ≤ sizeLine; decide) fun p6 hp6 => ?_
      have s6 := same_upd (o := .lst [V.str (tx [48 + c.made.toNat])]) hp6
      have L6 : (upd H5 p6 (.lst [V.str (tx [48 + c.made.toNat])])) p6 = some (.lst [V.str (tx [48 + c.made.toNat])]) := upd_same
      generalize upd H5 p6 (.lst [V.str (tx [48 + c.made.toNat])]) = H6 at s6 L6 ⊢
      walk_at "rd"
      refine ⟨p5, p6, _, _, rfl, rfl, s6 _ _ L5, L6, ?_, fun p7 hp7 => ?_⟩
      · rw [List.length_append, List.length_map]; simp only [List.length_cons, List.length_nil]; omega
      have eW : ([V.str (tx [wishT c.taken])] ++ c.conds.map fun k => V.str (tx (condT k))) ++ [V.str (tx [48 + c.made.toNat])] = ((claW c).map tx).map V.str := by
        simp [claW, List.map_map, Function.comp_def]
      rw [eW]
      have s7 := same_upd (o := .lst (((claW c).map tx).map V.str)) hp7
      have L7 : (upd H6 p7 (.lst (((claW c).map tx).map V.str))) p7 = some (.lst (((claW c).map tx).map V.str)) := upd_same
      generalize upd H6 p7 (.lst (((claW c).map tx).map V.str)) = H7 at s7 L7 ⊢
      have hwl : (claW c).length = c.conds.length + 2 := by simp [claW]
      walk_at "rd"
      refine ⟨_, p7, _, rfl, rfl, .inl (SqL.of L7), ?_, ?_⟩
      · have e := sum_tx (len_word hcw h8)
        have e1 : (Str.ofString " ").length = 1 := by decide +kernel
        rw [List.length_map, e1]
        omega
      rw [join_tx tl_space]
      have h17 := s7 _ _ (s6 _ _ h15)
      walk_at "rd"
      refine rd_append h17 (by rw [List.length_map, List.length_map, List.length_take]; exact small1000 (by omega)) ?_
      walk_at "rd"
      refine ⟨Same.put2 (((s1.trans s25).trans s6).trans s7) hp0, ?_, _, _, _, rfl⟩
      rw [upd_same, take_snoc hcc, List.map_append, List.map_append]; rfl
    · rintro σ H' ⟨s1, h1, x2, x3, x4, rfl⟩
      rw [hlen, List.take_length] at h1
      have e1 : ((cs.map claT).map fun w => V.str (tx w)) = ((cs.map claT).map tx).map V.str := by simp only [List.map_map, Function.comp_def]
      rw [e1] at h1
      walk_at "rd"
      refine rd_m1 ?_
      walk_at "rd"
      refine rd_st ?_
      walk_at "rd"
      refine ⟨_, p0, _, rfl, rfl, .inl (SqL.of h1), ?_, ?_⟩
      · have e := sum_tx (B := 120) (ws := cs.map claT) fun w hw' => by
          obtain ⟨c, hc, rfl⟩ := List.mem_map.mp hw'
          exact claT_len (hw c hc).1 (hw c hc).2
        have e1 : (Str.ofString "; ").length = 2 := by decide +kernel
        rw [List.length_map] at e
        rw [List.length_map, List.length_map, e1]
        omega
      rw [join_tx tl_semi2]
      exact k _ s1
end
end JF

/-! ### drawn clauses: the drawn rule -/
namespace JF
open PySem PySem.Spec PyProof.Rows L2
section
variable {P : Program} {w : World} {K : PySem.W.Frag} {mg : Str → Option Value} {base : Heap}
def eightV : List V := [.int 0, .int 0, .int 0, .int 0, .int 0, .int 0, .int 0, .int 0]
theorem fits_zero {c : Cla} (h : c.fits 0 eights = true) (h0 : c.made = 0) (cs : List Cla) : ruleMakes (c :: cs) 0 eights = 0 := by
  unfold ruleMakes firstFit
  rw [if_pos h]
  show c.made = 0
  exact h0
def sp_clauses_byN (K : PySem.W.Frag) : Sp := fun vs H Q _ => ∃ (a : Addr) (ns : List Int) (first many : Int), vs = [.ref a, .int first, .int many] ∧ SqL K H a (ns.map V.int) ∧ 0 ≤ first ∧ 0 ≤ many ∧ many ≤ 20 ∧ ∀ H' l us cs, Same H H' → H l = none → H' l = some (.lst us) → AllV (LClaN (fun b => H b = none) H') us cs → LClas H' us cs → ruleMakes cs 0 eights = 0 → (many.toNat ≤ cs.length ∧ cs.length ≤ many.toNat + 1) → Q (.ref l) H'
theorem mp_clauses_byN : MonP (sp_clauses_byN K) := fun vs H Q Q' E h ⟨a, ns, f, m, x1, x2, x3, x4, x5, q⟩ => ⟨a, ns, f, m, x1, x2, x3, x4, x5, fun H' l us cs a b c d e f g => h _ _ (q H' l us cs a b c d e f g)⟩
def sp_clauses_by (K : PySem.W.Frag) : Sp := fun vs H Q _ => ∃ (a : Addr) (ns : List Int) (first many : Int), vs = [.ref a, .int first, .int many] ∧ SqL K H a (ns.map V.int) ∧ 0 ≤ first ∧ 0 ≤ many ∧ many ≤ 20 ∧ ∀ H' l us cs, Same H H' → H' l = some (.lst us) → LClas H' us cs → ruleMakes cs 0 eights = 0 → (many.toNat ≤ cs.length ∧ cs.length ≤ many.toNat + 1) → Q (.ref l) H'
theorem mp_clauses_by : MonP (sp_clauses_by K) := fun vs H Q Q' E h ⟨a, ns, f, m, x1, x2, x3, x4, x5, q⟩ => ⟨a, ns, f, m, x1, x2, x3, x4, x5, fun H' l us cs a b c d e => h _ _ (q H' l us cs a b c d e)⟩
set_option maxHeartbeats 8000000 in
theorem ok_clauses_byN (T : Env fa fn K mg) : Good P w K mg base CX0 4 ("_law_clauses_by", none) ["_law_script", "_law_first", "_law_many"] (sp_clauses_byN K) := by
  have G_w_at := ok_at (P := P) (w := w) (base := base) T
  have G_w_clause_by := ok_clause_by (P := P) (w := w) (base := base) T
  have G_w_becomes := ok_lbecomes (P := P) (w := w) (base := base) T
  refine good_mk T 34 (d := d_w_clauses_by) (N := ["_law_script", "_law_first", "_law_many", "_law_mains", "_law_clauses", "_law_k"]) (ps := ["_law_script", "_law_first", "_law_many"]) rfl rfl sc_w_clauses_by (fun _ _ _ _ _ _ us hl => match us, hl with | [_, _, _], _ => rfl) (fun vs H Q E h => ?_) (fun f cdv A outer σ0 H vs Q E hr h => ?_)
  · obtain ⟨a, ns, first, many, rfl, _⟩ := h; rfl
  · obtain ⟨a, ns, first, many, rfl, hS, hf0, hm0, hm1, k⟩ := h
    refine ⟨_, (pss_cons (ps_set (i := 3) sc_w_clauses_by.nd rfl (Or.inl rfl) (pe_tup (pa_cons (pe_op op_mod (pe_cgK K rfl G_w_at (hr.mono (by decide)) (T.glo 42) (pa_cons (pv 0) (pa_cons (pv 1) pa_nil))) pe_int) (pa_cons (pe_op op_mod (pe_cgK K rfl G_w_at (hr.mono (by decide)) (T.glo 42) (pa_cons (pv 0) (pa_cons (pe_op op_add (pv 1) pe_int) pa_nil))) pe_int) pa_nil))))
      (pss_cons (ps_set (i := 4) sc_w_clauses_by.nd rfl (Or.inl rfl) (pe_lst pa_nil))
      (pss_cons (ps_for PassesOwn.never rfl (pi_range1 (by rfl) (T.free 37) (pa_cons (pv 2) pa_nil)) (pg_name (i := 5) sc_w_clauses_by.nd rfl (Or.inl rfl)) (pss_one (ps_expr (pe_bm PySem.F.plainAttrs_list PySem.F.slot_list_append PySem.F.type_list_append mt_append (pv 4) (pa_cons (pe_cgK K rfl G_w_clause_by (hr.mono (by decide)) (T.glo 43) (pa_cons (pv 3) (pa_cons (pe_cgK K rfl G_w_at (hr.mono (by decide)) (T.glo 42) (pa_cons (pv 0) (pa_cons (pe_op op_add (pe_op op_add (pv 1) pe_int) (pv 5)) pa_nil))) (pa_cons (pe_op op_mulW pe_int (pv 5)) pa_nil)))) pa_nil)))))
      (pss_cons (ps_if (pt_cmpR op_ne (pe_cgK K rfl G_w_becomes (hr.mono (by decide)) (T.glo 44) (pa_cons (pv 4) (pa_cons pe_int (pa_cons (pe_lst (pa_cons pe_int (pa_cons pe_int (pa_cons pe_int (pa_cons pe_int (pa_cons pe_int (pa_cons pe_int (pa_cons pe_int (pa_cons pe_int pa_nil))))))))) pa_nil)))) pe_int (nomark _)) (pss_one (ps_set (i := 4) sc_w_clauses_by.nd rfl (Or.inl rfl) (pe_op op_cat (pe_lst (pa_cons (pe_tup (pa_cons pe_int (pa_cons (pe_lst (pa_cons (pe_tup (pa_cons pe_str (pa_cons pe_int (pa_cons (pe_lst (pa_cons pe_int pa_nil)) pa_nil)))) pa_nil)) (pa_cons pe_int pa_nil)))) pa_nil)) (pv 4)))) pss_nil)
      (pss_one (ps_ret (pv 4))))))), ?_⟩
    walk_at "rd"
    refine rd_at hS (by omega) ?_
    walk_at "rd"
    refine rd_at hS (by omega) ?_
    walk_at "rd"
    refine rd_new (hn := by show 2 ≤ sizeLine; decide) fun t ht => ?_
    have s0 := same_upd (o := .tup [V.int (atN ns first.toNat % 8), V.int (atN ns (first + 1).toNat % 8)]) ht
    have T0 : (upd H t (.tup [V.int (atN ns first.toNat % 8), V.int (atN ns (first + 1).toNat % 8)])) t = some (.tup [V.int (atN ns first.toNat % 8), V.int (atN ns (first + 1).toNat % 8)]) := upd_same
    have hsa : St (atN ns first.toNat % 8) := ⟨by omega, by omega⟩
    have hsb : St (atN ns (first + 1).toNat % 8) := ⟨by omega, by omega⟩
    generalize upd H t (.tup [V.int (atN ns first.toNat % 8), V.int (atN ns (first + 1).toNat % 8)]) = H0 at s0 T0 ⊢
    walk_at "rd"
    refine rd_new (hn := by show 0 ≤ sizeLine; decide) fun l hl => ?_
    have s1 := same_upd (o := .lst []) hl
    have L1 : (upd H0 l (.lst [])) l = some (.lst []) := upd_same
    generalize upd H0 l (.lst []) = H1 at s1 L1 ⊢
    walk_at "rd"
    refine ⟨many, rfl, by omega, by omega, ?_⟩
    refine for_it (walk_r0 (n := many.toNat)) (fun i σ Hq => Same H0 Hq ∧ ∃ (us : List V) (cs : List Cla) (x5 : Option V), σ = [some (.ref a), some (.int first), some (.int many), some (.ref t), some (.ref l), x5] ∧ Hq l = some (.lst us) ∧ AllV (LClaN (fun b => b ≠ l ∧ H0 b = none) Hq) us cs ∧ cs.length = i ∧ ∀ c ∈ cs, ClaW c ∧ c.conds.length ≤ 8)
      ⟨s1, [], [], none, rfl, L1, trivial, rfl, by simp⟩ (fun _ _ _ _ _ => trivial) ?_ ?_
    · rintro i x σ Ha Hb hi ⟨s2, us, cs, x5, rfl, hus, hall, hcl, hcw⟩ ⟨rfl, rfl⟩
      walk_at "rd"
      refine rd_tyL hus ?_
      walk_at "rd"
      refine rd_at (sqL_on hS fun o e => s2 _ _ (s0 _ _ e)) (by omega) ?_
      walk_at "rd"
      refine rd_I (mid_mul (by decide) (by decide) (by omega) (by omega)) ?_
      walk_at "rd"
      refine ⟨t, _, _, _, _, rfl, s2 _ _ T0, hsa, hsb, by omega, by omega, fun H4 u c s4 hc hw h8 => ?_⟩
      have hus4 := s4 _ _ hus
      walk_at "rd"
      refine rd_append hus4 (by rw [hall.len]; exact small1000 (by omega)) ?_
      walk_at "rd"
      have hc' : LClaN (fun b => b ≠ l ∧ H0 b = none) H4 u c := hc.imp fun b hb => ⟨fun z => (by rw [z, hus] at hb; cases hb), none_of s2 hb⟩
      refine ⟨Same.put2 (s2.trans s4) hl, us ++ [u], cs ++ [c], _, rfl, upd_same, ((hall.imp fun _ _ h => h.same s4).app hc').imp fun _ _ h => h.upd hus4 fun b hb => hb.1, by rw [List.length_append, hcl]; rfl, fun c' hm => ?_⟩
      rcases List.mem_append.mp hm with hm | hm
      · exact hcw c' hm
      · rw [List.mem_singleton] at hm; subst hm; exact ⟨hw, h8⟩
    · rintro σ H4 ⟨s2, us, cs, x5, rfl, hus, hall, hcl, hcw⟩
      have hatl : AllV (LCla H4) us cs := hall.imp fun _ _ h => h.at
      walk_at "rd"
      refine rd_new (hn := by show 8 ≤ sizeLine; decide) fun pz hpz => ?_
      have s3 := same_upd (o := .lst eightV) hpz
      have s3' : Same H4 (upd H4 pz (.lst [V.int 0, V.int 0, V.int 0, V.int 0, V.int 0, V.int 0, V.int 0, V.int 0])) := s3
      have hz : (upd H4 pz (.lst [V.int 0, V.int 0, V.int 0, V.int 0, V.int 0, V.int 0, V.int 0, V.int 0])) pz = some (.lst (eights.map V.int)) := upd_same
      generalize upd H4 pz (.lst [V.int 0, V.int 0, V.int 0, V.int 0, V.int 0, V.int 0, V.int 0, V.int 0]) = H5 at s3' hz ⊢
      walk_at "rd"
      refine ⟨l, pz, us, cs, 0, eights, rfl, s3' _ _ hus, hatl.imp fun _ _ h => h.same s3', fun c hc => (hcw c hc).1, by omega, hz, rfl, fun H6 s6 => ?_⟩
      have s06 := (s0.trans s2).trans (s3'.trans s6)
      have hus6 := s6 _ _ (s3' _ _ hus)
      have hat6 := hatl.imp fun _ _ h => h.same (s3'.trans s6)
      walk_at "rd"
      refine ite_nd (fun hm => ?_) (fun hm => ?_)
      · walk_at "rd"
        refine rd_new (hn := by show 1 ≤ sizeLine; decide) fun q1 hq1 => ?_
        have t1 := same_upd (o := .lst [V.int 8]) hq1
        have Q1 : (upd H6 q1 (.lst [V.int 8])) q1 = some (.lst [V.int 8]) := upd_same
        generalize upd H6 q1 (.lst [V.int 8]) = H7 at t1 Q1 ⊢
        walk_at "rd"
        refine rd_new (hn := by show 3 ≤ sizeLine; decide) fun q2 hq2 => ?_
        have t2 := same_upd (o := .tup [V.str "amount", V.int 0, V.ref q1]) hq2
        have Q2 : (upd H7 q2 (.tup [V.str "amount", V.int 0, V.ref q1])) q2 = some (.tup [V.str "amount", V.int 0, V.ref q1]) := upd_same
        generalize upd H7 q2 (.tup [V.str "amount", V.int 0, V.ref q1]) = H8 at t2 Q2 ⊢
        walk_at "rd"
        refine rd_new (hn := by show 1 ≤ sizeLine; decide) fun q3 hq3 => ?_
        have t3 := same_upd (o := .lst [V.ref q2]) hq3
        have Q3 : (upd H8 q3 (.lst [V.ref q2])) q3 = some (.lst [V.ref q2]) := upd_same
        generalize upd H8 q3 (.lst [V.ref q2]) = H9 at t3 Q3 ⊢
        walk_at "rd"
        refine rd_new (hn := by show 3 ≤ sizeLine; decide) fun q4 hq4 => ?_
        have t4 := same_upd (o := .tup [V.int 0, V.ref q3, V.int 0]) hq4
        have Q4 : (upd H9 q4 (.tup [V.int 0, V.ref q3, V.int 0])) q4 = some (.tup [V.int 0, V.ref q3, V.int 0]) := upd_same
        generalize upd H9 q4 (.tup [V.int 0, V.ref q3, V.int 0]) = H10 at t4 Q4 ⊢
        walk_at "rd"
        refine rd_new (hn := by show 1 ≤ sizeLine; decide) fun q5 hq5 => ?_
        have t5 := same_upd (o := .lst [V.ref q4]) hq5
        have Q5 : (upd H10 q5 (.lst [V.ref q4])) q5 = some (.lst [V.ref q4]) := upd_same
        generalize upd H10 q5 (.lst [V.ref q4]) = H11 at t5 Q5 ⊢
        have tt := (((t1.trans t2).trans t3).trans t4).trans t5
        walk_at "rd"
        refine ⟨q5, l, _, _, rfl, rfl, Q5, tt _ _ hus6, ?_, fun q6 hq6 => ?_⟩
        · rw [hall.len]; exact small_len (by simp only [List.length_cons, List.length_nil]; omega)
        have t6 := same_upd (o := .lst ([V.ref q4] ++ us)) hq6
        have Q6 : (upd H11 q6 (.lst ([V.ref q4] ++ us))) q6 = some (.lst ([V.ref q4] ++ us)) := upd_same
        generalize upd H11 q6 (.lst ([V.ref q4] ++ us)) = H12 at t6 Q6 ⊢
        have hf : Cla.fits ⟨some 0, [.amt 0 [8]], 0⟩ 0 eights = true := by decide +kernel
        walk_at "rd"
        have sA := (s06.trans tt).trans t6
        have l1 := none_of (s06.trans (((t1.trans t2).trans t3).trans t4)) hq5
        have l3 := none_of (s06.trans (t1.trans t2)) hq3
        have lq1 := none_of s06 hq1
        refine k _ q6 _ (⟨some 0, [.amt 0 [8]], 0⟩ :: cs) sA (none_of (s06.trans tt) hq6) Q6 ⟨⟨q4, q3, [V.ref q2], rfl, t6 _ _ (t5 _ _ Q4), t6 _ _ (t5 _ _ (t4 _ _ Q3)), l3, ⟨⟨q2, q1, rfl, t6 _ _ (t5 _ _ (t4 _ _ (t3 _ _ Q2))), t6 _ _ (t5 _ _ (t4 _ _ (t3 _ _ (t2 _ _ Q1)))), lq1⟩, trivial⟩⟩, hall.imp fun _ _ h => (h.same ((s3'.trans s6).trans (tt.trans t6))).imp fun b hb => none_of s0 hb.2⟩ ⟨⟨?_, hat6.imp fun _ _ h => h.same (tt.trans t6)⟩, fun c hc => ?_, by rw [List.length_cons]; omega⟩ (fits_zero hf rfl cs) (by rw [List.length_cons]; constructor <;> omega)
        · refine ⟨q4, q3, [V.ref q2], rfl, t6 _ _ (t5 _ _ Q4), t6 _ _ (t5 _ _ (t4 _ _ Q3)), ⟨q2, q1, rfl, t6 _ _ (t5 _ _ (t4 _ _ (t3 _ _ Q2))), t6 _ _ (t5 _ _ (t4 _ _ (t3 _ _ (t2 _ _ Q1))))⟩, trivial⟩
        · rcases List.mem_cons.mp hc with rfl | hc
          · refine ⟨⟨⟨by decide, by decide⟩, fun k hk => ?_, ⟨by decide, by decide⟩⟩, by show 1 ≤ 8; decide⟩
            rw [List.mem_singleton] at hk; subst hk
            exact ⟨⟨by decide, by decide⟩, by simp, fun n hn => by rw [List.mem_singleton] at hn; subst hn; decide, by simp⟩
          · exact hcw c hc
      · walk_at "rd"
        refine k _ l us cs s06 (none_of s0 hl) hus6 (hall.imp fun _ _ h => (h.same (s3'.trans s6)).imp fun b hb => none_of s0 hb.2) ⟨hat6, hcw, by omega⟩ hm (by constructor <;> omega)
theorem ok_clauses_by (T : Env fa fn K mg) : Good P w K mg base CX0 4 ("_law_clauses_by", none) ["_law_script", "_law_first", "_law_many"] (sp_clauses_by K) :=
  (ok_clauses_byN (P := P) (w := w) (base := base) T).imp fun vs H Q E ⟨a, ns, f, m, x1, x2, x3, x4, x5, q⟩ => ⟨a, ns, f, m, x1, x2, x3, x4, x5, fun H' l us cs a b c d e f g => q H' l us cs a c e f g⟩
end
end JF

/-! ### rules written -/
namespace JF
open PySem PySem.Spec PyProof.Rows L2
theorem len_wordW {c : Cla} (h : ClaW c) : ∀ w ∈ claW c, w.length ≤ 11 := fun w hw => by
  rcases List.mem_cons.mp hw with rfl | hw
  · simp
  · rcases List.mem_append.mp hw with hw | hw
    · obtain ⟨k, hk, rfl⟩ := List.mem_map.mp hw
      exact condT_len (h.2.1 k hk)
    · rw [List.mem_singleton] at hw; subst hw; simp
theorem claT_lenW {c : Cla} (h : ClaW c) (h8 : c.conds.length ≤ 900) : (claT c).length ≤ 10824 := by
  have h1 : (claW c).length ≤ 902 := by
    show ([wishT c.taken] :: (c.conds.map condT ++ [[48 + c.made.toNat]])).length ≤ 902
    simp only [List.length_cons, List.length_append, List.length_map, List.length_nil]
    omega
  have h2 := joinL_le (S := [32]) (B := 11) (ws := claW c) (len_wordW h)
  have e : ([32] : List Nat).length = 1 := rfl
  rw [e] at h2
  exact Nat.le_trans h2 (Nat.le_trans (Nat.mul_le_mul_right _ h1) (by decide))
section
variable {P : Program} {w : World} {K : PySem.W.Frag} {mg : Str → Option Value} {base : Heap}
def sp_wst : Sp := fun vs H Q _ => ∃ s : Option Int, vs = [optV s] ∧ WishW s ∧ Q (.str (tx [wishT s])) H
theorem mp_wst : MonP sp_wst := fun vs H Q Q' E h ⟨s, x1, x2, q⟩ => ⟨s, x1, x2, h _ _ q⟩
theorem str_wish {s : Int} (h : St s) : Str.ofString (toString s) = tx [wishT (some s)] := by
  unfold St at h
  obtain ⟨n, hn⟩ := nat_of h.1
  exact str_tx (by rw [hn, tl_int (by omega)]; show _ = [48 + (n : Int).toNat]; rw [Int.toNat_natCast])
theorem ok_wst (T : Env fa fn K mg) : Good P w K mg base CX0 1 ("written_state", none) ["state"] sp_wst := by
  refine good_mk T 15 (d := d_written_state) (N := ["state"]) (ps := ["state"]) rfl rfl sc_written_state (fun _ _ _ _ _ _ us hl => match us, hl with | [_], _ => rfl) (fun vs H Q E h => ?_) (fun f cdv A outer σ0 H vs Q E hr h => ?_)
  · obtain ⟨s, rfl, _⟩ := h; rfl
  · obtain ⟨s, rfl, hs, k⟩ := h
    refine ⟨_, (pss_cons (ps_if (pt_cmpR op_isN (pv 0) pe_non (nomark _)) (pss_one (ps_ret pe_str)) pss_nil)
      (pss_one (ps_ret (pe_callTy call_str_int (by rfl) (T.free 1) (by decide +kernel) (pa_cons (pv 0) pa_nil))))), ?_⟩
    cases s with
    | none =>
      walk_at "rd"
      refine iteT ?_
      walk_at "rd"
      have e : Str.ofString "*" = tx [wishT none] := by decide +kernel
      rw [e]
      exact k
    | some s =>
      have hs' : St s := hs
      walk_at "rd"
      refine iteF ?_
      walk_at "rd"
      refine ⟨s, rfl, log_ok (by unfold St at hs'; omega), ?_⟩
      rw [str_wish hs']
      exact k
def sp_amt_written (K : PySem.W.Frag) : Sp := fun vs H Q _ => ∃ (p dx l : Addr) (s : Int) (ns : List Int), vs = [.ref p] ∧ H p = some (.ins (He.ga K "Amount") dx [("state", .int s), ("numbers", .ref l)]) ∧ H l = some (.lst (ns.map V.int)) ∧ CondW (.amt s ns) ∧ ∀ H', Same H H' → Q (.str (tx (condT (.amt s ns)))) H'
theorem mp_amt_written : MonP (sp_amt_written K) := fun vs H Q Q' E h ⟨p, dx, l, s, ns, x1, x2, x3, x4, k⟩ => ⟨p, dx, l, s, ns, x1, x2, x3, x4, fun H' a => h _ _ (k H' a)⟩
theorem ok_amt_written (T : Env fa fn K mg) : Good P w K mg base CX0 1 ("Amount", some "written") ["self"] (sp_amt_written K) := by
  refine good_mk T 6 (d := d_Amount_written) (N := ["self", "number"]) (ps := ["self"]) rfl rfl sc_Amount_written (fun _ _ _ _ _ _ us hl => match us, hl with | [_], _ => rfl) (fun vs H Q E h => ?_) (fun f cdv A outer σ0 H vs Q E hr h => ?_)
  · obtain ⟨p, dx, l, s, ns, rfl, _⟩ := h; rfl
  · obtain ⟨p, dx, l, s, nu, rfl, hp, hl, ⟨hs, hne, nm, hinc⟩, k⟩ := h
    have hsz := sizeBig
    have cl := T.cls 6
    have n1 := T.noat 78
    have n2 := T.noat 77
    have nlen := amt_len nm hinc
    refine ⟨_, (pss_one (ps_ret (pe_op op_add_str (pe_op op_add_str (pe_callTy call_str_int (by rfl) (T.free 1) (by decide +kernel) (pa_cons (pe_fldK K rfl (pv 0) rfl) pa_nil)) pe_str) (pe_join pe_str (pe_lc (own := [("number", 1)]) (tt := tYes) rfl sc_Amount_written.nd (pi_listK K rfl (pe_fldK K rfl (pv 0) rfl)) (blkOk_by (own := [("number", 1)]) (N := ["self", "number"]) (sc := defScope st_Amount_written) (by decide +kernel)) (fun _ _ _ _ _ => by exact (pg_name (i := 1) sc_Amount_written.nd rfl (Or.inl rfl))) (fun _ _ _ _ _ => by exact pts_nil) (fun _ _ _ _ _ => by exact (pe_callTy call_str_int (by rfl) (T.free 1) (by decide +kernel) (pa_cons (pv 1) pa_nil)))))))), ?_⟩
    walk_at "rd"
    refine ⟨s, rfl, log_ok (by have := hs.1; have := hs.2; omega), ?_⟩
    walk_at "rd"
    have e0 : TL.tl (Str.ofString (toString s)) = [48 + s.toNat] := by rw [str_wish hs]; rfl
    generalize Str.ofString (toString s) = z0 at e0 ⊢
    have eeq : TL.tl (Str.ofString "=") = [61] := by decide +kernel
    refine ⟨_, _, rfl, rfl, add_ok (by rw [e0, eeq]; simp), ?_⟩
    have e1 : TL.tl (z0 ++ Str.ofString "=") = [48 + s.toNat, 61] := by rw [TL.tl_append, e0, eeq]; rfl
    generalize z0 ++ Str.ofString "=" = z1 at e1 ⊢
    walk_at "rd"
    refine rd_m1 ?_
    walk_at "rd"
    refine rd_st ?_
    walk_at "rd"
    refine ⟨l, rfl, ⟨_, SqL.of hl⟩, fun D hD => ?_⟩
    refine lc_list (K := K) (xs := nu.map V.int) (fun i H' => H' = upd H D (.lst ((nu.take i).map fun n => V.str (Str.ofString (toString n))))) rfl (fun i H' _ e => SqL.of (by rw [e]; exact (same_upd hD) _ _ hl)) ?_ ?_
    · rintro i x H' hx rfl
      obtain ⟨c, hc, rfl⟩ : ∃ c, nu[i]? = some c ∧ x = .int c := by
        rw [List.getElem?_map] at hx
        cases e : nu[i]? with
        | none => rw [e] at hx; cases hx
        | some c => rw [e] at hx; exact ⟨c, rfl, (Option.some.inj hx).symm⟩
      have hb := nm c (List.mem_of_getElem? hc)
      have hi := (List.getElem?_eq_some_iff.mp hc).1
      walk_at "rd"
      refine ⟨rfl, ?_⟩
      walk_at "rd"
      refine ⟨c, rfl, log_ok (by omega), ?_⟩
      refine ⟨_, upd_same, ?_, ?_⟩
      · rw [List.length_map, List.length_take]; exact small1000 (by omega)
      · rw [upd_upd, take_snoc hc, List.map_append]; rfl
    rintro H3 rfl
    rw [List.length_map, List.take_length]
    have s3 := same_upd (o := .lst (nu.map fun n => V.str (Str.ofString (toString n)))) hD
    have LD : (upd H D (.lst (nu.map fun n => V.str (Str.ofString (toString n))))) D = some (.lst ((nu.map fun n => Str.ofString (toString n)).map V.str)) := by rw [upd_same, List.map_map]; rfl
    generalize upd H D (.lst (nu.map fun n => V.str (Str.ofString (toString n)))) = H3 at s3 LD ⊢
    walk_at "rd"
    have tlys : (nu.map fun n => Str.ofString (toString n)).map TL.tl = nu.map fun n => [48 + n.toNat] := by
      rw [List.map_map]
      refine List.map_congr_left fun n hn => ?_
      have hb := nm n hn
      obtain ⟨d, rfl⟩ : ∃ d : Nat, n = (d : Int) := ⟨n.toNat, by omega⟩
      show TL.tl (Str.ofString (toString (d : Int))) = _
      rw [tl_int (by omega), Int.toNat_natCast]
    have lys : ((nu.map fun n => Str.ofString (toString n)).map (·.length)).sum ≤ 9 := by
      have e : (nu.map fun n => Str.ofString (toString n)).map (·.length) = ((nu.map fun n => Str.ofString (toString n)).map TL.tl).map List.length := by
        rw [List.map_map (f := TL.tl)]
        refine List.map_congr_left fun z _ => TL.len_tl z
      rw [e, tlys, List.map_map]
      have e' := sum_len nu
      rw [e']; exact nlen
    refine ⟨_, D, _, rfl, rfl, .inl (SqL.of LD), ?_, ?_⟩
    · rw [List.length_map]
      have e : (Str.ofString "").length = 0 := by decide +kernel
      rw [e]; omega
    have ej : TL.tl (Txt.join (Str.ofString "") (nu.map fun n => Str.ofString (toString n))) = numT nu := by
      rw [TL.join_eq, TL.tl_join, tlys]
      have e : TL.tl (Str.ofString "") = [] := by decide +kernel
      rw [e]
      exact join_one nu
    generalize Txt.join (Str.ofString "") (nu.map fun n => Str.ofString (toString n)) = zj at ej ⊢
    have lnum : (numT nu).length = nu.length := List.length_map _
    walk_at "rd"
    refine ⟨_, _, rfl, rfl, add_ok (by rw [e1, ej, lnum]; simp only [List.length_cons, List.length_nil]; omega), ?_⟩
    have e4 : z1 ++ zj = tx (condT (.amt s nu)) := str_tx (by rw [TL.tl_append, e1, ej]; rfl)
    rw [e4]
    exact k _ s3
def sp_plc_written (K : PySem.W.Frag) : Sp := fun vs H Q _ => ∃ (p dx l : Addr) (ws : List (Option Int)), vs = [.ref p] ∧ H p = some (.ins (He.ga K "Places") dx [("wanted", .ref l)]) ∧ H l = some (.lst (ws.map optV)) ∧ CondW (.plc ws) ∧ ∀ H', Same H H' → Q (.str (tx (condT (.plc ws)))) H'
theorem mp_plc_written : MonP (sp_plc_written K) := fun vs H Q Q' E h ⟨p, dx, l, ws, x1, x2, x3, x4, k⟩ => ⟨p, dx, l, ws, x1, x2, x3, x4, fun H' a => h _ _ (k H' a)⟩
theorem ok_plc_written (T : Env fa fn K mg) : Good P w K mg base CX0 2 ("Places", some "written") ["self"] (sp_plc_written K) := by
  have G_written_state := ok_wst (P := P) (w := w) (base := base) T
  refine good_mk T 10 (d := d_Places_written) (N := ["self", "wish"]) (ps := ["self"]) rfl rfl sc_Places_written (fun _ _ _ _ _ _ us hl => match us, hl with | [_], _ => rfl) (fun vs H Q E h => ?_) (fun f cdv A outer σ0 H vs Q E hr h => ?_)
  · obtain ⟨p, dx, l, ws, rfl, _⟩ := h; rfl
  · obtain ⟨p, dx, l, ws, rfl, hp, hl, ⟨hw8, hwb⟩, k⟩ := h
    have cl := T.cls 4
    have n1 := T.noat 82
    refine ⟨_, (pss_one (ps_ret (pe_join pe_str (pe_lc (own := [("wish", 1)]) (tt := tYes) rfl sc_Places_written.nd (pi_listK K rfl (pe_fldK K rfl (pv 0) rfl)) (blkOk_by (own := [("wish", 1)]) (N := ["self", "wish"]) (sc := defScope st_Places_written) (by decide +kernel)) (fun _ _ _ _ _ => by exact (pg_name (i := 1) sc_Places_written.nd rfl (Or.inl rfl))) (fun _ _ _ _ _ => by exact pts_nil) (fun _ _ _ _ _ => by exact (pe_cgK K rfl G_written_state (hr.mono (by decide)) (T.glo 3) (pa_cons (pv 1) pa_nil))))))), ?_⟩
    walk_at "rd"
    refine rd_m1 ?_
    walk_at "rd"
    refine rd_st ?_
    walk_at "rd"
    refine ⟨l, rfl, ⟨_, SqL.of hl⟩, fun D hD => ?_⟩
    refine lc_list (K := K) (xs := ws.map optV) (fun i H' => H' = upd H D (.lst ((ws.take i).map fun w => V.str (tx [wishT w])))) rfl (fun i H' _ e => SqL.of (by rw [e]; exact (same_upd hD) _ _ hl)) ?_ ?_
    · rintro i x H' hx rfl
      obtain ⟨c, hc, rfl⟩ : ∃ c, ws[i]? = some c ∧ x = optV c := by
        rw [List.getElem?_map] at hx
        cases e : ws[i]? with
        | none => rw [e] at hx; cases hx
        | some c => rw [e] at hx; exact ⟨c, rfl, (Option.some.inj hx).symm⟩
      have hi := (List.getElem?_eq_some_iff.mp hc).1
      walk_at "rd"
      refine ⟨rfl, ?_⟩
      walk_at "rd"
      refine ⟨c, rfl, hwb c (List.mem_of_getElem? hc), ?_⟩
      refine ⟨_, upd_same, ?_, ?_⟩
      · rw [List.length_map, List.length_take]; exact small1000 (by omega)
      · rw [upd_upd, take_snoc hc, List.map_append]; rfl
    rintro H3 rfl
    rw [List.length_map, List.take_length]
    have s3 := same_upd (o := .lst (ws.map fun w => V.str (tx [wishT w]))) hD
    have LD : (upd H D (.lst (ws.map fun w => V.str (tx [wishT w])))) D = some (.lst (((ws.map fun w => [wishT w]).map tx).map V.str)) := by rw [upd_same, List.map_map, List.map_map]; rfl
    generalize upd H D (.lst (ws.map fun w => V.str (tx [wishT w]))) = H3 at s3 LD ⊢
    walk_at "rd"
    refine ⟨_, D, _, rfl, rfl, .inl (SqL.of LD), ?_, ?_⟩
    · have e := sum_tx (B := 1) (ws := ws.map fun w => [wishT w]) fun w hw => by
        obtain ⟨c, hc, rfl⟩ := List.mem_map.mp hw
        exact Nat.le_refl 1
      have e1 : (Str.ofString "").length = 0 := by decide +kernel
      rw [List.length_map] at e
      rw [List.length_map, e1]
      omega
    have e0 : TL.tl (Str.ofString "") = [] := by decide +kernel
    rw [join_tx e0]
    have e2 : TL.joinL [] (ws.map fun w => [wishT w]) = condT (.plc ws) := by
      have := join_ones (ws.map wishT)
      rw [List.map_map] at this
      exact this
    rw [e2]
    exact k _ s3
def sp_cla_written (K : PySem.W.Frag) : Sp := fun vs H Q _ => ∃ (v : V) (c : Cla), vs = [v] ∧ ClaAt K H v c ∧ ClaW c ∧ c.conds.length ≤ 900 ∧ ∀ H', Same H H' → Q (.str (tx (claT c))) H'
theorem mp_cla_written : MonP (sp_cla_written K) := fun vs H Q Q' E h ⟨v, c, x1, x2, x3, x4, k⟩ => ⟨v, c, x1, x2, x3, x4, fun H' a => h _ _ (k H' a)⟩
set_option maxHeartbeats 8000000 in
theorem ok_cla_written (T : Env fa fn K mg) : Good P w K mg base CX0 3 ("Clause", some "written") ["self"] (sp_cla_written K) := by
  have G_written_state := ok_wst (P := P) (w := w) (base := base) T
  have G_Amount_written := ok_amt_written (P := P) (w := w) (base := base) T
  have G_Places_written := ok_plc_written (P := P) (w := w) (base := base) T
  refine good_mk T 14 (d := d_Clause_written) (N := ["self", "words", "condition"]) (ps := ["self"]) rfl rfl sc_Clause_written (fun _ _ _ _ _ _ us hl => match us, hl with | [_], _ => rfl) (fun vs H Q E h => ?_) (fun f cdv A outer σ0 H vs Q E hr h => ?_)
  · obtain ⟨v, c, rfl, _⟩ := h; rfl
  · obtain ⟨v, c, rfl, ⟨p, dx, l, ps, rfl, hp, hl, hall⟩, hcw, h8, k⟩ := h
    have cl := T.cls 11
    have cla := T.cls 6
    have clp := T.cls 4
    have n1 := T.noat 81
    have n2 := T.noat 79
    have n3 := T.noat 80
    refine ⟨_, (pss_cons (ps_set (i := 1) sc_Clause_written.nd rfl (Or.inl rfl) (pe_lst (pa_cons (pe_cgK K rfl G_written_state (hr.mono (by decide)) (T.glo 3) (pa_cons (pe_fldK K rfl (pv 0) rfl) pa_nil)) pa_nil)))
      (pss_cons (ps_for PassesOwn.never rfl (pi_listK K rfl (pe_fldK K rfl (pv 0) rfl)) (pg_name (i := 2) sc_Clause_written.nd rfl (Or.inl rfl)) (pss_one (ps_expr (pe_bm PySem.F.plainAttrs_list PySem.F.slot_list_append PySem.F.type_list_append mt_append (pv 1) (pa_cons (pe_or (pe_mg0K K rfl (pv 2) (T.cls 6) (T.meth 9) G_Amount_written (hr.mono (by decide))) (pe_mg0K K rfl (pv 2) (T.cls 4) (T.meth 8) G_Places_written (hr.mono (by decide)))) pa_nil)))))
      (pss_cons (ps_expr (pe_bm PySem.F.plainAttrs_list PySem.F.slot_list_append PySem.F.type_list_append mt_append (pv 1) (pa_cons (pe_cgK K rfl G_written_state (hr.mono (by decide)) (T.glo 3) (pa_cons (pe_fldK K rfl (pv 0) rfl) pa_nil)) pa_nil)))
      (pss_one (ps_ret (pe_join pe_str (pv 1))))))), ?_⟩
    walk_at "rd"
    refine ⟨c.taken, rfl, hcw.1, ?_⟩
    walk_at "rd"
    refine rd_new (hn := by show 1 ≤ sizeLine; decide) fun q hq => ?_
    have s0 := same_upd (o := .lst [V.str (tx [wishT c.taken])]) hq
    have L0 : (upd H q (.lst [V.str (tx [wishT c.taken])])) q = some (.lst [V.str (tx [wishT c.taken])]) := upd_same
    generalize upd H q (.lst [V.str (tx [wishT c.taken])]) = H0 at s0 L0 ⊢
    have hp0 := s0 _ _ hp
    walk_at "rd"
    refine ⟨l, rfl, ⟨_, SqL.of (s0 _ _ hl)⟩, ?_⟩
    refine for_it (walk_list (xs := ps)) (fun i σ H' => Same H H' ∧ H' q = some (.lst (V.str (tx [wishT c.taken]) :: (c.conds.take i).map fun k => V.str (tx (condT k)))) ∧ ∃ x2 : Option V, σ = [some (.ref p), some (.ref q), x2]) ⟨s0, L0, none, rfl⟩ ?_ ?_ ?_
    · rintro i σ H' _ ⟨s1, _⟩
      exact SqL.of (s1 _ _ hl)
    · rintro i x σ Ha Hb hi ⟨s1, h1, x2, rfl⟩ ⟨rfl, hx⟩
      obtain ⟨kc, hk, hat⟩ := hall.get hx
      have hat1 := hat.same s1
      have hkw := hcw.2.1 kc (List.mem_of_getElem? hk)
      have hi' := (List.getElem?_eq_some_iff.mp hk).1
      have hlt : (V.str (tx [wishT c.taken]) :: (c.conds.take i).map fun k => V.str (tx (condT k))).length < sizeLine := by
        rw [List.length_cons, List.length_map, List.length_take]; exact small1000 (by omega)
      have fin : ∀ H4, Same Hb H4 → (Same H (upd H4 q (.lst ((V.str (tx [wishT c.taken]) :: (c.conds.take i).map fun k => V.str (tx (condT k))) ++ [V.str (tx (condT kc))]))) ∧ (upd H4 q (.lst ((V.str (tx [wishT c.taken]) :: (c.conds.take i).map fun k => V.str (tx (condT k))) ++ [V.str (tx (condT kc))]))) q = some (.lst (V.str (tx [wishT c.taken]) :: (c.conds.take (i + 1)).map fun k => V.str (tx (condT k)))) ∧ ∃ y : Option V, [some (.ref p), some (.ref q), some x] = [some (.ref p), some (.ref q), y]) := fun H4 s4 =>
        ⟨Same.put2 (s1.trans s4) hq, by rw [upd_same, take_snoc hk, List.map_append]; rfl, _, rfl⟩
      walk_at "rd"
      refine rd_tyL h1 ?_
      cases kc with
      | amt s ns =>
        obtain ⟨pa, da, la, rfl, ha, hla⟩ := hat1
        refine .inl ?_
        walk_at "rd"
        refine rd_methR ha (by rfl) ?_
        walk_at "rd"
        refine ⟨pa, da, la, s, ns, rfl, ha, hla, hkw, fun H4 s4 => ?_⟩
        walk_at "rd"
        refine rd_append (s4 _ _ h1) hlt ?_
        walk_at "rd"
        exact fin H4 s4
      | plc ws =>
        obtain ⟨pa, da, la, rfl, ha, hla⟩ := hat1
        refine .inr ?_
        walk_at "rd"
        refine rd_methR ha (by rfl) ?_
        walk_at "rd"
        refine ⟨pa, da, la, ws, rfl, ha, hla, hkw, fun H4 s4 => ?_⟩
        walk_at "rd"
        refine rd_append (s4 _ _ h1) hlt ?_
        walk_at "rd"
        exact fin H4 s4
    · rintro σ H' ⟨s1, h1, x2, rfl⟩
      have hpl : ps.length = c.conds.length := hall.len
      rw [hpl, List.take_length] at h1
      have hp1 := s1 _ _ hp
      walk_at "rd"
      refine rd_tyL h1 ?_
      walk_at "rd"
      refine ⟨some c.made, rfl, hcw.2.2, ?_⟩
      walk_at "rd"
      refine rd_append h1 (by rw [List.length_cons, List.length_map]; exact small1000 (by omega)) ?_
      have eW : (V.str (tx [wishT c.taken]) :: c.conds.map fun k => V.str (tx (condT k))) ++ [V.str (tx [wishT (some c.made)])] = ((claW c).map tx).map V.str := by
        simp [claW, List.map_map, Function.comp_def, wishT]
      rw [eW]
      have L7 : (upd H' q (.lst (((claW c).map tx).map V.str))) q = some (.lst (((claW c).map tx).map V.str)) := upd_same
      have s7 : Same H (upd H' q (.lst (((claW c).map tx).map V.str))) := Same.put2 s1 hq
      generalize upd H' q (.lst (((claW c).map tx).map V.str)) = H7 at s7 L7 ⊢
      walk_at "rd"
      refine rd_m1 ?_
      walk_at "rd"
      refine rd_st ?_
      walk_at "rd"
      refine ⟨_, q, _, rfl, rfl, .inl (SqL.of L7), ?_, ?_⟩
      · have e := sum_tx (len_wordW hcw)
        have e1 : (Str.ofString " ").length = 1 := by decide +kernel
        have hwl : (claW c).length = c.conds.length + 2 := by simp [claW]
        rw [List.length_map, e1]
        omega
      rw [join_tx tl_space]
      exact k _ s7
def sp_shown (K : PySem.W.Frag) : Sp := fun vs H Q _ => ∃ (v : V) (cs : List Cla), vs = [v] ∧ RuleAt K H v cs ∧ (∀ c ∈ cs, ClaW c ∧ c.conds.length ≤ 900) ∧ cs.length ≤ 900 ∧ ∀ H', Same H H' → Q (.str (tx (ruleT cs))) H'
theorem mp_shown : MonP (sp_shown K) := fun vs H Q Q' E h ⟨v, cs, x1, x2, x3, x4, k⟩ => ⟨v, cs, x1, x2, x3, x4, fun H' a => h _ _ (k H' a)⟩
set_option maxHeartbeats 8000000 in
theorem ok_shown (T : Env fa fn K mg) : Good P w K mg base CX0 4 ("shown_rule", none) ["rule"] (sp_shown K) := by
  have G_Clause_written := ok_cla_written (P := P) (w := w) (base := base) T
  refine good_mk T 25 (d := d_shown_rule) (N := ["rule", "clause"]) (ps := ["rule"]) rfl rfl sc_shown_rule (fun _ _ _ _ _ _ us hl => match us, hl with | [_], _ => rfl) (fun vs H Q E h => ?_) (fun f cdv A outer σ0 H vs Q E hr h => ?_)
  · obtain ⟨v, cs, rfl, _⟩ := h; rfl
  · obtain ⟨v, cs, rfl, ⟨p, dx, l, ps, rfl, hp, hl, hall⟩, hw, hcl, k⟩ := h
    have cl := T.cls 84
    have clc := T.cls 11
    have n1 := T.noat 83
    refine ⟨_, (pss_one (ps_ret (pe_join pe_str (pe_lc (own := [("clause", 1)]) (tt := tYes) rfl sc_shown_rule.nd (pi_listK K rfl (pe_fldK K rfl (pv 0) rfl)) (blkOk_by (own := [("clause", 1)]) (N := ["rule", "clause"]) (sc := defScope st_shown_rule) (by decide +kernel)) (fun _ _ _ _ _ => by exact (pg_name (i := 1) sc_shown_rule.nd rfl (Or.inl rfl))) (fun _ _ _ _ _ => by exact pts_nil) (fun _ _ _ _ _ => by exact (pe_mg0K K rfl (pv 1) (T.cls 11) (T.meth 35) G_Clause_written (hr.mono (by decide)))))))), ?_⟩
    walk_at "rd"
    refine rd_m1 ?_
    walk_at "rd"
    refine rd_st ?_
    walk_at "rd"
    refine ⟨l, rfl, ⟨_, SqL.of hl⟩, fun D hD => ?_⟩
    have sD := fun o => same_upd (o := o) hD
    refine lc_list (K := K) (xs := ps) (fun i H' => Same H H' ∧ H' D = some (.lst ((cs.take i).map fun c => V.str (tx (claT c))))) ⟨sD _, upd_same⟩ ?_ ?_ ?_
    · rintro i H' _ ⟨s3, _⟩
      exact SqL.of (s3 _ _ hl)
    · rintro i x H' hx ⟨s3, h3⟩
      obtain ⟨c, hk, hat⟩ := hall.get hx
      have hi := (List.getElem?_eq_some_iff.mp hk).1
      have hat3 := hat.same s3
      obtain ⟨pa, da, la, qa, rfl, ha, _⟩ := id hat3
      walk_at "rd"
      refine ⟨rfl, ?_⟩
      walk_at "rd"
      refine rd_methR ha (by rfl) ?_
      walk_at "rd"
      obtain ⟨hcw, h8⟩ := hw c (List.mem_of_getElem? hk)
      refine ⟨_, c, rfl, hat3, hcw, h8, fun H4 s4 => ?_⟩
      refine ⟨_, s4 _ _ h3, ?_, Same.put2 (s3.trans s4) hD, ?_⟩
      · rw [List.length_map, List.length_take]; exact small1000 (by omega)
      · rw [upd_same, take_snoc hk, List.map_append]; rfl
    rintro H3 ⟨s3, LD⟩
    have hpl : ps.length = cs.length := hall.len
    rw [hpl, List.take_length] at LD
    have e1 : (cs.map fun c => V.str (tx (claT c))) = ((cs.map claT).map tx).map V.str := by simp only [List.map_map, Function.comp_def]
    rw [e1] at LD
    walk_at "rd"
    refine ⟨_, D, _, rfl, rfl, .inl (SqL.of LD), ?_, ?_⟩
    · have e := sum_tx (B := 10824) (ws := cs.map claT) fun w hw' => by
        obtain ⟨c, hc, rfl⟩ := List.mem_map.mp hw'
        exact claT_lenW (hw c hc).1 (hw c hc).2
      have e1 : (Str.ofString "; ").length = 2 := by decide +kernel
      rw [List.length_map] at e
      rw [List.length_map, List.length_map, e1]
      omega
    rw [join_tx tl_semi2]
    exact k _ s3
end
end JF

/-! ### rules refused: what is no rule, what is restless -/
namespace JF
open PySem PySem.Spec PyProof.Rows L2
def isSt (W : List Nat) : Prop := ∃ s : Int, St s ∧ W = [48 + s.toNat]
def isWi (W : List Nat) : Prop := ∃ o : Option Int, WishW o ∧ W = [wishT o]
def isNu (W : List Nat) : Prop := ∃ ns : List Int, W = numT ns ∧ (∀ n ∈ ns, 0 ≤ n ∧ n ≤ 8) ∧ ns.Pairwise (· < ·)
def isCo (W : List Nat) : Prop := ∃ c, CondW c ∧ W = condT c
def isCl (L : List Nat) : Prop := ∃ c, ClaW c ∧ L = claT c
/-- a text of a rule: of no clauses, or of some -/
def isRu (L : List Nat) : Prop := ∃ cs : List Cla, (∀ c ∈ cs, ClaW c) ∧ L = ruleT cs
theorem states_iff {c : Nat} : c ∈ (Str.ofString "01234567").cps.toList ↔ 48 ≤ c ∧ c ≤ 55 := by
  have e : (Str.ofString "01234567").cps.toList = [48, 49, 50, 51, 52, 53, 54, 55] := by decide +kernel
  rw [e]
  simp only [List.mem_cons, List.not_mem_nil, or_false]
  omega
theorem numbers_iff {c : Nat} : c ∈ (Str.ofString "012345678").cps.toList ↔ 48 ≤ c ∧ c ≤ 56 := by
  have e : (Str.ofString "012345678").cps.toList = [48, 49, 50, 51, 52, 53, 54, 55, 56] := by decide +kernel
  rw [e]
  simp only [List.mem_cons, List.not_mem_nil, or_false]
  omega
theorem isSt_iff {W : List Nat} : isSt W ↔ ∃ c, W = [c] ∧ 48 ≤ c ∧ c ≤ 55 := by
  constructor
  · rintro ⟨s, ⟨h0, h7⟩, rfl⟩
    exact ⟨_, rfl, by omega, by omega⟩
  · rintro ⟨c, rfl, h0, h7⟩
    exact ⟨((c - 48 : Nat) : Int), ⟨by omega, by omega⟩, by rw [Int.toNat_natCast]; congr 1; omega⟩
theorem isWi_iff {W : List Nat} : isWi W ↔ W = [42] ∨ isSt W := by
  constructor
  · rintro ⟨o, h, rfl⟩
    cases o with
    | none => exact .inl rfl
    | some s => exact .inr ⟨s, h, rfl⟩
  · rintro (rfl | ⟨s, h, rfl⟩)
    · exact ⟨none, trivial, rfl⟩
    · exact ⟨some s, h, rfl⟩
theorem isNu_nil : isNu [] := ⟨[], rfl, (fun n m => by cases m), .nil⟩
/-- conditions: by amounts, by places -/
theorem isCo_amt {a : Nat} {R : List Nat} (ha : isSt [a]) (hR : isNu R) (h0 : R ≠ []) : isCo (a :: 61 :: R) := by
  obtain ⟨s, hs, e⟩ := ha
  obtain ⟨ns, rfl, h1, h2⟩ := hR
  cases e
  refine ⟨.amt s ns, ⟨hs, (fun z => h0 (by rw [z]; rfl)), h1, h2⟩, rfl⟩
theorem isCo_plc {W : List Nat} (h8 : W.length = 8) (hw : ∀ c ∈ W, isWi [c]) : isCo W := by
  have key : ∀ W : List Nat, (∀ c ∈ W, isWi [c]) → ∃ ws : List (Option Int), W = ws.map wishT ∧ ∀ w ∈ ws, WishW w := by
    intro W
    induction W with
    | nil => exact fun _ => ⟨[], rfl, fun w m => by cases m⟩
    | cons c W ih =>
      intro h
      obtain ⟨o, ho, e⟩ := h c List.mem_cons_self
      obtain ⟨ws, e2, h2⟩ := ih fun d m => h d (List.mem_cons_of_mem _ m)
      cases e
      refine ⟨o :: ws, by rw [e2]; rfl, fun w m => ?_⟩
      rcases List.mem_cons.mp m with m | m
      · rw [m]; exact ho
      · exact h2 w m
  obtain ⟨ws, rfl, h⟩ := key W hw
  exact ⟨.plc ws, ⟨by rwa [List.length_map] at h8, h⟩, rfl⟩
theorem isCo_inv {W : List Nat} (h : isCo W) : (∃ a R, W = a :: 61 :: R ∧ isSt [a] ∧ isNu R ∧ R ≠ []) ∨ (W.length = 8 ∧ ∀ c ∈ W, isWi [c]) := by
  obtain ⟨c, hc, rfl⟩ := h
  cases c with
  | amt s ns =>
    obtain ⟨h1, h2, h3, h4⟩ := hc
    exact .inl ⟨_, _, rfl, ⟨s, h1, rfl⟩, ⟨ns, rfl, h3, h4⟩, fun z => h2 (List.map_eq_nil_iff.mp z)⟩
  | plc ws =>
    obtain ⟨h1, h2⟩ := hc
    refine .inr ⟨by show (ws.map wishT).length = 8; rw [List.length_map]; exact h1, fun c m => ?_⟩
    obtain ⟨w, mw, rfl⟩ := List.mem_map.mp m
    exact ⟨w, h2 w mw, rfl⟩
theorem split_any {y : Str} {S : List Nat} (ey : TL.tl y = S) (h0 : S ≠ []) (hk : y.cps.all (· < 256) = true) (L : List Nat) : Txt.split (tx L) y = (TL.spl S 0 [] L).map tx := by
  subst ey
  apply TL.map_tl_inj
  rw [TL.split_spl (tx L) y h0 (TL.kind_ok hk), List.map_map]
  exact (List.map_id _).symm
theorem spl_join_eq {y : Str} {S : List Nat} (ey : TL.tl y = S) (h0 : S ≠ []) (hk : y.cps.all (· < 256) = true) (L : List Nat) : TL.joinL S (TL.spl S 0 [] L) = L := by
  have e1 := split_any ey h0 hk L
  have e2 := StrLaws.join_split (tx L) y
  have e3 := TL.tl_join y (Txt.split (tx L) y)
  rw [e2, e1, ey, List.map_map] at e3
  have e4 : (TL.spl S 0 [] L).map (TL.tl ∘ tx) = TL.spl S 0 [] L := List.map_id _
  rw [e4] at e3
  exact e3.symm
theorem joinL_mem {S : List Nat} : ∀ {ws : List (List Nat)} {w : List Nat}, w ∈ ws → w.length ≤ (TL.joinL S ws).length
  | [], _, h => by cases h
  | [x], w, h => by
    rw [List.mem_singleton.mp h]
    exact Nat.le_refl _
  | x :: y :: r, w, h => by
    have e : TL.joinL S (x :: y :: r) = x ++ (S ++ TL.joinL S (y :: r)) := rfl
    rw [e, List.length_append, List.length_append]
    rcases List.mem_cons.mp h with h | h
    · rw [h]; omega
    · have := joinL_mem (S := S) h
      omega
theorem joinL_count {S : List Nat} (hS : S ≠ []) : ∀ (ws : List (List Nat)), ws.length ≤ (TL.joinL S ws).length + 1
  | [] => Nat.zero_le _
  | [x] => by rw [List.length_singleton]; omega
  | x :: y :: r => by
    have e : TL.joinL S (x :: y :: r) = x ++ (S ++ TL.joinL S (y :: r)) := rfl
    have ih := joinL_count hS (y :: r)
    have := List.length_pos_iff.mpr hS
    rw [e, List.length_append, List.length_append]
    simp only [List.length_cons] at ih ⊢
    omega
theorem conds_len (c : Cla) : c.conds.length ≤ (claT c).length := by
  have := joinL_count (S := [32]) (by simp) (claW c)
  have e : (claW c).length = c.conds.length + 2 := by simp [claW]
  have e2 : (claT c).length = (TL.joinL [32] (claW c)).length := rfl
  omega
theorem spl_ne (S L : List Nat) : TL.spl S 0 [] L ≠ [] := by
  have key : ∀ (L : List Nat) (k : Nat) (acc : List Nat), TL.spl S k acc L ≠ [] := by
    intro L
    induction L with
    | nil => intro k acc; rw [TL.spl_nil]; simp
    | cons c L ih =>
      intro k acc
      cases k with
      | succ k => exact ih k acc
      | zero =>
        cases h : TL.pre S (c :: L) with
        | true => rw [TL.spl_hit h]; simp
        | false => rw [TL.spl_miss h]; exact ih 0 _
  exact key L 0 []
def semis (L : List Nat) : List (List Nat) := TL.spl [59, 32] 0 [] L
def blanks (L : List Nat) : List (List Nat) := TL.spl [32] 0 [] L
theorem semis_join (L : List Nat) : TL.joinL [59, 32] (semis L) = L := spl_join_eq tl_semi (by simp) (by decide +kernel) L
theorem blanks_join (L : List Nat) : TL.joinL [32] (blanks L) = L := spl_join_eq tl_space (by simp) (by decide +kernel) L
theorem semis_le {L w : List Nat} (h : w ∈ semis L) : w.length ≤ L.length := by
  have := joinL_mem (S := [59, 32]) h
  rwa [semis_join] at this
theorem blanks_le {L w : List Nat} (h : w ∈ blanks L) : w.length ≤ L.length := by
  have := joinL_mem (S := [32]) h
  rwa [blanks_join] at this
theorem isCl_of {L w0 wl : List Nat} {mid : List (List Nat)} (e : blanks L = w0 :: (mid ++ [wl])) (h0 : isWi w0) (hm : ∀ w ∈ mid, isCo w) (hl : isSt wl) : isCl L := by
  obtain ⟨o, ho, rfl⟩ := h0
  obtain ⟨s, hs, rfl⟩ := hl
  have key : ∀ mid : List (List Nat), (∀ w ∈ mid, isCo w) → ∃ cs : List Cond, mid = cs.map condT ∧ ∀ k ∈ cs, CondW k := by
    intro mid
    induction mid with
    | nil => exact fun _ => ⟨[], rfl, fun w m => by cases m⟩
    | cons c W ih =>
      intro h
      obtain ⟨o, ho, e⟩ := h c List.mem_cons_self
      obtain ⟨ws, e2, h2⟩ := ih fun d m => h d (List.mem_cons_of_mem _ m)
      refine ⟨o :: ws, by rw [e2, e]; rfl, fun w m => ?_⟩
      rcases List.mem_cons.mp m with m | m
      · rw [m]; exact ho
      · exact h2 w m
  obtain ⟨cs, rfl, hcs⟩ := key mid hm
  refine ⟨⟨o, cs, s⟩, ⟨ho, hcs, hs⟩, ?_⟩
  have := blanks_join L
  rw [e] at this
  exact this.symm
theorem isRu_of {L : List Nat} (h : ∀ w ∈ semis L, isCl w) : isRu L := by
  have key : ∀ mid : List (List Nat), (∀ w ∈ mid, isCl w) → ∃ cs : List Cla, mid = cs.map claT ∧ ∀ k ∈ cs, ClaW k := by
    intro mid
    induction mid with
    | nil => exact fun _ => ⟨[], rfl, fun w m => by cases m⟩
    | cons c W ih =>
      intro h
      obtain ⟨o, ho, e⟩ := h c List.mem_cons_self
      obtain ⟨ws, e2, h2⟩ := ih fun d m => h d (List.mem_cons_of_mem _ m)
      refine ⟨o :: ws, by rw [e2, e]; rfl, fun w m => ?_⟩
      rcases List.mem_cons.mp m with m | m
      · rw [m]; exact ho
      · exact h2 w m
  obtain ⟨cs, e, hcs⟩ := key _ h
  refine ⟨cs, hcs, ?_⟩
  have := semis_join L
  rw [e] at this
  exact this.symm
theorem isRu_nil : isRu [] := ⟨[], (fun c m => by cases m), rfl⟩
/-- the first of a list for which something is so -/
theorem first_of {α : Type} {p : α → Prop} : ∀ {l : List α}, (∃ x ∈ l, ¬ p x) → ∃ (j : Nat) (x : α), l[j]? = some x ∧ ¬ p x ∧ ∀ (i : Nat) (y : α), i < j → l[i]? = some y → p y
  | [], h => by obtain ⟨x, m, _⟩ := h; cases m
  | a :: l, h => by
    by_cases q : p a
    · obtain ⟨x, m, hx⟩ := h
      have : ∃ x ∈ l, ¬ p x := by
        rcases List.mem_cons.mp m with m | m
        · rw [m] at hx; exact absurd q hx
        · exact ⟨x, m, hx⟩
      obtain ⟨j, y, h1, h2, h3⟩ := first_of this
      refine ⟨j + 1, y, h1, h2, fun i z li hz => ?_⟩
      cases i with
      | zero => cases hz; exact q
      | succ i => exact h3 i z (by omega) hz
    · exact ⟨0, a, rfl, q, fun i z li _ => absurd li (Nat.not_lt_zero _)⟩
section
variable {P : Program} {w : World} {K : PySem.W.Frag} {mg : Str → Option Value} {base : Heap}
theorem rd_lcX {Wo : WX} {wi : TI} {g : TG} {te : XK → TE} {vs : List Nat} {σ : L2.St} {H : Hp} {Q : VK} (h : tLc wi g tYes (te fun cls d H' => Wo cls d σ H') vs σ H Q) : tLcX Wo wi g te vs σ H Q := h
def sp_stX (K : PySem.W.Frag) : Sp := fun vs H _ E => ∃ W : List Nat, vs = [.str (tx W)] ∧ W.length ≤ 900 ∧ ¬ isSt W ∧ E (.ref (He.ga K "NoRule")) none H
theorem okX_read_state (T : Env fa fn K mg) : Good P w K mg base (L2N.CX P w) 1 ("read_state", none) ["word"] (sp_stX K) := by
  refine good_mkX T 19 (d := d_read_state) (N := ["word"]) (ps := ["word"]) rfl rfl sc_read_state (fun _ _ _ _ _ _ us hl => match us, hl with | [_], _ => rfl) (fun vs H Q E h => ?_) (fun f cdv A outer s H vs Q E hr h => ?_)
  · obtain ⟨W, rfl, _⟩ := h; rfl
  · obtain ⟨W, rfl, hl, no, k⟩ := h
    refine ⟨_, (pss_cons (ps_if (PW.pt (pw_or (pt_cmpR op_ne (pe_callB call_len_str (by rfl) (T.free 15) (by decide +kernel) (pa_cons (pv 0) pa_nil)) pe_int (nomark _)) (pw_or1 (pt_cmpR op_notIn_sign (pv 0) (pe_gstr (T.str 14) rfl) rfl)))) (pss_one (ps_raiseT K rfl (T.exf (List.mem_of_getElem? (i := 0) rfl)) (T.glo 17) rfl (L2N.takes_of rfl rfl rfl rfl) rfl)) pss_nil)
      (pss_one (ps_ret (pe_callTy call_int_str (by rfl) (T.free 16) (by decide +kernel) (pa_cons (pv 0) pa_nil))))), ?_⟩
    walk_at "rd"
    refine ⟨_, rfl, small_len (by rw [len_tx]; omega), ?_⟩
    walk_at "rd"
    rw [len_tx]
    refine ite_nd (fun z => ?_) (fun z => ?_)
    · walk_at "rd"
      exact rd_raise k
    obtain ⟨c, rfl⟩ : ∃ c, W = [c] := by
      match W, z with
      | [c], _ => exact ⟨c, rfl⟩
      | [], z => simp at z
      | a :: b :: r, z => simp only [List.length_cons] at z; omega
    walk_at "rd"
    refine ⟨c, _, rfl, rfl, ?_⟩
    walk_at "rd"
    refine ite_nd (fun z2 => ?_) (fun z2 => ?_)
    · walk_at "rd"
      exact rd_raise k
    · exact absurd (isSt_iff.mpr ⟨c, rfl, states_iff.mp z2⟩) no
def sp_wiX (K : PySem.W.Frag) : Sp := fun vs H _ E => ∃ W : List Nat, vs = [.str (tx W)] ∧ W.length ≤ 900 ∧ ¬ isWi W ∧ E (.ref (He.ga K "NoRule")) none H
theorem okX_read_wish (T : Env fa fn K mg) : Good P w K mg base (L2N.CX P w) 2 ("read_wish", none) ["word"] (sp_wiX K) := by
  have GX_read_state := okX_read_state (P := P) (w := w) (base := base) T
  have G_read_state := ok_read_state (P := P) (w := w) (base := base) T
  refine good_mkX T 20 (d := d_read_wish) (N := ["word"]) (ps := ["word"]) rfl rfl sc_read_wish (fun _ _ _ _ _ _ us hl => match us, hl with | [_], _ => rfl) (fun vs H Q E h => ?_) (fun f cdv A outer s H vs Q E hr h => ?_)
  · obtain ⟨W, rfl, _⟩ := h; rfl
  · obtain ⟨W, rfl, hl, no, k⟩ := h
    refine ⟨_, (pss_cons (ps_if (pt_cmpR op_eq (pv 0) pe_str (nomark _)) (pss_one (ps_ret pe_non)) pss_nil)
      (pss_one (ps_ret (pe_or (pe_cgX K rfl (L2N.takes_of rfl rfl rfl rfl) GX_read_state (hr.mono (by decide)) (T.glo 18) (pa_cons (pv 0) pa_nil)) (pe_cgK K rfl G_read_state (hr.mono (by decide)) (T.glo 18) (pa_cons (pv 0) pa_nil)))))), ?_⟩
    walk_at "rd"
    refine ite_d (fun z => ?_) (fun z => ?_)
    · have e : W = [42] := by
        have e2 : (Str.ofString "*").cps.toList = [42] := by decide +kernel
        rw [← e2, ← z]
      exact absurd (isWi_iff.mpr (.inl e)) no
    · walk_at "rd"
      refine .inl ?_
      refine rd_callS ?_
      walk_at "rd"
      exact ⟨W, rfl, hl, fun e => no (isWi_iff.mpr (.inr e)), k⟩
def sp_nuX (K : PySem.W.Frag) : Sp := fun vs H _ E => ∃ W : List Nat, vs = [.str (tx W)] ∧ W.length ≤ 900 ∧ ¬ isNu W ∧ ∀ H', Same H H' → E (.ref (He.ga K "NoRule")) none H'
set_option maxHeartbeats 4000000 in
theorem okX_read_numbers (T : Env fa fn K mg) : Good P w K mg base (L2N.CX P w) 1 ("read_numbers", none) ["word"] (sp_nuX K) := by
  refine good_mkX T 21 (d := d_read_numbers) (N := ["word", "numbers", "sign", "number"]) (ps := ["word"]) rfl rfl sc_read_numbers (fun _ _ _ _ _ _ us hl => match us, hl with | [_], _ => rfl) (fun vs H Q E h => ?_) (fun f cdv A outer s H vs Q E hr h => ?_)
  · obtain ⟨W, rfl, _⟩ := h; rfl
  · obtain ⟨W, rfl, hl, no, k⟩ := h
    have hsz := sizeBig
    refine ⟨_, (pss_cons (ps_set (i := 1) sc_read_numbers.nd rfl (Or.inl rfl) (pe_lst pa_nil))
      (pss_cons (ps_for (passes_of rfl) rfl (pi_str (pv 0)) (pg_name (i := 2) sc_read_numbers.nd rfl (Or.inl rfl)) (pss_cons (ps_if (pt_cmpR op_notIn_sign (pv 2) (pe_gstr (T.str 19) rfl) rfl) (pss_one (ps_raiseT K rfl (T.exf (List.mem_of_getElem? (i := 0) rfl)) (T.glo 17) rfl (L2N.takes_of rfl rfl rfl rfl) rfl)) pss_nil)
      (pss_cons (ps_set (i := 3) sc_read_numbers.nd rfl (Or.inl rfl) (pe_callTy call_int_str (by rfl) (T.free 16) (by decide +kernel) (pa_cons (pv 2) pa_nil)))
      (pss_cons (ps_if (PW.pt (pw_and (pt_cmpR (op_neDK K rfl hr.units) (pv 1) (pe_lst pa_nil) (nomark _)) (pw_and1 (pt_cmpR op_le (pv 3) (pe_ix (ix_listK K rfl) (pv 1) (pe_un un_neg pe_int) (fun _ _ => rfl)) (nomark _))))) (pss_one (ps_raiseT K rfl (T.exf (List.mem_of_getElem? (i := 0) rfl)) (T.glo 17) rfl (L2N.takes_of rfl rfl rfl rfl) rfl)) pss_nil)
      (pss_one (ps_expr (pe_bm PySem.F.plainAttrs_list PySem.F.slot_list_append PySem.F.type_list_append mt_append (pv 1) (pa_cons (pv 3) pa_nil))))))))
      (pss_one (ps_ret (pv 1))))), ?_⟩
    walk_at "rd"
    refine rd_new (hn := by show 0 ≤ sizeLine; decide) fun p hp0 => ?_
    have s0 := same_upd (o := .lst []) hp0
    walk_at "rd"
    refine ⟨_, rfl, ?_⟩
    have eW : (tx W).cps.size = W.length := by show W.toArray.size = _; simp
    refine for_it (walk_str (z := tx W)) (fun i σ H' => Same H H' ∧ ∃ ns : List Int, H' p = some (.lst (ns.map V.int)) ∧ W.take i = numT ns ∧ (∀ n ∈ ns, 0 ≤ n ∧ n ≤ 8) ∧ ns.Pairwise (· < ·) ∧ ∃ x2 x3 : Option V, σ = [some (.str (tx W)), some (.ref p), x2, x3]) ⟨s0, [], upd_same, rfl, (fun n m => by cases m), .nil, none, none, rfl⟩ (fun _ _ _ _ _ => trivial) ?_ ?_
    · rintro i x σ Ha Hb hi ⟨s1, ns, h1, ht, hb, hp, x2, x3, rfl⟩ ⟨rfl, c, hc, rfl⟩
      have hi' : i < W.length := by omega
      have hc' : W[i]? = some c := by rw [← hc]; show _ = W.toArray[i]?; simp
      have hnl : ns.length = i := by
        have e := congrArg List.length ht
        unfold numT at e
        rw [List.length_take, List.length_map] at e
        omega
      walk_at "rd"
      refine ⟨c, _, rfl, rfl, ?_⟩
      walk_at "rd"
      refine ite_nd (fun z2 => ?_) (fun z2 => ?_)
      · walk_at "rd"
        exact rd_raise (k _ s1)
      obtain ⟨h48, h56⟩ := numbers_iff.mp z2
      obtain ⟨d, rfl⟩ : ∃ d : Nat, c = 48 + d := ⟨c - 48, by omega⟩
      walk_at "rd"
      refine ⟨_, _, rfl, sign_digit d (by omega), by show 1 ≤ 640; decide, ?_⟩
      walk_at "rd"
      refine rd_new (hn := by show 0 ≤ sizeLine; decide) fun pe hpe => ?_
      have se := same_upd (o := .lst []) hpe
      refine rd_neLI (ns := ns) (ms := []) (SqL.of (se _ _ h1)) (SqL.of upd_same) ?_
      have h1e := se _ _ h1
      have s1e := s1.trans se
      generalize upd Hb pe (.lst []) = H2 at *
      have fin : (∀ n ∈ ns, n < (d : Int)) → ∀ (x2 x3 : Option V), Same H (upd H2 p (.lst (ns.map V.int ++ [V.int (d : Int)]))) ∧ ∃ ns' : List Int, (upd H2 p (.lst (ns.map V.int ++ [V.int (d : Int)]))) p = some (.lst (ns'.map V.int)) ∧ W.take (i + 1) = numT ns' ∧ (∀ n ∈ ns', 0 ≤ n ∧ n ≤ 8) ∧ ns'.Pairwise (· < ·) ∧ ∃ y2 y3 : Option V, [some (V.str (tx W)), some (.ref p), x2, x3] = [some (V.str (tx W)), some (.ref p), y2, y3] := fun hlt x2 x3 => by
        refine ⟨Same.put2 s1e hp0, ns ++ [(d : Int)], by rw [upd_same, List.map_append]; rfl, ?_, fun n m => ?_, ?_, _, _, rfl⟩
        · rw [take_snoc hc', ht]
          unfold numT
          rw [List.map_append, List.map_cons, List.map_nil, Int.toNat_natCast]
        · rcases List.mem_append.mp m with m | m
          · exact hb n m
          · rw [List.mem_singleton.mp m]; omega
        · rw [List.pairwise_append]
          exact ⟨hp, List.pairwise_singleton _ _, fun a ma b mb => by rw [List.mem_singleton.mp mb]; exact hlt a ma⟩
      have hlen : (ns.map V.int).length < sizeLine := by rw [List.length_map]; omega
      rcases List.eq_nil_or_concat ns with rfl | ⟨ms, m, rfl⟩
      · rw [decide_eq_true rfl]
        walk_at "rd"
        refine rd_tyL h1e ?_
        walk_at "rd"
        refine rd_append h1e hlen ?_
        walk_at "rd"
        exact fin (fun n m => by cases m) _ _
      · rw [decide_eq_false (by simp)]
        walk_at "rd"
        refine rd_ixL (SqL.of h1e) (v := .int m) (by rw [List.concat_eq_append, List.map_append]; exact atI_last _ _) ?_
        walk_at "rd"
        refine ite_d (fun z3 => ?_) (fun z3 => ?_)
        · walk_at "rd"
          exact rd_raise (k _ s1e)
        walk_at "rd"
        refine rd_tyL h1e ?_
        walk_at "rd"
        refine rd_append h1e hlen ?_
        walk_at "rd"
        refine fin (fun n mn => ?_) _ _
        rw [List.concat_eq_append] at mn hp
        rcases List.mem_append.mp mn with mn | mn
        · have := (List.pairwise_append.mp hp).2.2 n mn m List.mem_cons_self
          omega
        · rw [List.mem_singleton.mp mn]; omega
    · rintro σ H' ⟨s1, ns, h1, ht, hb, hp, x2, x3, rfl⟩
      rw [eW, List.take_length] at ht
      exact absurd ⟨ns, ht, hb, hp⟩ no
def sp_coX (K : PySem.W.Frag) : Sp := fun vs H _ E => ∃ W : List Nat, vs = [.str (tx W)] ∧ W.length ≤ 900 ∧ ¬ isCo W ∧ ∀ H', Same H H' → E (.ref (He.ga K "NoRule")) none H'
set_option maxHeartbeats 4000000 in
theorem okX_read_condition (T : Env fa fn K mg) : Good P w K mg base (L2N.CX P w) 3 ("read_condition", none) ["word"] (sp_coX K) := by
  have GX_read_state := okX_read_state (P := P) (w := w) (base := base) T
  have G_read_state := ok_read_state (P := P) (w := w) (base := base) T
  have GX_read_wish := okX_read_wish (P := P) (w := w) (base := base) T
  have G_read_wish := ok_read_wish (P := P) (w := w) (base := base) T
  have GX_read_numbers := okX_read_numbers (P := P) (w := w) (base := base) T
  have G_read_numbers := ok_read_numbers (P := P) (w := w) (base := base) T
  have G_Amount_init := ok_amt_init (P := P) (w := w) (base := base) T
  have G_Places_init := ok_plc_init (P := P) (w := w) (base := base) T
  refine good_mkX T 22 (d := d_read_condition) (N := ["word", "sign"]) (ps := ["word"]) rfl rfl sc_read_condition (fun _ _ _ _ _ _ us hl => match us, hl with | [_], _ => rfl) (fun vs H Q E h => ?_) (fun f cdv A outer s H vs Q E hr h => ?_)
  · obtain ⟨W, rfl, _⟩ := h; rfl
  · obtain ⟨W, rfl, hl, no, k⟩ := h
    refine ⟨_, (pss_cons (ps_if (PW.pt (pw_and (pt_cmpR op_gt (pe_callB call_len_str (by rfl) (T.free 15) (by decide +kernel) (pa_cons (pv 0) pa_nil)) pe_int (nomark _)) (pw_and1 (pt_cmpR op_eq (pe_ix ix_str (pv 0) pe_int (fun _ _ => rfl)) pe_str (nomark _))))) (pss_one (ps_ret (pe_mkgK K rfl (T.mkr 20) G_Amount_init (hr.mono (by decide)) (T.glo 21) (pa_cons (pe_or (pe_cgX K rfl (L2N.takes_of rfl rfl rfl rfl) GX_read_state (hr.mono (by decide)) (T.glo 18) (pa_cons (pe_ix ix_str (pv 0) pe_int (fun _ _ => rfl)) pa_nil)) (pe_cgK K rfl G_read_state (hr.mono (by decide)) (T.glo 18) (pa_cons (pe_ix ix_str (pv 0) pe_int (fun _ _ => rfl)) pa_nil))) (pa_cons (pe_or (pe_cgX K rfl (L2N.takes_of rfl rfl rfl rfl) GX_read_numbers (hr.mono (by decide)) (T.glo 22) (pa_cons (pe_slice sl_str (pv 0) (po_some pe_int) po_none) pa_nil)) (pe_cgK K rfl G_read_numbers (hr.mono (by decide)) (T.glo 22) (pa_cons (pe_slice sl_str (pv 0) (po_some pe_int) po_none) pa_nil))) pa_nil))))) pss_nil)
      (pss_cons (ps_if (pt_cmpR op_ne (pe_callB call_len_str (by rfl) (T.free 15) (by decide +kernel) (pa_cons (pv 0) pa_nil)) pe_int (nomark _)) (pss_one (ps_raiseT K rfl (T.exf (List.mem_of_getElem? (i := 0) rfl)) (T.glo 17) rfl (L2N.takes_of rfl rfl rfl rfl) rfl)) pss_nil)
      (pss_one (ps_ret (pe_mkgK K rfl (T.mkr 23) G_Places_init (hr.mono (by decide)) (T.glo 24) (pa_cons (pe_lcX (own := [("sign", 1)]) (L2N.takes_of rfl rfl rfl rfl) rfl rfl rfl sc_read_condition.nd (pi_str (pv 0)) (blkOk_by (own := [("sign", 1)]) (N := ["word", "sign"]) (sc := defScope st_read_condition) (by decide +kernel)) (fun _ _ _ _ _ _ => by exact (pg_name (i := 1) sc_read_condition.nd rfl (Or.inl rfl))) (fun V xe s H C cl fp bx => by exact (pe_orK (pe_cgP K rfl bx GX_read_wish (hr.mono (by decide)) (T.glo 25) (pa_cons (pv 1) pa_nil)) (pe_cgK K rfl G_read_wish (hr.mono (by decide)) (T.glo 25) (pa_cons (pv 1) pa_nil))))) pa_nil)))))), ?_⟩
    have eW : (tx W).cps.size = W.length := by show W.toArray.size = _; simp
    walk_at "rd"
    refine ⟨_, rfl, small_len (by rw [len_tx]; omega), ?_⟩
    rw [len_tx]
    have noplc : W.length = 8 → ∃ (j : Nat) (c : Nat), W[j]? = some c ∧ ¬ isWi [c] ∧ ∀ (i d : Nat), i < j → W[i]? = some d → isWi [d] := fun h8 => by
      have ex : ∃ j : Nat, ∃ c : Nat, W[j]? = some c ∧ ¬ isWi [c] := Classical.byContradiction fun q => no (isCo_plc h8 fun c m => Classical.byContradiction fun z => by
        obtain ⟨j, hj⟩ := List.getElem?_of_mem m
        exact q ⟨j, c, hj, z⟩)
      have : ∀ n : Nat, (∃ j : Nat, j < n ∧ ∃ c : Nat, W[j]? = some c ∧ ¬ isWi [c]) → ∃ (j : Nat) (c : Nat), W[j]? = some c ∧ ¬ isWi [c] ∧ ∀ (i d : Nat), i < j → W[i]? = some d → isWi [d] := by
        intro n
        induction n with
        | zero => exact fun ⟨j, lt, _⟩ => absurd lt (Nat.not_lt_zero _)
        | succ n ih =>
          rintro ⟨j, lt, c, hj, hc⟩
          by_cases q : ∃ j : Nat, j < n ∧ ∃ c : Nat, W[j]? = some c ∧ ¬ isWi [c]
          · exact ih q
          · have : j = n := Classical.byContradiction fun z => q ⟨j, by omega, c, hj, hc⟩
            subst this
            exact ⟨j, c, hj, hc, fun i d li hd => Classical.byContradiction fun z => q ⟨i, li, d, hd, z⟩⟩
      obtain ⟨j, c, hj, hc⟩ := ex
      exact this (j + 1) ⟨j, by omega, c, hj, hc⟩
    walk_at "rd"
    refine ite_d (fun h2 => ?_) (fun h2 => ?_)
    rotate_left
    · walk_at "rd"
      refine ⟨_, rfl, small_len (by rw [len_tx]; omega), ?_⟩
      rw [len_tx]
      walk_at "rd"
      rw [decide_eq_false (show ¬ ((W.length : Nat) : Int) = 8 by omega)]
      walk_at "rd"
      exact rd_raise (k _ (Same.refl _))
    obtain ⟨a, b, R, rfl⟩ : ∃ a b R, W = a :: b :: R := by
      match W, h2 with
      | a :: b :: R, _ => exact ⟨a, b, R, rfl⟩
      | [a], h2 => simp at h2
      | [], h2 => simp at h2
    have R0 : R ≠ [] := fun z => by rw [z] at h2; simp at h2
    walk_at "rd"
    refine ⟨_, _, b, rfl, rfl, small_len (by rw [len_tx]; omega), atI_nat (j := 1) rfl, ?_⟩
    walk_at "rd"
    by_cases hb : b = 61
    · subst hb
      rw [decide_eq_true (show (⟨#[61]⟩ : Str) = Str.ofString "=" by decide +kernel)]
      walk_at "rd"
      refine rd_make ?_
      walk_at "rd"
      by_cases ha : isSt [a]
      rotate_left
      · refine .inl ?_
        refine rd_callS ?_
        walk_at "rd"
        refine ⟨_, _, a, rfl, rfl, small_len (by rw [len_tx]; omega), atI_nat (j := 0) rfl, ?_⟩
        exact ⟨[a], rfl, by simp, ha, k _ (Same.refl _)⟩
      refine .inr ?_
      walk_at "rd"
      refine ⟨_, _, a, rfl, rfl, small_len (by rw [len_tx]; omega), atI_nat (j := 0) rfl, ?_⟩
      obtain ⟨s, hs, es⟩ := id ha
      cases es
      refine ⟨s, rfl, hs, ?_⟩
      walk_at "rd"
      refine .inl ?_
      refine rd_callS ?_
      walk_at "rd"
      refine ⟨_, rfl, small_len (by rw [len_tx]; omega), ?_⟩
      rw [cut2]
      exact ⟨R, rfl, by simp only [List.length_cons] at hl; omega, fun z => no (isCo_amt ha z R0), k⟩
    · rw [decide_eq_false (eq_sign hb)]
      walk_at "rd"
      refine ⟨_, rfl, small_len (by rw [len_tx]; omega), ?_⟩
      rw [len_tx]
      walk_at "rd"
      refine ite_nd (fun z => ?_) (fun z => ?_)
      · walk_at "rd"
        exact rd_raise (k _ (Same.refl _))
      obtain ⟨j, c0, hj, hc0, hfirst⟩ := noplc (by omega)
      have hj8 : j < 8 := by
        have := (List.getElem?_eq_some_iff.mp hj).1
        omega
      clear noplc h2 R0 no
      generalize hW : a :: b :: R = W at *
      walk_at "rd"
      refine rd_make ?_
      walk_at "rd"
      refine rd_lcX ?_
      walk_at "rd"
      refine ⟨_, rfl, fun D hD => ?_⟩
      refine lc_it (walk_str (z := tx W)) (fun i H' => i ≤ j ∧ ∃ us : List V, us.length = i ∧ H' = upd H D (.lst us)) ⟨Nat.zero_le _, [], rfl, rfl⟩ (fun _ _ _ _ => trivial) ?_ ?_
      · rintro i x Ha Hb hi ⟨hij, us, ul, rfl⟩ ⟨rfl, c, hcc, rfl⟩
        have hc' : W[i]? = some c := by rw [← hcc]; show _ = W.toArray[i]?; simp
        walk_at "rd"
        refine ⟨rfl, ?_⟩
        walk_at "rd"
        rcases Nat.lt_or_ge i j with lt | ge
        · obtain ⟨o, ho, eo⟩ := hfirst i c lt hc'
          cases eo
          refine rd_ei (.inr ?_)
          walk_at "rd"
          refine ⟨o, rfl, ho, ?_⟩
          refine ⟨_, upd_same, small1000 (by rw [ul]; omega), lt, us ++ [optV o], by rw [List.length_append, ul]; rfl, by rw [upd_upd]⟩
        · have e : i = j := by omega
          subst e
          rw [hc'] at hj
          cases hj
          refine rd_ei (.inl ?_)
          refine rd_callS ?_
          walk_at "rd"
          exact ⟨[c0], rfl, by simp, hc0, k _ (same_upd hD)⟩
      · rintro H2 ⟨hij, us, ul, rfl⟩
        have := (List.getElem?_eq_some_iff.mp hj).1
        omega
def sp_clX (K : PySem.W.Frag) : Sp := fun vs H _ E => ∃ W : List Nat, vs = [.str (tx W)] ∧ W.length ≤ 900 ∧ ¬ isCl W ∧ ∀ H', Same H H' → E (.ref (He.ga K "NoRule")) none H'
set_option maxHeartbeats 8000000 in
theorem okX_read_clause (T : Env fa fn K mg) : Good P w K mg base (L2N.CX P w) 4 ("read_clause", none) ["part"] (sp_clX K) := by
  have GX_read_state := okX_read_state (P := P) (w := w) (base := base) T
  have G_read_state := ok_read_state (P := P) (w := w) (base := base) T
  have GX_read_wish := okX_read_wish (P := P) (w := w) (base := base) T
  have G_read_wish := ok_read_wish (P := P) (w := w) (base := base) T
  have GX_read_condition := okX_read_condition (P := P) (w := w) (base := base) T
  have G_read_condition := ok_read_condition (P := P) (w := w) (base := base) T
  have G_Clause_init := ok_cla_init (P := P) (w := w) (base := base) T
  refine good_mkX T 23 (d := d_read_clause) (N := ["part", "words", "conditions", "word"]) (ps := ["part"]) rfl rfl sc_read_clause (fun _ _ _ _ _ _ us hl => match us, hl with | [_], _ => rfl) (fun vs H Q E h => ?_) (fun f cdv A outer σ0 H vs Q E hr h => ?_)
  · obtain ⟨W, rfl, _⟩ := h; rfl
  · obtain ⟨W, rfl, hl, no, k⟩ := h
    refine ⟨_, (pss_cons (ps_set (i := 1) sc_read_clause.nd rfl (Or.inl rfl) (pe_split (pv 0) pe_str))
      (pss_cons (ps_if (pt_cmpR op_lt (pe_callB (call_lenK K rfl) (by rfl) (T.free 15) (by decide +kernel) (pa_cons (pv 1) pa_nil)) pe_int (nomark _)) (pss_one (ps_raiseT K rfl (T.exf (List.mem_of_getElem? (i := 0) rfl)) (T.glo 17) rfl (L2N.takes_of rfl rfl rfl rfl) rfl)) pss_nil)
      (pss_cons (ps_setLcX (i := 2) (own := [("word", 3)]) (L2N.takes_of rfl rfl rfl rfl) rfl rfl rfl sc_read_clause.nd rfl rfl (sw_true rfl rfl rfl (by decide +kernel)) (pi_listK K rfl (pe_slice (sl_listK K rfl) (pv 1) (po_some pe_int) (po_some (pe_un un_neg pe_int)))) (blkOk_by (own := [("word", 3)]) (N := ["part", "words", "conditions", "word"]) (sc := defScope st_read_clause) (by decide +kernel)) (fun _ _ _ _ _ _ => by exact (pg_name (i := 3) sc_read_clause.nd rfl (Or.inl rfl))) (fun V xe s H C cl fp bx => by exact (pe_orK (pe_cgP K rfl bx GX_read_condition (hr.mono (by decide)) (T.glo 26) (pa_cons (pv 3) pa_nil)) (pe_cgK K rfl G_read_condition (hr.mono (by decide)) (T.glo 26) (pa_cons (pv 3) pa_nil)))))
      (pss_one (ps_ret (pe_mkgK K rfl (T.mkr 27) G_Clause_init (hr.mono (by decide)) (T.glo 28) (pa_cons (pe_or (pe_cgX K rfl (L2N.takes_of rfl rfl rfl rfl) GX_read_wish (hr.mono (by decide)) (T.glo 25) (pa_cons (pe_ix (ix_listK K rfl) (pv 1) pe_int (fun _ _ => rfl)) pa_nil)) (pe_cgK K rfl G_read_wish (hr.mono (by decide)) (T.glo 25) (pa_cons (pe_ix (ix_listK K rfl) (pv 1) pe_int (fun _ _ => rfl)) pa_nil))) (pa_cons (pv 2) (pa_cons (pe_or (pe_cgX K rfl (L2N.takes_of rfl rfl rfl rfl) GX_read_state (hr.mono (by decide)) (T.glo 18) (pa_cons (pe_ix (ix_listK K rfl) (pv 1) (pe_un un_neg pe_int) (fun _ _ => rfl)) pa_nil)) (pe_cgK K rfl G_read_state (hr.mono (by decide)) (T.glo 18) (pa_cons (pe_ix (ix_listK K rfl) (pv 1) (pe_un un_neg pe_int) (fun _ _ => rfl)) pa_nil))) pa_nil))))))))), ?_⟩
    walk_at "rd"
    refine rd_m1 ?_
    walk_at "rd"
    refine rd_st ?_
    walk_at "rd"
    refine ⟨_, _, rfl, rfl, by decide +kernel, small_len (by rw [len_tx]; omega), fun pw hpw => ?_⟩
    rw [split_any tl_space (by simp) (by decide +kernel) W]
    have eB : TL.spl [32] 0 [] W = blanks W := rfl
    rw [eB]
    have hle : ∀ w ∈ blanks W, w.length ≤ 900 := fun w m => Nat.le_trans (blanks_le m) hl
    have hbl : (blanks W).length ≤ 901 := by
      have := joinL_count (S := [32]) (by simp) (blanks W)
      rw [blanks_join] at this
      omega
    have s1 := same_upd (o := .lst (((blanks W).map tx).map V.str)) hpw
    have L1 : (upd H pw (.lst (((blanks W).map tx).map V.str))) pw = some (.lst (((blanks W).map tx).map V.str)) := upd_same
    generalize upd H pw (.lst (((blanks W).map tx).map V.str)) = H1 at s1 L1 ⊢
    walk_at "rd"
    refine rd_len (SqL.of L1) ?_
    walk_at "rd"
    rw [List.length_map, List.length_map]
    refine ite_d (fun z => ?_) (fun z => ?_)
    · walk_at "rd"
      exact rd_raise (k _ s1)
    obtain ⟨w0, mid, wl, eS⟩ : ∃ w0 mid wl, blanks W = w0 :: (mid ++ [wl]) := by
      cases e : blanks W with
      | nil => rw [e] at z; simp at z
      | cons w0 r =>
        rcases List.eq_nil_or_concat r with rfl | ⟨m, b, rfl⟩
        · rw [e] at z; simp at z
        · exact ⟨w0, m, b, by rw [List.concat_eq_append]⟩
    have eM : ((blanks W).map tx).map V.str = V.str (tx w0) :: ((mid.map fun w => V.str (tx w)) ++ [V.str (tx wl)]) := by
      rw [eS]; simp [List.map_map, Function.comp_def]
    rw [eM] at L1
    have m0 : w0 ∈ blanks W := by rw [eS]; simp
    have ml : wl ∈ blanks W := by rw [eS]; simp
    have mm : ∀ w ∈ mid, w ∈ blanks W := fun w m => by rw [eS]; simp [m]
    have hmid : mid.length ≤ 900 := by rw [eS] at hbl; simp only [List.length_cons, List.length_append, List.length_nil] at hbl; omega
    walk_at "rd"
    refine rd_lcX ?_
    walk_at "rd"
    refine ⟨pw, _, rfl, SqL.of L1, fun p2 hp2 => ?_⟩
    rw [show ((-(1 : Int))) = -1 from rfl, cut_mid]
    have s2 := same_upd (o := .lst (mid.map fun w => V.str (tx w))) hp2
    have L2 : (upd H1 p2 (.lst (mid.map fun w => V.str (tx w)))) p2 = some (.lst (mid.map fun w => V.str (tx w))) := upd_same
    generalize upd H1 p2 (.lst (mid.map fun w => V.str (tx w))) = H2 at s2 L2 ⊢
    refine ⟨p2, rfl, ⟨_, SqL.of L2⟩, fun D hD => ?_⟩
    refine lc_it (walk_list (xs := mid.map fun w => V.str (tx w))) (fun i H' => Same H2 H' ∧ (∀ (j : Nat) w, j < i → mid[j]? = some w → isCo w) ∧ ∃ us : List V, H' D = some (.lst us) ∧ us.length = i) ⟨same_upd hD, (fun j w lt => absurd lt (Nat.not_lt_zero _)), [], upd_same, rfl⟩ (fun i H' _ h => SqL.of (h.1 _ _ L2)) ?_ ?_
    · rintro i x Ha Hb hi ⟨s3, hok, us, hus, ul⟩ ⟨rfl, hx⟩
      rw [List.length_map] at hi
      rw [List.getElem?_map, at_get hi] at hx
      cases hx
      have hw := at_get hi
      have hwm := mm _ (List.mem_of_getElem? hw)
      generalize mid[i] = wd at *
      walk_at "rd"
      refine ⟨rfl, ?_⟩
      walk_at "rd"
      by_cases hc : isCo wd
      · obtain ⟨c, hcw, rfl⟩ := id hc
        refine rd_ei (.inr ?_)
        walk_at "rd"
        refine ⟨c, rfl, hcw, fun H4 v s4 hv => ?_⟩
        refine ⟨us, s4 _ _ hus, by have := sizeBig; omega, Same.put2 (s3.trans s4) hD, fun j w lt hj => ?_, us ++ [v], upd_same, by rw [List.length_append, ul]; rfl⟩
        rcases Nat.lt_or_ge j i with l2 | g2
        · exact hok j w l2 hj
        · have e : j = i := by omega
          subst e
          rw [hw] at hj
          cases hj
          exact hc
      · refine rd_ei (.inl ?_)
        refine rd_callS ?_
        walk_at "rd"
        exact ⟨_, rfl, hle _ hwm, hc, fun H' s4 => k _ (((s1.trans s2).trans s3).trans s4)⟩
    · rintro H3 ⟨s3, hok, us, hus, ul⟩
      rw [List.length_map] at hok
      have L3 := s3 _ _ (s2 _ _ L1)
      have s03 := (s1.trans s2).trans s3
      have hall : ∀ w ∈ mid, isCo w := fun w m => by
        obtain ⟨j, hj⟩ := List.getElem?_of_mem m
        exact hok j w (List.getElem?_eq_some_iff.mp hj).1 hj
      walk_at "rd"
      refine rd_make ?_
      walk_at "rd"
      by_cases h0 : isWi w0
      rotate_left
      · refine .inl ?_
        refine rd_callS ?_
        walk_at "rd"
        refine rd_ixL (SqL.of L3) (v := V.str (tx w0)) (atI_nat (j := 0) rfl) ?_
        walk_at "rd"
        exact ⟨w0, rfl, hle _ m0, h0, k _ s03⟩
      refine .inr ?_
      obtain ⟨o, ho, eo⟩ := id h0
      walk_at "rd"
      refine rd_ixL (SqL.of L3) (v := V.str (tx w0)) (atI_nat (j := 0) rfl) ?_
      walk_at "rd"
      refine ⟨o, by rw [eo]; rfl, ho, ?_⟩
      walk_at "rd"
      refine .inl ?_
      refine rd_callS ?_
      walk_at "rd"
      refine rd_ixL (SqL.of L3) (v := V.str (tx wl)) (atI_last (_ :: _) _) ?_
      walk_at "rd"
      exact ⟨wl, rfl, hle _ ml, fun z => no (isCl_of eS h0 hall z), k _ s03⟩
def NoTx (H : Hp) (x : V) : Prop := (∃ i, x = .int i) ∨ x = .non ∨ ∃ p xs, x = .ref p ∧ H p = some (.lst xs)
def sp_ruX (K : PySem.W.Frag) : Sp := fun vs H _ E => ∃ x : V, vs = [x] ∧ ((NoTx H x ∧ E (.ref (He.ga K "NoRule")) none H) ∨ ∃ L : List Nat, x = .str (tx L) ∧ L.length ≤ 900 ∧ ((¬ isRu L ∧ ∀ H', Same H H' → E (.ref (He.ga K "NoRule")) none H') ∨ ∃ cs : List Cla, (∀ c ∈ cs, ClaW c) ∧ L = ruleT cs ∧ ruleMakes cs 0 eights ≠ 0 ∧ ∀ H', Same H H' → E (.ref (He.ga K "Restless")) none H'))
set_option maxHeartbeats 16000000 in
theorem okX_read_rule (T : Env fa fn K mg) : Good P w K mg base (L2N.CX P w) 5 ("read_rule", none) ["text"] (sp_ruX K) := by
  have GX_read_clause := okX_read_clause (P := P) (w := w) (base := base) T
  have G_read_clause := ok_read_clause (P := P) (w := w) (base := base) T
  have G_Rule_init := ok_rule_init (P := P) (w := w) (base := base) T
  have G_becomes := ok_becomes (P := P) (w := w) (base := base) T
  refine good_mkX T 24 (d := d_read_rule) (N := ["text", "clauses", "rule", "part"]) (ps := ["text"]) rfl rfl sc_read_rule (fun _ _ _ _ _ _ us hl => match us, hl with | [_], _ => rfl) (fun vs H Q E h => ?_) (fun f cdv A outer σ0 H vs Q E hr h => ?_)
  · obtain ⟨x, rfl, _⟩ := h; rfl
  · obtain ⟨x, rfl, h⟩ := h
    refine ⟨_, (pss_cons (ps_if (pt_not (pt_val (pe_callB (call_isiK K rfl) (by rfl) (T.free 29) (by decide +kernel) (pa_cons (pv 0) (pa_cons (pe_bltn (v := V.ty "str") rfl (T.free 1) (by decide +kernel) rfl) pa_nil))))) (pss_one (ps_raiseT K rfl (T.exf (List.mem_of_getElem? (i := 0) rfl)) (T.glo 17) rfl (L2N.takes_of rfl rfl rfl rfl) rfl)) pss_nil)
      (pss_cons (ps_set (i := 1) sc_read_rule.nd rfl (Or.inl rfl) (pe_lst pa_nil))
      (pss_cons (ps_if (pt_cmpR op_ne (pv 0) pe_str (nomark _)) (pss_one (ps_setLcX (i := 1) (own := [("part", 3)]) (L2N.takes_of rfl rfl rfl rfl) rfl rfl rfl sc_read_rule.nd rfl rfl (sw_true rfl rfl rfl (by decide +kernel)) (pi_listK K rfl (pe_split (pv 0) pe_str)) (blkOk_by (own := [("part", 3)]) (N := ["text", "clauses", "rule", "part"]) (sc := defScope st_read_rule) (by decide +kernel)) (fun _ _ _ _ _ _ => by exact (pg_name (i := 3) sc_read_rule.nd rfl (Or.inl rfl))) (fun V xe s H C cl fp bx => by exact (pe_orK (pe_cgP K rfl bx GX_read_clause (hr.mono (by decide)) (T.glo 30) (pa_cons (pv 3) pa_nil)) (pe_cgK K rfl G_read_clause (hr.mono (by decide)) (T.glo 30) (pa_cons (pv 3) pa_nil)))))) pss_nil)
      (pss_cons (ps_set (i := 2) sc_read_rule.nd rfl (Or.inl rfl) (pe_mkgK K rfl (T.mkr 31) G_Rule_init (hr.mono (by decide)) (T.glo 32) (pa_cons (pv 1) pa_nil)))
      (pss_cons (ps_if (pt_cmpR op_ne (pe_cgK K rfl G_becomes (hr.mono (by decide)) (T.glo 33) (pa_cons (pv 2) (pa_cons pe_int (pa_cons (pe_lst (pa_cons pe_int (pa_cons pe_int (pa_cons pe_int (pa_cons pe_int (pa_cons pe_int (pa_cons pe_int (pa_cons pe_int (pa_cons pe_int pa_nil))))))))) pa_nil)))) pe_int (nomark _)) (pss_one (ps_raiseT K rfl (T.exf (List.mem_of_getElem? (i := 1) rfl)) (T.glo 34) rfl (L2N.takes_of rfl rfl rfl rfl) rfl)) pss_nil)
      (pss_one (ps_ret (pv 2)))))))), ?_⟩
    rcases h with ⟨hx, kx⟩ | ⟨L, rfl, hl, h⟩
    · walk_at "rd"
      rcases hx with ⟨i, rfl⟩ | rfl | ⟨p, xs, rfl, hp⟩
      · refine isi_ty (.base (.int i)) (by decide +kernel : kitB "int" "str" = some false) ?_
        walk_at "rd"
        exact rd_raise kx
      · refine isi_ty (.base .non) (by decide +kernel : kitB "NoneType" "str" = some false) ?_
        walk_at "rd"
        exact rd_raise kx
      · refine isi_ty (.base (.lst hp)) (by decide +kernel : kitB "list" "str" = some false) ?_
        walk_at "rd"
        exact rd_raise kx
    have hsz := sizeBig
    have hL0 : L ≠ [] := fun z => by
      rcases h with ⟨no, _⟩ | ⟨cs, hw, e, hm, _⟩
      · exact no (by rw [z]; exact isRu_nil)
      · cases cs with
        | nil => exact hm rfl
        | cons c cs => exact joinL_pos (claT_pos c) _ (e.symm.trans z)
    have hne : ¬ (tx L = Str.ofString "") := fun e => by
      have e2 : (Str.ofString "").cps.toList = [] := by decide +kernel
      exact hL0 (by rw [← e2, ← e])
    walk_at "rd"
    refine isi_str ?_
    walk_at "rd"
    refine rd_new (hn := by show 0 ≤ sizeLine; decide) fun p0 hp0 => ?_
    have s0 := same_upd (o := .lst []) hp0
    generalize upd H p0 (.lst []) = H0 at s0 ⊢
    walk_at "rd"
    rw [decide_eq_false hne]
    walk_at "rd"
    refine rd_lcX ?_
    walk_at "rd"
    refine rd_m1 ?_
    walk_at "rd"
    refine rd_st ?_
    walk_at "rd"
    refine ⟨_, _, rfl, rfl, by decide +kernel, small_len16 (by rw [len_tx]; omega), fun pw hpw => ?_⟩
    rw [split_any tl_semi (by simp) (by decide +kernel) L]
    have eB : TL.spl [59, 32] 0 [] L = semis L := rfl
    rw [eB]
    have hle : ∀ w ∈ semis L, w.length ≤ 900 := fun w m => Nat.le_trans (semis_le m) hl
    have hbl : (semis L).length ≤ 901 := by
      have := joinL_count (S := [59, 32]) (by simp) (semis L)
      rw [semis_join] at this
      omega
    have eM : ((semis L).map tx).map V.str = (semis L).map fun w => V.str (tx w) := by simp only [List.map_map, Function.comp_def]
    rw [eM]
    have s2 := same_upd (o := .lst ((semis L).map fun w => V.str (tx w))) hpw
    have L2 : (upd H0 pw (.lst ((semis L).map fun w => V.str (tx w)))) pw = some (.lst ((semis L).map fun w => V.str (tx w))) := upd_same
    generalize upd H0 pw (.lst ((semis L).map fun w => V.str (tx w))) = H2 at s2 L2 ⊢
    have s02 := s0.trans s2
    refine ⟨pw, rfl, ⟨_, SqL.of L2⟩, fun D hD => ?_⟩
    rcases h with ⟨no, k⟩ | ⟨cs, hw, eL, hmk, k⟩
    · have hbad : ∃ w ∈ semis L, ¬ isCl w := Classical.byContradiction fun q => no (isRu_of fun w m => Classical.byContradiction fun z => q ⟨w, m, z⟩)
      obtain ⟨j, wb, hj, hwb, hgood⟩ := first_of hbad
      refine lc_it (walk_list (xs := (semis L).map fun w => V.str (tx w))) (fun i H' => Same H2 H' ∧ i ≤ j ∧ ∃ us : List V, H' D = some (.lst us) ∧ us.length = i) ⟨same_upd hD, Nat.zero_le _, [], upd_same, rfl⟩ (fun i H' _ h => SqL.of (h.1 _ _ L2)) ?_ ?_
      · rintro i x Ha Hb hi ⟨s3, hij, us, hus, ul⟩ ⟨rfl, hx⟩
        rw [List.length_map] at hi
        rw [List.getElem?_map, at_get hi] at hx
        cases hx
        have hwd := at_get hi
        have hwm := List.mem_of_getElem? hwd
        generalize (semis L)[i] = wd at *
        walk_at "rd"
        refine ⟨rfl, ?_⟩
        walk_at "rd"
        rcases Nat.lt_or_ge i j with lt | ge
        · obtain ⟨c, hcw, rfl⟩ := hgood i _ lt hwd
          have lc := hle _ hwm
          refine rd_ei (.inr ?_)
          walk_at "rd"
          refine ⟨c, rfl, hcw, by omega, by have := conds_len c; omega, fun H4 v s4 hv => ?_⟩
          exact ⟨us, s4 _ _ hus, by omega, Same.put2 (s3.trans s4) hD, lt, us ++ [v], upd_same, by rw [List.length_append, ul]; rfl⟩
        · have e : i = j := by omega
          subst e
          rw [hwd] at hj
          cases hj
          refine rd_ei (.inl ?_)
          refine rd_callS ?_
          walk_at "rd"
          exact ⟨_, rfl, hle _ hwm, hwb, fun H' s4 => k _ ((s02.trans s3).trans s4)⟩
      · rintro H3 ⟨s3, hij, us, hus, ul⟩
        rw [List.length_map] at hij
        have := (List.getElem?_eq_some_iff.mp hj).1
        omega
    · have hcs0 : cs ≠ [] := fun z => hmk (by rw [z]; rfl)
      have esm : semis L = cs.map claT := by
        have e := split_tx (y := Str.ofString "; ") tl_semi (by decide +kernel) (ws := cs.map claT) (by simpa using hcs0) fun w hw' => by
          obtain ⟨d, hd, rfl⟩ := List.mem_map.mp hw'
          exact no_semi (hw d hd)
        have e2 := split_any tl_semi (by simp) (by decide +kernel) L
        rw [eL] at e2
        have e3 : (TL.spl [59, 32] 0 [] (ruleT cs)).map tx = (cs.map claT).map tx := e2.symm.trans e
        have e4 := congrArg (List.map TL.tl) e3
        rw [List.map_map, List.map_map] at e4
        have id1 : ∀ l : List (List Nat), l.map (TL.tl ∘ tx) = l := fun l => List.map_id _
        rw [id1, id1] at e4
        rw [eL]
        exact e4
      have hmem : ∀ c ∈ cs, (claT c).length ≤ 900 := fun c m => hle _ (by rw [esm]; exact List.mem_map_of_mem m)
      have hcl : cs.length ≤ 901 := by rw [esm, List.length_map] at hbl; exact hbl
      rw [esm] at L2
      have eM2 : ((cs.map claT).map fun w => V.str (tx w)) = cs.map fun d => V.str (tx (claT d)) := by simp only [List.map_map, Function.comp_def]
      rw [eM2] at L2
      have sD := fun o => same_upd (o := o) hD
      refine lc_it (walk_list (xs := cs.map fun d => V.str (tx (claT d)))) (fun i H' => Same H2 H' ∧ ∃ us, H' D = some (.lst us) ∧ AllV (ClaAtN (fun b => b ≠ D) K H') us (cs.take i)) ⟨sD _, [], upd_same, trivial⟩ (fun i H' _ h => SqL.of (h.1 _ _ L2)) ?_ ?_
      · rintro i x Ha Hb hi ⟨s3, us, hus, hall⟩ ⟨rfl, hx⟩
        rw [List.length_map] at hi
        rw [List.getElem?_map, at_get hi] at hx
        cases hx
        have hk := at_get hi
        have hm := List.mem_of_getElem? hk
        generalize cs[i] = d at *
        have hd9 := hmem d hm
        walk_at "rd"
        refine ⟨rfl, ?_⟩
        walk_at "rd"
        refine rd_ei (.inr ?_)
        walk_at "rd"
        refine ⟨d, rfl, hw d hm, by omega, by have := conds_len d; omega, fun H4 v s4 hv => ?_⟩
        have hus4 := s4 _ _ hus
        have hv' : ClaAtN (fun b => b ≠ D) K H4 v d := hv.imp fun b hb z => by rw [z, hus] at hb; cases hb
        refine ⟨us, hus4, ?_, Same.put2 (s3.trans s4) hD, us ++ [v], upd_same, ?_⟩
        · have := hall.len
          rw [List.length_take] at this
          exact small1000 (by omega)
        · rw [take_snoc hk]
          exact ((hall.imp fun _ _ h => h.same s4).app hv').imp fun _ _ h => h.upd fun b hb => hb
      · rintro H3 ⟨s3, us, hus, hall⟩
        rw [List.length_map, List.take_length] at hall
        have hall2 : AllV (ClaAt K H3) us cs := hall.imp fun _ _ h => h.at
        have s03 := s02.trans s3
        walk_at "rd"
        refine rd_make ?_
        walk_at "rd"
        intro x dx hx hdx hne
        refine ⟨x, dx, D, rfl, upd_same, rfl, ?_⟩
        have s4 : Same H3 (upd (upd (upd H3 dx (.own x)) x (.ins (He.ga K "Rule") dx [])) x (.ins (He.ga K "Rule") dx [("clauses", .ref D)])) := Same.put2 (made_same2 hx hdx) hx
        have hat : RuleAt K (upd (upd (upd H3 dx (.own x)) x (.ins (He.ga K "Rule") dx [])) x (.ins (He.ga K "Rule") dx [("clauses", .ref D)])) (.ref x) cs := ⟨x, dx, D, us, rfl, upd_same, s4 _ _ hus, hall2.imp fun _ _ h => h.same s4⟩
        generalize upd (upd (upd H3 dx (.own x)) x (.ins (He.ga K "Rule") dx [])) x (.ins (He.ga K "Rule") dx [("clauses", .ref D)]) = H4 at s4 hat ⊢
        walk_at "rd"
        refine rd_new (hn := by show 8 ≤ sizeLine; decide) fun pz hpz => ?_
        have s5 := same_upd (o := .lst [V.int 0, V.int 0, V.int 0, V.int 0, V.int 0, V.int 0, V.int 0, V.int 0]) hpz
        walk_at "rd"
        refine ⟨_, pz, cs, 0, eights, rfl, hat.same s5, upd_same, rfl, (fun c hc k hk => ((hw c hc).2.1 k hk).ok), fun H6 s6 => ?_⟩
        walk_at "rd"
        rw [decide_eq_false hmk]
        walk_at "rd"
        exact rd_raise (k _ (((s03.trans s4).trans s5).trans s6))
end
end JF

/-! ### law k06 -/
namespace JF
open PySem PySem.Spec PyProof.Rows L2
end JF

/-! ### law k06: the law's own reader of rules -/
namespace JF
open PySem PySem.Spec PyProof.Rows L2
theorem cut_one (L : List Nat) : cutS (tx L) (some 1) (some 2) = tx ((L.drop 1).take 1) := by
  have e1 : HT.sIx (tx L).length 0 (some 1) = min 1 (tx L).length := HT.sIx_nat _ _ 1
  have e2 : HT.sIx (tx L).length (tx L).length (some 2) = min 2 (tx L).length := HT.sIx_nat _ _ 2
  refine TL.ext_tl ?_
  unfold cutS
  rw [e1, e2, len_tx]
  show (L.drop (min 1 L.length)).take (min 2 L.length - min 1 L.length) = (L.drop 1).take 1
  match L with
  | [] => rfl
  | [a] => rfl
  | a :: b :: r =>
    rw [Nat.min_eq_left (by simp), Nat.min_eq_left (by simp)]
def numD (W : List Nat) (z : Str) : Int := match W with
  | [c] => Txt.find z (tx [c])
  | _ => -1
theorem find_no {z : Str} {c : Nat} (h : c ∉ TL.tl z) : Txt.find z (tx [c]) = -1 := by
  have ne : TL.tl (tx [c]) ≠ [] := by show [c] ≠ []; simp
  rcases find_whole z (tx [c]) with ⟨e, _⟩ | ⟨i, e, hat, _⟩
  · exact e
  · have h1 := (TL.at_iff ne i).mp hat
    exfalso
    have h2 : TL.pre [c] ((TL.tl z).drop i) = true := h1
    cases e2 : (TL.tl z).drop i with
    | nil => rw [e2] at h2; cases h2
    | cons d r =>
      rw [e2] at h2
      by_cases q : d = c
      · exact h (q ▸ List.mem_of_mem_drop (i := i) (by rw [e2]; exact List.mem_cons_self))
      · rw [TL.pre_of_head [] r q] at h2
        cases h2
theorem find_st : ∀ d : Fin 8, Txt.find (Str.ofString "01234567") (tx [48 + d.val]) = (d.val : Int) := by decide +kernel
theorem find_wi : ∀ d : Fin 8, Txt.find (Str.ofString "01234567*") (tx [48 + d.val]) = (d.val : Int) := by decide +kernel
theorem find_nu : ∀ d : Fin 9, Txt.find (Str.ofString "012345678") (tx [48 + d.val]) = (d.val : Int) := by decide +kernel
theorem num_st {s : Int} (h : St s) : numD [48 + s.toNat] (Str.ofString "01234567") = s := by
  have := find_st ⟨s.toNat, by have := h.1; have := h.2; omega⟩
  show Txt.find _ _ = _
  rw [this]
  have := h.1
  show ((s.toNat : Nat) : Int) = s
  omega
theorem num_nst {W : List Nat} (h : ¬ isSt W) : numD W (Str.ofString "01234567") = -1 := by
  match W, h with
  | [], _ => rfl
  | [c], h => exact find_no fun m => h (isSt_iff.mpr ⟨c, rfl, states_iff.mp m⟩)
  | _ :: _ :: _, _ => rfl
theorem num_wi {o : Option Int} (h : WishW o) : numD [wishT o] (Str.ofString "01234567*") = takenN o := by
  cases o with
  | none => show Txt.find (Str.ofString "01234567*") (tx [42]) = 8; decide +kernel
  | some s =>
    have h' : St s := h
    have := find_wi ⟨s.toNat, by have := h'.1; have := h'.2; omega⟩
    show Txt.find _ _ = _
    rw [show wishT (some s) = 48 + s.toNat from rfl, this]
    have := h'.1
    show ((s.toNat : Nat) : Int) = s
    omega
theorem wis_iff {c : Nat} : c ∈ (Str.ofString "01234567*").cps.toList ↔ c = 42 ∨ (48 ≤ c ∧ c ≤ 55) := by
  have e : (Str.ofString "01234567*").cps.toList = [48, 49, 50, 51, 52, 53, 54, 55, 42] := by decide +kernel
  rw [e]
  simp only [List.mem_cons, List.not_mem_nil, or_false]
  omega
theorem num_nwi {W : List Nat} (h : ¬ isWi W) : numD W (Str.ofString "01234567*") = -1 := by
  match W, h with
  | [], _ => rfl
  | [c], h => exact find_no fun m => h (isWi_iff.mpr ((wis_iff.mp m).imp (fun e => by rw [e]) fun e => isSt_iff.mpr ⟨c, rfl, e⟩))
  | _ :: _ :: _, _ => rfl
/-- the number that a sign writes, or -1 -/
def nuF (c : Nat) : Int := Txt.find (Str.ofString "012345678") (tx [c])
theorem nuF_ok {n : Int} (h0 : 0 ≤ n) (h8 : n ≤ 8) : nuF (48 + n.toNat) = n := by
  have := find_nu ⟨n.toNat, by omega⟩
  unfold nuF
  rw [this]
  show ((n.toNat : Nat) : Int) = n
  omega
theorem nuF_inv {c : Nat} (h : 0 ≤ nuF c) : ∃ d : Nat, c = 48 + d ∧ d ≤ 8 ∧ nuF c = (d : Int) := by
  by_cases m : c ∈ TL.tl (Str.ofString "012345678")
  · obtain ⟨h1, h2⟩ := numbers_iff.mp m
    obtain ⟨d, rfl⟩ : ∃ d, c = 48 + d := ⟨c - 48, by omega⟩
    have := nuF_ok (n := (d : Int)) (by omega) (by omega)
    rw [Int.toNat_natCast] at this
    exact ⟨d, rfl, by omega, this⟩
  · have : nuF c = -1 := find_no m
    omega
/-- growing numbers -/
def growD (ns : List Int) : Prop := (∀ (k : Nat) (n : Int), ns[k]? = some n → 0 ≤ n) ∧ ∀ (k : Nat) (n m : Int), ns[k]? = some n → ns[k + 1]? = some m → n < m
theorem grow_pw : ∀ {ns : List Int}, (∀ (k : Nat) (n m : Int), ns[k]? = some n → ns[k + 1]? = some m → n < m) → ns.Pairwise (· < ·)
  | [], _ => .nil
  | [a], _ => List.pairwise_singleton _ _
  | a :: b :: r, h => by
    have ih : (b :: r).Pairwise (· < ·) := grow_pw fun k n m h1 h2 => h (k + 1) n m h1 h2
    refine List.pairwise_cons.mpr ⟨fun x m => ?_, ih⟩
    have hab := h 0 a b rfl rfl
    rcases List.mem_cons.mp m with m | m
    · rw [m]; exact hab
    · have := (List.pairwise_cons.mp ih).1 x m
      omega
theorem nu_back : ∀ {ns : List Int}, (∀ n ∈ ns, 0 ≤ n ∧ n ≤ 8) → (numT ns).map nuF = ns
  | [], _ => rfl
  | a :: l, h => by
    have ih := nu_back (ns := l) fun n m => h n (List.mem_cons_of_mem _ m)
    have := h a List.mem_cons_self
    show nuF (48 + a.toNat) :: (numT l).map nuF = _
    rw [ih, nuF_ok this.1 this.2]
theorem nu_forth : ∀ {R : List Nat}, (∀ c ∈ R, 0 ≤ nuF c) → R = numT (R.map nuF)
  | [], _ => rfl
  | a :: l, h => by
    have ih := nu_forth (R := l) fun n m => h n (List.mem_cons_of_mem _ m)
    obtain ⟨d, rfl, _, e⟩ := nuF_inv (h a List.mem_cons_self)
    show _ = (48 + (nuF (48 + d)).toNat) :: numT (l.map nuF)
    rw [e, Int.toNat_natCast, ← ih]
theorem grow_of {R : List Nat} (h : isNu R) : growD (R.map nuF) := by
  obtain ⟨ns, rfl, h1, h2⟩ := h
  rw [nu_back h1]
  refine ⟨fun k n hk => (h1 n (List.mem_of_getElem? hk)).1, fun k n m hn hm => ?_⟩
  obtain ⟨l1, e1⟩ := List.getElem?_eq_some_iff.mp hn
  obtain ⟨l2, e2⟩ := List.getElem?_eq_some_iff.mp hm
  rw [← e1, ← e2]
  exact (List.pairwise_iff_getElem.mp h2) k (k + 1) l1 l2 (by omega)
theorem nums_of {R : List Nat} (h : growD (R.map nuF)) : R = numT (R.map nuF) ∧ (∀ n ∈ R.map nuF, 0 ≤ n ∧ n ≤ 8) ∧ (R.map nuF).Pairwise (· < ·) := by
  obtain ⟨h1, h2⟩ := h
  have all : ∀ c ∈ R, 0 ≤ nuF c := fun c m => by
    obtain ⟨j, hj⟩ := List.getElem?_of_mem m
    exact h1 j (nuF c) (by rw [List.getElem?_map, hj]; rfl)
  refine ⟨nu_forth all, fun n m => ?_, grow_pw h2⟩
  obtain ⟨c, mc, rfl⟩ := List.mem_map.mp m
  obtain ⟨d, _, hd, e⟩ := nuF_inv (all c mc)
  omega
/-- a word that tells no condition, or the one it tells, by the law -/
theorem isRu_parts {L : List Nat} (h : isRu L) (h0 : L ≠ []) : ∀ w ∈ semis L, isCl w := by
  obtain ⟨cs, hw, e⟩ := h
  have hcs0 : cs ≠ [] := fun z => h0 (by rw [e, z]; rfl)
  have e1 := TL.spl_join (S := [32]) (s := 59) (parts := cs.map claT) (by simpa using hcs0) fun w hw' => by
    obtain ⟨d, hd, rfl⟩ := List.mem_map.mp hw'
    exact no_semi (hw d hd)
  intro w m
  have e2 : semis L = cs.map claT := by rw [e]; exact e1
  rw [e2] at m
  obtain ⟨c, mc, rfl⟩ := List.mem_map.mp m
  exact ⟨c, hw c mc, rfl⟩
theorem isCl_words {L : List Nat} (h : isCl L) : ∃ w0 mid wl, blanks L = w0 :: (mid ++ [wl]) ∧ isWi w0 ∧ (∀ w ∈ mid, isCo w) ∧ isSt wl := by
  obtain ⟨c, hc, e⟩ := h
  have e1 := TL.spl_join (S := []) (s := 32) (parts := claW c) (by simp [claW]) fun w hw => (claW_no hc w hw).1
  refine ⟨[wishT c.taken], c.conds.map condT, [48 + c.made.toNat], ?_, ⟨c.taken, hc.1, rfl⟩, fun w m => ?_, ⟨c.made, hc.2.2, rfl⟩⟩
  · rw [e]; exact e1
  · obtain ⟨k, hk, rfl⟩ := List.mem_map.mp m
    exact ⟨k, hc.2.1 k hk, rfl⟩
def wiF (c : Nat) : Int := numD [c] (Str.ofString "01234567*")
theorem wi_val {c : Nat} (h : 0 ≤ wiF c) : WishW (wishOf (wiF c)) ∧ c = wishT (wishOf (wiF c)) ∧ wiF c ≤ 8 := by
  by_cases q : isWi [c]
  · obtain ⟨o, ho, e⟩ := q
    have e1 : wiF c = takenN o := by unfold wiF; rw [e]; exact num_wi ho
    have e2 : wishOf (takenN o) = o := by
      cases o with
      | none => rfl
      | some s =>
        have h' : St s := ho
        show (if s = 8 then none else some s) = some s
        rw [if_neg (by have := h'.2; omega)]
    rw [e1, e2]
    refine ⟨ho, List.cons.inj e |>.1, ?_⟩
    cases o with
    | none => decide
    | some s => have h' : St s := ho; show s ≤ 8; have := h'.2; omega
  · have : wiF c = -1 := num_nwi q
    omega
theorem wi_no {c : Nat} (h : wiF c < 0) : ¬ isWi [c] := fun ⟨o, ho, e⟩ => by
  have e1 : wiF c = takenN o := by unfold wiF; rw [e]; exact num_wi ho
  cases o with
  | none => rw [e1] at h; exact absurd h (by decide)
  | some s =>
    have h' : St s := ho
    have e2 : takenN (some s) = s := rfl
    have := h'.1
    omega
theorem wi_map : ∀ {W : List Nat}, (∀ c ∈ W, 0 ≤ wiF c) → W = ((W.map wiF).map wishOf).map wishT
  | [], _ => rfl
  | c :: W, h => by
    have ih := wi_map (W := W) fun d m => h d (List.mem_cons_of_mem _ m)
    have := (wi_val (h c List.mem_cons_self)).2.1
    show c :: W = wishT (wishOf (wiF c)) :: ((W.map wiF).map wishOf).map wishT
    rw [← ih, ← this]
section
variable {P : Program} {w : World} {K : PySem.W.Frag} {mg : Str → Option Value} {base : Heap}
def sp_numL : Sp := fun vs H Q _ => ∃ (W : List Nat) (z : Str), vs = [.str (tx W), .str z] ∧ W.length ≤ 1000 ∧ Q (.int (numD W z)) H
theorem mp_numL : MonP sp_numL := fun vs H Q Q' E h ⟨W, z, x1, x2, q⟩ => ⟨W, z, x1, x2, h _ _ q⟩
theorem ok_numL (T : Env fa fn K mg) : Good P w K mg base CX0 1 ("_law_number", none) ["_law_sign", "_law_signs"] sp_numL := by
  refine good_mk T 37 (d := d_w_number) (N := ["_law_sign", "_law_signs"]) (ps := ["_law_sign", "_law_signs"]) rfl rfl sc_w_number (fun _ _ _ _ _ _ us hl => match us, hl with | [_, _], _ => rfl) (fun vs H Q E h => ?_) (fun f cdv A outer s H vs Q E hr h => ?_)
  · obtain ⟨W, z, rfl, _⟩ := h; rfl
  · obtain ⟨W, z, rfl, hl, q⟩ := h
    refine ⟨_, (pss_cons (ps_if (pt_cmpR op_ne (pe_callB call_len_str (by rfl) (T.free 15) (by decide +kernel) (pa_cons (pv 0) pa_nil)) pe_int (nomark _)) (pss_one (ps_ret (pe_un un_neg pe_int))) pss_nil)
      (pss_one (ps_ret (pe_m1 PySem.F.slot_str_find PySem.F.type_str_find mt_find (pv 1) (pv 0))))), ?_⟩
    walk_at "rd"
    refine ⟨_, rfl, small_len (by rw [len_tx]; omega), ?_⟩
    walk_at "rd"
    rw [len_tx]
    refine ite_nd (fun y => ?_) (fun y => ?_)
    · walk_at "rd"
      have e : numD W z = -1 := by
        match W, y with
        | [], _ => rfl
        | [c], y => exact absurd rfl y
        | _ :: _ :: _, _ => rfl
      rw [e] at q
      exact q
    · obtain ⟨c, rfl⟩ : ∃ c, W = [c] := by
        match W, y with
        | [c], _ => exact ⟨c, rfl⟩
        | [], y => simp at y
        | a :: b :: r, y => simp only [List.length_cons] at y; omega
      walk_at "rd"
      refine rd_m1 ?_
      walk_at "rd"
      refine rd_st ?_
      walk_at "rd"
      exact ⟨_, _, rfl, rfl, q⟩
/-- a condition read, or None -/
def CondIs (N : Addr → Prop) (H' : Hp) (W : List Nat) (v : V) : Prop := (∃ c, CondW c ∧ W = condT c ∧ LCondN N H' v c) ∨ (¬ isCo W ∧ v = .non)
def sp_condR : Sp := fun vs H Q _ => ∃ W : List Nat, vs = [.str (tx W)] ∧ W.length ≤ 900 ∧ ∀ H' v, Same H H' → CondIs (fun b => H b = none) H' W v → Q v H'
theorem mp_condR : MonP sp_condR := fun vs H Q Q' E h ⟨W, x1, x2, k⟩ => ⟨W, x1, x2, fun H' v a b => h _ _ (k H' v a b)⟩
set_option maxHeartbeats 8000000 in
theorem ok_condR (T : Env fa fn K mg) : Good P w K mg base CX0 2 ("_law_condition_read", none) ["_law_word_here"] sp_condR := by
  have G_w_number := ok_numL (P := P) (w := w) (base := base) T
  refine good_mk T 38 (d := d_w_condition_read) (N := ["_law_word_here", "_law_numbers", "_law_k", "_law_wanted", "_law_sign"]) (ps := ["_law_word_here"]) rfl rfl sc_w_condition_read (fun _ _ _ _ _ _ us hl => match us, hl with | [_], _ => rfl) (fun vs H Q E h => ?_) (fun f cdv A outer s H vs Q E hr h => ?_)
  · obtain ⟨W, rfl, _⟩ := h; rfl
  · obtain ⟨W, rfl, hl, k⟩ := h
    have hsz := sizeBig
    have eW : (tx W).cps.size = W.length := by show W.toArray.size = _; simp
    refine ⟨_, (pss_cons (ps_if (pt_cmpR op_eq (pe_slice sl_str (pv 0) (po_some pe_int) (po_some pe_int)) pe_str (nomark _)) (pss_cons (ps_setLc (i := 1) (own := [("_law_sign", 4)]) (tt := tYes) rfl sc_w_condition_read.nd rfl rfl (sw_true rfl rfl rfl (by decide +kernel)) (pi_str (pe_slice sl_str (pv 0) (po_some pe_int) po_none)) (blkOk_by (own := [("_law_sign", 4)]) (N := ["_law_word_here", "_law_numbers", "_law_k", "_law_wanted", "_law_sign"]) (sc := defScope st_w_condition_read) (by decide +kernel)) (fun _ _ _ _ _ => by exact (pg_name (i := 4) sc_w_condition_read.nd rfl (Or.inl rfl))) (fun _ _ _ _ _ => by exact pts_nil) (fun _ _ _ _ _ => by exact (pe_m1 PySem.F.slot_str_find PySem.F.type_str_find mt_find pe_str (pv 4))))
      (pss_cons (ps_for PassesOwn.never rfl (pi_range1 (by rfl) (T.free 37) (pa_cons (pe_callB (call_lenK K rfl) (by rfl) (T.free 15) (by decide +kernel) (pa_cons (pv 1) pa_nil)) pa_nil)) (pg_name (i := 2) sc_w_condition_read.nd rfl (Or.inl rfl)) (pss_one (ps_if (PW.pt (pw_or (pt_cmpR op_lt (pe_ix (ix_listK K rfl) (pv 1) (pv 2) (fun _ _ => rfl)) pe_int (nomark _)) (pw_or1 (PW.pt (pw_and (pt_cmpR op_gt (pv 2) pe_int (nomark _)) (pw_and1 (pt_cmpR op_le (pe_ix (ix_listK K rfl) (pv 1) (pv 2) (fun _ _ => rfl)) (pe_ix (ix_listK K rfl) (pv 1) (pe_op op_sub (pv 2) pe_int) (fun _ _ => rfl)) (nomark _)))))))) (pss_one (ps_ret pe_non)) pss_nil)))
      (pss_cons (ps_if (PW.pt (pw_or (pt_cmpR (op_eqDK K rfl hr.units) (pv 1) (pe_lst pa_nil) (nomark _)) (pw_or1 (pt_cmpR op_lt (pe_cgK K rfl G_w_number (hr.mono (by decide)) (T.glo 46) (pa_cons (pe_ix ix_str (pv 0) pe_int (fun _ _ => rfl)) (pa_cons pe_str pa_nil))) pe_int (nomark _))))) (pss_one (ps_ret pe_non)) pss_nil)
      (pss_one (ps_ret (pe_tup (pa_cons pe_str (pa_cons (pe_cgK K rfl G_w_number (hr.mono (by decide)) (T.glo 46) (pa_cons (pe_ix ix_str (pv 0) pe_int (fun _ _ => rfl)) (pa_cons pe_str pa_nil))) (pa_cons (pv 1) pa_nil))))))))) pss_nil)
      (pss_cons (ps_setLc (i := 3) (own := [("_law_sign", 4)]) (tt := tYes) rfl sc_w_condition_read.nd rfl rfl (sw_true rfl rfl rfl (by decide +kernel)) (pi_str (pv 0)) (blkOk_by (own := [("_law_sign", 4)]) (N := ["_law_word_here", "_law_numbers", "_law_k", "_law_wanted", "_law_sign"]) (sc := defScope st_w_condition_read) (by decide +kernel)) (fun _ _ _ _ _ => by exact (pg_name (i := 4) sc_w_condition_read.nd rfl (Or.inl rfl))) (fun _ _ _ _ _ => by exact pts_nil) (fun _ _ _ _ _ => by exact (pe_cgK K rfl G_w_number (hr.mono (by decide)) (T.glo 46) (pa_cons (pv 4) (pa_cons pe_str pa_nil)))))
      (pss_cons (ps_if (PW.pt (pw_or (pt_cmpR op_ne (pe_callB (call_lenK K rfl) (by rfl) (T.free 15) (by decide +kernel) (pa_cons (pv 3) pa_nil)) pe_int (nomark _)) (pw_or1 (pt_cmpR op_lt (pe_callB (cr_minK K rfl rfl) (by rfl) (T.free 47) (by decide +kernel) (pa_cons (pv 3) pa_nil)) pe_int (nomark _))))) (pss_one (ps_ret pe_non)) pss_nil)
      (pss_one (ps_ret (pe_tup (pa_cons pe_str (pa_cons (pv 3) pa_nil)))))))), ?_⟩
    walk_at "rd"
    refine ⟨_, rfl, small_len (by rw [len_tx]; omega), ?_⟩
    rw [cut_one]
    walk_at "rd"
    by_cases hA : ∃ a R, W = a :: 61 :: R
    · obtain ⟨a, R, rfl⟩ := hA
      rw [decide_eq_true (show tx (((a :: 61 :: R).drop 1).take 1) = Str.ofString "=" from show (⟨#[61]⟩ : Str) = Str.ofString "=" by decide +kernel)]
      have hl2 : R.length ≤ 898 := by simp only [List.length_cons] at hl; omega
      have eR : (tx R).cps.size = R.length := by show R.toArray.size = _; simp
      walk_at "rd"
      refine ⟨_, rfl, small_len (by rw [len_tx]; omega), ?_⟩
      rw [cut2]
      refine ⟨_, rfl, fun D hD => ?_⟩
      refine lc_it (walk_str (z := tx R)) (fun i H' => H' = upd H D (.lst (((R.map nuF).take i).map V.int))) rfl (fun _ _ _ _ => trivial) ?_ ?_
      · rintro i x Ha Hb hi rfl ⟨rfl, c, hcc, rfl⟩
        have hc' : R[i]? = some c := by rw [← hcc]; show _ = R.toArray[i]?; simp
        walk_at "rd"
        refine ⟨rfl, ?_⟩
        walk_at "rd"
        refine rd_m1 ?_
        walk_at "rd"
        refine rd_st ?_
        walk_at "rd"
        refine ⟨_, _, rfl, rfl, ?_⟩
        refine ⟨_, upd_same, ?_, ?_⟩
        · rw [List.length_map, List.length_take, List.length_map]; exact small1000 (by omega)
        · have e : (R.map nuF)[i]? = some (nuF c) := by rw [List.getElem?_map, hc']; rfl
          rw [upd_upd, take_snoc e, List.map_append]; rfl
      rintro H1 rfl
      rw [eR, show (R.map nuF).take R.length = R.map nuF from List.take_of_length_le (by rw [List.length_map]; exact Nat.le_refl _)]
      obtain ⟨ns, hns⟩ : ∃ ns, ns = R.map nuF := ⟨_, rfl⟩
      rw [← hns]
      have nl : ns.length = R.length := by rw [hns, List.length_map]
      have s1 := same_upd (o := HO.lst (ns.map V.int)) hD
      have L1 : (upd H D (HO.lst (ns.map V.int))) D = some (.lst (ns.map V.int)) := upd_same
      generalize upd H D (HO.lst (ns.map V.int)) = H1 at *
      have noC : ¬ (isSt [a] ∧ growD ns ∧ R ≠ []) → ¬ isCo (a :: 61 :: R) := fun z h => by
        rcases isCo_inv h with ⟨a', R', e, h1, h2, h3⟩ | ⟨_, h2⟩
        · cases e
          exact z ⟨h1, hns ▸ grow_of h2, h3⟩
        · have := isWi_iff.mp (h2 61 (by simp))
          rcases this with e | e
          · cases e
          · obtain ⟨c, e, _, h⟩ := isSt_iff.mp e
            cases e
            omega
      walk_at "rd"
      refine rd_len (SqL.of L1) ?_
      walk_at "rd"
      rw [List.length_map]
      refine ⟨(ns.length : Int), rfl, by omega, by omega, ?_⟩
      rw [Int.toNat_natCast]
      refine for_it (walk_r0 (n := ns.length)) (fun i σ H' => H' = H1 ∧ (∀ (j : Nat) n, j < i → ns[j]? = some n → 0 ≤ n) ∧ (∀ (j : Nat) n m, j + 1 < i → ns[j]? = some n → ns[j + 1]? = some m → n < m) ∧ ∃ x2 : Option V, σ = [some (.str (tx (a :: 61 :: R))), some (.ref D), x2, none, none]) ⟨rfl, (fun j n lt => absurd lt (Nat.not_lt_zero _)), (fun j n m lt => absurd lt (Nat.not_lt_zero _)), none, rfl⟩ (fun _ _ _ _ _ => trivial) ?_ ?_
      · rintro i v σ Ha Hb hi ⟨rfl, g1, g2, x2, rfl⟩ ⟨rfl, rfl⟩
        have hni := at_get hi
        have hat : atI (ns.map V.int) (i : Int) = some (.int ns[i]) := atI_nat (by rw [List.getElem?_map, hni]; rfl)
        generalize ns[i] = n at *
        walk_at "rd"
        refine rd_ixL (SqL.of L1) hat ?_
        walk_at "rd"
        refine ite_d (fun c1 => ?_) (fun c1 => ?_)
        · walk_at "rd"
          refine k Hb .non s1 (.inr ⟨noC fun z => ?_, rfl⟩)
          have := z.2.1.1 i n hni
          omega
        have fin : (∀ m, (j : Nat) → j + 1 = i → ns[j]? = some m → m < n) → (Hb = Hb ∧ (∀ (j : Nat) n, j < i + 1 → ns[j]? = some n → 0 ≤ n) ∧ (∀ (j : Nat) n m, j + 1 < i + 1 → ns[j]? = some n → ns[j + 1]? = some m → n < m) ∧ ∃ y2 : Option V, [some (V.str (tx (a :: 61 :: R))), some (.ref D), some (.int (i : Int)), none, none] = [some (V.str (tx (a :: 61 :: R))), some (.ref D), y2, none, none]) := fun hlt => by
          refine ⟨rfl, fun j n' lt hj => ?_, fun j n' m lt hj hm => ?_, _, rfl⟩
          · rcases Nat.lt_or_ge j i with l | g
            · exact g1 j n' l hj
            · have : j = i := by omega
              subst this
              rw [hni] at hj; cases hj; omega
          · rcases Nat.lt_or_ge (j + 1) i with l | g
            · exact g2 j n' m l hj hm
            · have : j + 1 = i := by omega
              subst this
              rw [hni] at hm; cases hm
              exact hlt n' j rfl hj
        walk_at "rd"
        refine ite_d (fun c2 => ?_) (fun c2 => ?_)
        · obtain ⟨j, rfl⟩ : ∃ j, i = j + 1 := ⟨i - 1, by omega⟩
          have hj := at_get (show j < ns.length by omega)
          have hatj : atI (ns.map V.int) (((j + 1 : Nat) : Int) - 1) = some (.int ns[j]) := by
            rw [show ((j + 1 : Nat) : Int) - 1 = (j : Int) by omega]
            exact atI_nat (by rw [List.getElem?_map, hj]; rfl)
          generalize ns[j] = m at *
          walk_at "rd"
          refine rd_ixL (SqL.of L1) hat ?_
          walk_at "rd"
          refine rd_ixL (SqL.of L1) hatj ?_
          walk_at "rd"
          refine ite_d (fun c3 => ?_) (fun c3 => ?_)
          · walk_at "rd"
            refine k Hb .non s1 (.inr ⟨noC fun z => ?_, rfl⟩)
            have := z.2.1.2 j m n hj hni
            omega
          · walk_at "rd"
            refine fin fun m' j' e hj' => ?_
            have : j' = j := by omega
            subst this
            rw [hj] at hj'; cases hj'
            omega
        · walk_at "rd"
          exact fin fun m' j' e hj' => by omega
      rintro σ H2 ⟨rfl, g1, g2, x2, rfl⟩
      have hg : growD ns := ⟨fun j n hj => g1 j n (List.getElem?_eq_some_iff.mp hj).1 hj, fun j n m hj hm => g2 j n m (List.getElem?_eq_some_iff.mp hm).1 hj hm⟩
      walk_at "rd"
      refine rd_new (hn := by show 0 ≤ sizeLine; decide) fun pe hpe => ?_
      have se := same_upd (o := .lst []) hpe
      have h1e := se _ _ L1
      have s1e := s1.trans se
      refine rd_eqLI (ns := ns) (ms := []) (SqL.of h1e) (SqL.of upd_same) ?_
      generalize upd H2 pe (.lst []) = H3 at *
      walk_at "rd"
      refine ite_d (fun c1 => ?_) (fun c1 => ?_)
      · walk_at "rd"
        refine k H3 .non s1e (.inr ⟨noC fun z => z.2.2 ?_, rfl⟩)
        rw [c1] at nl
        exact List.eq_nil_of_length_eq_zero nl.symm
      have R0 : R ≠ [] := fun z => c1 (by rw [hns, z]; rfl)
      walk_at "rd"
      refine ⟨_, _, a, rfl, rfl, small_len (by rw [len_tx]; omega), atI_nat (j := 0) rfl, ?_⟩
      walk_at "rd"
      refine ⟨[a], _, rfl, by simp, ?_⟩
      walk_at "rd"
      by_cases ha : isSt [a]
      rotate_left
      · rw [num_nst ha, decide_eq_true (by decide)]
        walk_at "rd"
        exact k H3 .non s1e (.inr ⟨noC fun z => ha z.1, rfl⟩)
      obtain ⟨s0, hs0, es⟩ := id ha
      cases es
      rw [num_st hs0, decide_eq_false (by have := hs0.1; omega)]
      walk_at "rd"
      refine ⟨_, _, _, rfl, rfl, small_len (by rw [len_tx]; omega), atI_nat (j := 0) rfl, ?_⟩
      walk_at "rd"
      refine ⟨[48 + s0.toNat], _, rfl, by simp, ?_⟩
      rw [num_st hs0]
      walk_at "rd"
      refine rd_new (hn := by show 3 ≤ sizeLine; decide) fun t ht => ?_
      have st := same_upd (o := HO.tup [V.str (Str.ofString "amount"), V.int s0, V.ref D]) ht
      obtain ⟨e1, e2, e3⟩ := nums_of (R := R) (by rw [← hns]; exact hg)
      rw [← hns] at e1 e2 e3
      refine k _ _ (s1e.trans st) (.inl ⟨.amt s0 ns, ⟨hs0, c1, e2, e3⟩, ?_, t, D, rfl, upd_same, st _ _ h1e, hD⟩)
      show _ = (48 + s0.toNat) :: 61 :: numT ns
      rw [← e1]
    · have hne : ¬ tx ((W.drop 1).take 1) = Str.ofString "=" := fun e => by
        have e2 : (Str.ofString "=").cps.toList = [61] := by decide +kernel
        have e1 : (W.drop 1).take 1 = [61] := by rw [← e2, ← e]
        match W, e1 with
        | [], e1 => cases e1
        | [b], e1 => cases e1
        | b :: c :: r, e1 =>
          cases e1
          exact hA ⟨b, r, rfl⟩
      rw [decide_eq_false hne]
      walk_at "rd"
      refine ⟨_, rfl, fun D hD => ?_⟩
      refine lc_it (walk_str (z := tx W)) (fun i H' => H' = upd H D (.lst (((W.map wiF).take i).map V.int))) rfl (fun _ _ _ _ => trivial) ?_ ?_
      · rintro i x Ha Hb hi rfl ⟨rfl, c, hcc, rfl⟩
        have hc' : W[i]? = some c := by rw [← hcc]; show _ = W.toArray[i]?; simp
        walk_at "rd"
        refine ⟨rfl, ?_⟩
        walk_at "rd"
        refine ⟨[c], _, rfl, by simp, ?_⟩
        refine ⟨_, upd_same, ?_, ?_⟩
        · rw [List.length_map, List.length_take, List.length_map]; exact small1000 (by omega)
        · have e : (W.map wiF)[i]? = some (wiF c) := by rw [List.getElem?_map, hc']; rfl
          rw [upd_upd, take_snoc e, List.map_append]; rfl
      rintro H1 rfl
      rw [eW, show (W.map wiF).take W.length = W.map wiF from List.take_of_length_le (by rw [List.length_map]; exact Nat.le_refl _)]
      have s1 := same_upd (o := HO.lst ((W.map wiF).map V.int)) hD
      have L1 : (upd H D (HO.lst ((W.map wiF).map V.int))) D = some (.lst ((W.map wiF).map V.int)) := upd_same
      generalize upd H D (HO.lst ((W.map wiF).map V.int)) = H1 at *
      have noC : ¬ (W.length = 8 ∧ ∀ c ∈ W, isWi [c]) → ¬ isCo W := fun z h => by
        rcases isCo_inv h with ⟨a', R', e, _⟩ | h
        · exact hA ⟨a', R', e⟩
        · exact z h
      walk_at "rd"
      refine rd_len (SqL.of L1) ?_
      walk_at "rd"
      rw [List.length_map, List.length_map]
      refine ite_nd (fun c1 => ?_) (fun c1 => ?_)
      · walk_at "rd"
        exact k H1 .non s1 (.inr ⟨noC fun z => c1 (by rw [z.1]; rfl), rfl⟩)
      have h8 : W.length = 8 := by omega
      walk_at "rd"
      refine ⟨D, W.map wiF, rfl, SqL.of L1, by rw [List.length_map]; omega, fun m hm hle => ?_⟩
      walk_at "rd"
      refine ite_d (fun c2 => ?_) (fun c2 => ?_)
      · walk_at "rd"
        refine k H1 .non s1 (.inr ⟨noC fun z => ?_, rfl⟩)
        obtain ⟨c, mc, rfl⟩ := List.mem_map.mp hm
        exact wi_no c2 (z.2 c mc)
      · have all : ∀ c ∈ W, 0 ≤ wiF c := fun c mc => by
          have := hle (wiF c) (List.mem_map_of_mem mc)
          omega
        walk_at "rd"
        refine rd_new (hn := by show 2 ≤ sizeLine; decide) fun t ht => ?_
        have st := same_upd (o := HO.tup [V.str (Str.ofString "places"), V.ref D]) ht
        refine k _ _ (s1.trans st) (.inl ⟨.plc ((W.map wiF).map wishOf), ⟨by rw [List.length_map, List.length_map]; exact h8, fun w mw => ?_⟩, wi_map all, t, D, W.map wiF, rfl, upd_same, st _ _ L1, hD, rfl, fun w mw => ?_⟩)
        · obtain ⟨n, mn, rfl⟩ := List.mem_map.mp mw
          obtain ⟨c, mc, rfl⟩ := List.mem_map.mp mn
          exact (wi_val (all c mc)).1
        · obtain ⟨c, mc, rfl⟩ := List.mem_map.mp mw
          exact ⟨all c mc, (wi_val (all c mc)).2.2⟩
/-! #### conditions and None, as data -/
def cdat : Option Cond → List Int → PyData
  | none, _ => .none
  | some (.amt s ns), _ => .tuple [.str "amount", .int s, .list (ns.map PyData.int)]
  | some (.plc _), wv => .tuple [.str "places", .list (wv.map PyData.int)]
theorem cond_dp {N : Addr → Prop} {H : Hp} {v : V} {c : Cond} (h : LCondN N H v c) : ∃ wv, Dp K H v (cdat (some c) wv) := by
  cases c with
  | amt s ns =>
    obtain ⟨t, l, rfl, h1, h2, _⟩ := h
    exact ⟨[], .tup (SqT.of h1) (.cons (.str _) (.cons (.int _) (.cons (.lst (SqL.of h2) dp_ints) .nil)))⟩
  | plc ws =>
    obtain ⟨t, l, wv, rfl, h1, h2, _⟩ := h
    exact ⟨wv, .tup (SqT.of h1) (.cons (.str _) (.cons (.lst (SqL.of h2) dp_ints) .nil))⟩
theorem cdat_lay (o : Option Cond) (wv : List Int) : (cdat o wv).canLay0 = true ∧ (cdat o wv).depth ≤ 3 := by
  have hz : PyData.strOk "amount" = true := by decide +kernel
  have hz2 : PyData.strOk "places" = true := by decide +kernel
  match o with
  | none => exact ⟨by simp [cdat, PyData.canLay0], by simp [cdat, PyData.depth]⟩
  | some (.amt s ns) =>
    have h1 := lay_ints ns
    have h2 := depth_ints ns
    refine ⟨by simp [cdat, PyData.canLay0, PyData.canLayAll0, hz, h1], ?_⟩
    simp only [cdat, PyData.depth, PyData.depthAll]
    omega
  | some (.plc _) =>
    have h1 := lay_ints wv
    have h2 := depth_ints wv
    refine ⟨by simp [cdat, PyData.canLay0, PyData.canLayAll0, hz2, h1], ?_⟩
    simp only [cdat, PyData.depth, PyData.depthAll]
    omega
theorem list_shaped : ∀ {ds : List PyData}, (∀ d ∈ ds, d.canLay0 = true ∧ d.depth ≤ 3) → PyData.canLayAll0 ds = true ∧ PyData.depthAll ds ≤ 3
  | [], _ => ⟨by simp [PyData.canLayAll0], by simp [PyData.depthAll]⟩
  | d :: ds, h => by
    obtain ⟨a1, a2⟩ := h d List.mem_cons_self
    obtain ⟨b1, b2⟩ := list_shaped fun e m => h e (List.mem_cons_of_mem _ m)
    refine ⟨by simp [PyData.canLayAll0, a1, b1], ?_⟩
    simp only [PyData.depthAll]
    omega
theorem list_shaped' {ds : List PyData} (h : ∀ d ∈ ds, d.canLay0 = true ∧ d.depth ≤ 3) : SeqAt.shaped (.list ds) = true := by
  obtain ⟨h1, h2⟩ := list_shaped h
  unfold SeqAt.shaped
  rw [decide_eq_true (by simp only [PyData.depth]; omega), Bool.and_true]
  simp only [PyData.canLay0, h1]
theorem eqv_cdat (o : Option Cond) (wv : List Int) : PyData.eqv (cdat o wv) .none = decide (o = none) := by
  match o with
  | none => simp [cdat, PyData.eqv]
  | some (.amt s ns) => simp [cdat, PyData.eqv]
  | some (.plc _) => simp [cdat, PyData.eqv]
end
end JF

/-! ### law k06: clauses read by the law -/
namespace JF
open PySem PySem.Spec PyProof.Rows L2
theorem CondIs.same {N : Addr → Prop} {H H' : Hp} {W : List Nat} {v : V} (h : CondIs N H W v) (s : Same H H') : CondIs N H' W v :=
  h.imp (fun ⟨c, a, b, d⟩ => ⟨c, a, b, d.same s⟩) id
theorem CondIs.imp {N N' : Addr → Prop} {H : Hp} {W : List Nat} {v : V} (h : CondIs N H W v) (k : ∀ b, N b → N' b) : CondIs N' H W v :=
  Or.imp (fun ⟨c, a, b, d⟩ => ⟨c, a, b, d.imp k⟩) id h
theorem CondIs.upd {N : Addr → Prop} {H : Hp} {W : List Nat} {v : V} {D : Addr} {o : HO} {xs : List V} (h : CondIs N H W v) (hD : H D = some (.lst xs)) (k : ∀ b, N b → b ≠ D) : CondIs N (L2.upd H D o) W v :=
  Or.imp (fun ⟨c, a, b, d⟩ => ⟨c, a, b, d.upd hD k⟩) id h
/-- a clause read, or None -/
def ClasIs (H' : Hp) (L : List Nat) (v : V) : Prop := (∃ (cs : List Cla) (p : Addr) (us : List V), (∀ c ∈ cs, ClaW c) ∧ L = ruleT cs ∧ v = .ref p ∧ H' p = some (.lst us) ∧ AllV (LCla H') us cs) ∨ (¬ isRu L ∧ v = .non)
theorem conds_dat {K : PySem.W.Frag} {N : Addr → Prop} {H : Hp} : ∀ {us : List V} {ms : List (List Nat)}, AllV (fun v W => CondIs N H W v) us ms → ∃ ds : List PyData, DpAll K H us ds ∧ (∀ d ∈ ds, d.canLay0 = true ∧ d.depth ≤ 3) ∧ ((ds.any fun z => PyData.eqv z .none) = true ↔ ∃ W ∈ ms, ¬ isCo W)
  | [], [], _ => ⟨[], .nil, (fun d m => by cases m), by simp⟩
  | v :: us, W :: ms, h => by
    obtain ⟨ds, h1, h2, h3⟩ := conds_dat (K := K) h.2
    have key : ∃ (o : Option Cond) (wv : List Int), Dp K H v (cdat o wv) ∧ (o = none ↔ ¬ isCo W) := by
      rcases h.1 with ⟨c, a, b, d⟩ | ⟨a, rfl⟩
      · obtain ⟨wv, hd⟩ := cond_dp (K := K) d
        exact ⟨some c, wv, hd, ⟨(fun z => by cases z), fun z => absurd ⟨c, a, b⟩ z⟩⟩
      · exact ⟨none, [], .non, ⟨fun _ => a, fun _ => rfl⟩⟩
    obtain ⟨o, wv, k1, k2⟩ := key
    refine ⟨cdat o wv :: ds, .cons k1 h1, fun d m => ?_, ?_⟩
    · rcases List.mem_cons.mp m with m | m
      · rw [m]; exact cdat_lay o wv
      · exact h2 d m
    · rw [List.any_cons, Bool.or_eq_true, h3, eqv_cdat, decide_eq_true_eq, k2]
      constructor
      · rintro (z | ⟨X, m, z⟩)
        · exact ⟨W, List.mem_cons_self, z⟩
        · exact ⟨X, List.mem_cons_of_mem _ m, z⟩
      · rintro ⟨X, m, z⟩
        rcases List.mem_cons.mp m with m | m
        · exact .inl (m ▸ z)
        · exact .inr ⟨X, m, z⟩
  | [], _ :: _, h => h.elim
  | _ :: _, [], h => h.elim
theorem conds_all {N : Addr → Prop} {H : Hp} : ∀ {us : List V} {ms : List (List Nat)}, AllV (fun v W => CondIs N H W v) us ms → (∀ W ∈ ms, isCo W) → ∃ cs : List Cond, ms = cs.map condT ∧ (∀ k ∈ cs, CondW k) ∧ AllV (LCondN N H) us cs
  | [], [], _, _ => ⟨[], rfl, (fun d m => by cases m), trivial⟩
  | v :: us, W :: ms, h, g => by
    obtain ⟨cs, h1, h2, h3⟩ := conds_all h.2 fun X m => g X (List.mem_cons_of_mem _ m)
    rcases h.1 with ⟨c, a, b, d⟩ | ⟨a, _⟩
    · refine ⟨c :: cs, by rw [h1, b]; rfl, fun k m => ?_, d, h3⟩
      rcases List.mem_cons.mp m with m | m
      · rw [m]; exact a
      · exact h2 k m
    · exact absurd (g W List.mem_cons_self) a
  | [], _ :: _, h, _ => h.elim
  | _ :: _, [], h, _ => h.elim
theorem slice_mid (bl : List (List Nat)) (h : bl ≠ []) : ∃ ms : List (List Nat), cutV ((bl.map tx).map V.str) (some 1) (some (-1)) = ms.map (fun w => V.str (tx w)) ∧ (∀ m ∈ ms, m ∈ bl) ∧ (bl.length < 2 ∧ ms = [] ∨ ∃ w0 wl, bl = w0 :: (ms ++ [wl])) := by
  cases bl with
  | nil => exact absurd rfl h
  | cons w0 r =>
    rcases List.eq_nil_or_concat r with rfl | ⟨m, b, rfl⟩
    · exact ⟨[], rfl, (fun m h => by cases h), .inl ⟨by simp, rfl⟩⟩
    · refine ⟨m, ?_, fun x hx => by simp [hx], .inr ⟨w0, b, by rw [List.concat_eq_append]⟩⟩
      have e : ((w0 :: m.concat b).map tx).map V.str = V.str (tx w0) :: ((m.map fun w => V.str (tx w)) ++ [V.str (tx b)]) := by
        simp [List.concat_eq_append, List.map_map, Function.comp_def]
      rw [e, cut_mid]
section
variable {P : Program} {w : World} {K : PySem.W.Frag} {mg : Str → Option Value} {base : Heap}
def sp_clasR : Sp := fun vs H Q _ => ∃ L : List Nat, vs = [.str (tx L)] ∧ L.length ≤ 900 ∧ ∀ H' v, Same H H' → ClasIs H' L v → Q v H'
theorem mp_clasR : MonP sp_clasR := fun vs H Q Q' E h ⟨L, x1, x2, k⟩ => ⟨L, x1, x2, fun H' v a b => h _ _ (k H' v a b)⟩
set_option maxHeartbeats 16000000 in
theorem ok_clasR (T : Env fa fn K mg) : Good P w K mg base CX0 3 ("_law_clauses_read", none) ["_law_line"] sp_clasR := by
  have G_w_number := ok_numL (P := P) (w := w) (base := base) T
  have G_w_condition_read := ok_condR (P := P) (w := w) (base := base) T
  refine good_mk T 39 (d := d_w_clauses_read) (N := ["_law_line", "_law_clauses", "_law_part", "_law_words", "_law_conditions", "_law_word_here"]) (ps := ["_law_line"]) rfl rfl sc_w_clauses_read (fun _ _ _ _ _ _ us hl => match us, hl with | [_], _ => rfl) (fun vs H Q E h => ?_) (fun f cdv A outer s H vs Q E hr h => ?_)
  · obtain ⟨L, rfl, _⟩ := h; rfl
  · obtain ⟨L, rfl, hl, k⟩ := h
    have hsz := sizeBig
    refine ⟨_, (pss_cons (ps_if (pt_cmpR op_eq (pv 0) pe_str (nomark _)) (pss_one (ps_ret (pe_lst pa_nil))) pss_nil)
      (pss_cons (ps_set (i := 1) sc_w_clauses_read.nd rfl (Or.inl rfl) (pe_lst pa_nil))
      (pss_cons (ps_for PassesOwn.never rfl (pi_listK K rfl (pe_split (pv 0) pe_str)) (pg_name (i := 2) sc_w_clauses_read.nd rfl (Or.inl rfl)) (pss_cons (ps_set (i := 3) sc_w_clauses_read.nd rfl (Or.inl rfl) (pe_split (pv 2) pe_str))
      (pss_cons (ps_setLc (i := 4) (own := [("_law_word_here", 5)]) (tt := tYes) rfl sc_w_clauses_read.nd rfl rfl (sw_true rfl rfl rfl (by decide +kernel)) (pi_listK K rfl (pe_slice (sl_listK K rfl) (pv 3) (po_some pe_int) (po_some (pe_un un_neg pe_int)))) (blkOk_by (own := [("_law_word_here", 5)]) (N := ["_law_line", "_law_clauses", "_law_part", "_law_words", "_law_conditions", "_law_word_here"]) (sc := defScope st_w_clauses_read) (by decide +kernel)) (fun _ _ _ _ _ => by exact (pg_name (i := 5) sc_w_clauses_read.nd rfl (Or.inl rfl))) (fun _ _ _ _ _ => by exact pts_nil) (fun _ _ _ _ _ => by exact (pe_cgK K rfl G_w_condition_read (hr.mono (by decide)) (T.glo 48) (pa_cons (pv 5) pa_nil))))
      (pss_cons (ps_if (PW.pt (pw_or (pt_cmpR op_lt (pe_callB (call_lenK K rfl) (by rfl) (T.free 15) (by decide +kernel) (pa_cons (pv 3) pa_nil)) pe_int (nomark _)) (pw_or (pt_cmpR (op_inDK K rfl hr.units65) pe_non (pv 4) rfl) (pw_or1 (pt_cmpR op_lt (pe_cgK K rfl G_w_number (hr.mono (by decide)) (T.glo 46) (pa_cons (pe_ix (ix_listK K rfl) (pv 3) pe_int (fun _ _ => rfl)) (pa_cons pe_str pa_nil))) pe_int (nomark _)))))) (pss_one (ps_ret pe_non)) pss_nil)
      (pss_cons (ps_if (pt_cmpR op_lt (pe_cgK K rfl G_w_number (hr.mono (by decide)) (T.glo 46) (pa_cons (pe_ix (ix_listK K rfl) (pv 3) (pe_un un_neg pe_int) (fun _ _ => rfl)) (pa_cons pe_str pa_nil))) pe_int (nomark _)) (pss_one (ps_ret pe_non)) pss_nil)
      (pss_one (ps_expr (pe_bm PySem.F.plainAttrs_list PySem.F.slot_list_append PySem.F.type_list_append mt_append (pv 1) (pa_cons (pe_tup (pa_cons (pe_cgK K rfl G_w_number (hr.mono (by decide)) (T.glo 46) (pa_cons (pe_ix (ix_listK K rfl) (pv 3) pe_int (fun _ _ => rfl)) (pa_cons pe_str pa_nil))) (pa_cons (pv 4) (pa_cons (pe_callTy call_int_str (by rfl) (T.free 16) (by decide +kernel) (pa_cons (pe_ix (ix_listK K rfl) (pv 3) (pe_un un_neg pe_int) (fun _ _ => rfl)) pa_nil)) pa_nil)))) pa_nil)))))))))
      (pss_one (ps_ret (pv 1)))))), ?_⟩
    walk_at "rd"
    by_cases hL0 : L = []
    · subst hL0
      rw [decide_eq_true (show tx [] = Str.ofString "" by decide +kernel)]
      walk_at "rd"
      refine rd_new (hn := by show 0 ≤ sizeLine; decide) fun p hp => ?_
      exact k _ _ (same_upd hp) (.inl ⟨[], p, [], (fun c m => by cases m), rfl, rfl, upd_same, trivial⟩)
    have hne : ¬ (tx L = Str.ofString "") := fun e => by
      have e2 : (Str.ofString "").cps.toList = [] := by decide +kernel
      exact hL0 (by rw [← e2, ← e])
    rw [decide_eq_false hne]
    walk_at "rd"
    refine rd_new (hn := by show 0 ≤ sizeLine; decide) fun p hp => ?_
    have s0 := same_upd (o := .lst []) hp
    have L0 : (upd H p (.lst [])) p = some (.lst []) := upd_same
    generalize upd H p (.lst []) = H0 at s0 L0 ⊢
    walk_at "rd"
    refine rd_m1 ?_
    walk_at "rd"
    refine rd_st ?_
    walk_at "rd"
    refine ⟨_, _, rfl, rfl, by decide +kernel, small_len16 (by rw [len_tx]; omega), fun pw hpw => ?_⟩
    rw [split_any tl_semi (by simp) (by decide +kernel) L]
    have eB : TL.spl [59, 32] 0 [] L = semis L := rfl
    rw [eB]
    have hle : ∀ w ∈ semis L, w.length ≤ 900 := fun w m => Nat.le_trans (semis_le m) hl
    have hbl : (semis L).length ≤ 901 := by
      have := joinL_count (S := [59, 32]) (by simp) (semis L)
      rw [semis_join] at this
      omega
    have eM : ((semis L).map tx).map V.str = (semis L).map fun w => V.str (tx w) := by simp only [List.map_map, Function.comp_def]
    rw [eM]
    have s2 := same_upd (o := .lst ((semis L).map fun w => V.str (tx w))) hpw
    have L2 : (upd H0 pw (.lst ((semis L).map fun w => V.str (tx w)))) pw = some (.lst ((semis L).map fun w => V.str (tx w))) := upd_same
    have Lp2 := s2 _ _ L0
    have s02 := s0.trans s2
    have pwp : pw ≠ p := fun z => by rw [z, L0] at hpw; cases hpw
    generalize upd H0 pw (.lst ((semis L).map fun w => V.str (tx w))) = H2 at *
    refine ⟨pw, rfl, ⟨_, SqL.of L2⟩, ?_⟩
    refine for_it (walk_list (xs := (semis L).map fun w => V.str (tx w))) (fun i σ H' => ∃ (cs : List Cla) (us : List V) (x2 x3 x4 : Option V), σ = [some (.str (tx L)), some (.ref p), x2, x3, x4, none] ∧ Same H H' ∧ H' pw = some (.lst ((semis L).map fun w => V.str (tx w))) ∧ H' p = some (.lst us) ∧ AllV (LClaN (fun b => b ≠ p) H') us cs ∧ (∀ c ∈ cs, ClaW c) ∧ (semis L).take i = cs.map claT) ⟨[], [], none, none, none, rfl, s02, L2, Lp2, trivial, (fun c m => by cases m), rfl⟩ (fun i σ H' _ ⟨_, _, _, _, _, _, _, h, _⟩ => SqL.of h) ?_ ?_
    · rintro i x σ Ha Hb hi ⟨cs, us, x2, x3, x4, rfl, s3, Lw3, Lp3, hall, hcw, htk⟩ ⟨rfl, hx⟩
      rw [List.length_map] at hi
      rw [List.getElem?_map, at_get hi] at hx
      cases hx
      have hwd := at_get hi
      have hwm := List.mem_of_getElem? hwd
      generalize (semis L)[i] = wd at *
      have hwl := hle wd hwm
      have csl : cs.length = i := by
        have := congrArg List.length htk
        rw [List.length_take, List.length_map] at this
        omega
      have usl := hall.len
      have noR : ¬ isCl wd → ∀ H', Same H H' → Q .non H' := fun z H' s => k H' _ s (.inr ⟨fun r => z (isRu_parts r hL0 wd hwm), rfl⟩)
      walk_at "rd"
      refine rd_m1 ?_
      walk_at "rd"
      refine rd_st ?_
      walk_at "rd"
      refine ⟨_, _, rfl, rfl, by decide +kernel, small_len16 (by rw [len_tx]; omega), fun pb hpb => ?_⟩
      rw [split_any tl_space (by simp) (by decide +kernel) wd]
      have eB : TL.spl [32] 0 [] wd = blanks wd := rfl
      rw [eB]
      obtain ⟨ms, eC, hms, hsh⟩ := slice_mid (blanks wd) (spl_ne [32] wd)
      have hble : ∀ w ∈ blanks wd, w.length ≤ 900 := fun w m => Nat.le_trans (blanks_le m) hwl
      have hbbl : (blanks wd).length ≤ 901 := by
        have := joinL_count (S := [32]) (by simp) (blanks wd)
        rw [blanks_join] at this
        omega
      have msl : ms.length ≤ 901 := by
        rcases hsh with ⟨_, e⟩ | ⟨w0, wl, e⟩
        · rw [e]; exact Nat.zero_le _
        · rw [e] at hbbl; simp only [List.length_cons, List.length_append] at hbbl; omega
      obtain ⟨bl, hbl'⟩ : ∃ bl, bl = ((blanks wd).map tx).map V.str := ⟨_, rfl⟩
      have bll : bl.length = (blanks wd).length := by rw [hbl', List.length_map, List.length_map]
      rw [← hbl'] at eC ⊢
      have s4 := same_upd (o := .lst bl) hpb
      have L4 : (upd Hb pb (.lst bl)) pb = some (.lst bl) := upd_same
      have Lp4 := s4 _ _ Lp3
      have Lw4 := s4 _ _ Lw3
      have hall4 : AllV (LClaN (fun b => b ≠ p) (upd Hb pb (.lst bl))) us cs := hall.imp fun _ _ h => h.same s4
      have s04 := s3.trans s4
      generalize upd Hb pb (.lst bl) = H4 at *
      walk_at "rd"
      refine ⟨pb, _, rfl, SqL.of L4, fun p2 hp2 => ?_⟩
      rw [show ((-(1 : Int))) = -1 from rfl, eC]
      have s5 := same_upd (o := .lst (ms.map fun w => V.str (tx w))) hp2
      have L5 : (upd H4 p2 (.lst (ms.map fun w => V.str (tx w)))) p2 = some (.lst (ms.map fun w => V.str (tx w))) := upd_same
      generalize upd H4 p2 (.lst (ms.map fun w => V.str (tx w))) = H5 at *
      refine ⟨p2, rfl, ⟨_, SqL.of L5⟩, fun D hD => ?_⟩
      have Dp' : D ≠ p := fun z => by rw [z, s5 _ _ Lp4] at hD; cases hD
      refine lc_it (walk_list (xs := ms.map fun w => V.str (tx w))) (fun j H' => Same H5 H' ∧ ∃ ws, H' D = some (.lst ws) ∧ AllV (fun v W => CondIs (fun b => b ≠ D ∧ b ≠ p) H' W v) ws (ms.take j)) ⟨same_upd hD, [], upd_same, trivial⟩ (fun i H' _ h => SqL.of (h.1 _ _ L5)) ?_ ?_
      · rintro j x Hc Hd hj ⟨s6, ws, hws, hcs⟩ ⟨rfl, hx⟩
        rw [List.length_map] at hj
        rw [List.getElem?_map, at_get hj] at hx
        cases hx
        have hmj := at_get hj
        have hmm := hms _ (List.mem_of_getElem? hmj)
        have hwl' := hcs.len
        rw [List.length_take] at hwl'
        generalize ms[j] = W at *
        walk_at "rd"
        refine ⟨rfl, ?_⟩
        walk_at "rd"
        refine ⟨W, rfl, hble W hmm, fun H7 v s7 hv => ?_⟩
        have hws7 := s7 _ _ hws
        have hv' : CondIs (fun b => b ≠ D ∧ b ≠ p) H7 W v := hv.imp fun b hb => ⟨(fun z => by rw [z, hws] at hb; cases hb), (fun z => by rw [z, s6 _ _ (s5 _ _ Lp4)] at hb; cases hb)⟩
        refine ⟨ws, hws7, small1000 (by omega), Same.put2 (s6.trans s7) hD, ws ++ [v], upd_same, ?_⟩
        rw [take_snoc hmj]
        exact ((hcs.imp fun _ _ h => h.same s7).app hv').imp fun _ _ h => h.upd hws7 fun b hb => hb.1
      rintro H6 ⟨s6, ws, hws, hcs⟩
      rw [List.length_map, List.take_length] at hcs
      have s56 := s5.trans s6
      have L46 := s56 _ _ L4
      have Lp6 := s56 _ _ Lp4
      have Lw6 := s56 _ _ Lw4
      have s06 := s04.trans s56
      have hall6 : AllV (LClaN (fun b => b ≠ p) H6) us cs := hall4.imp fun _ _ h => h.same s56
      walk_at "rd"
      refine rd_len (SqL.of L46) ?_
      walk_at "rd"
      rw [bll]
      refine ite_d (fun c1 => ?_) (fun c1 => ?_)
      · walk_at "rd"
        refine noR (fun z => ?_) H6 s06
        obtain ⟨w0, mid, wl, e, _⟩ := isCl_words z
        rw [e] at c1
        simp only [List.length_cons, List.length_append] at c1
        omega
      obtain ⟨w0, wl, eS⟩ : ∃ w0 wl, blanks wd = w0 :: (ms ++ [wl]) := by
        rcases hsh with ⟨c2, _⟩ | h
        · omega
        · exact h
      have ebl : bl = V.str (tx w0) :: ((ms.map fun w => V.str (tx w)) ++ [V.str (tx wl)]) := by
        rw [hbl', eS]; simp [List.map_map, Function.comp_def]
      have m0 : w0 ∈ blanks wd := by rw [eS]; simp
      have ml : wl ∈ blanks wd := by rw [eS]; simp
      have at0 : atI bl 0 = some (V.str (tx w0)) := by rw [ebl]; exact atI_nat (j := 0) rfl
      have at1 : atI bl (-1) = some (V.str (tx wl)) := by rw [ebl]; exact atI_last (_ :: _) _
      have noW : ¬ (isWi w0 ∧ (∀ W ∈ ms, isCo W) ∧ isSt wl) → ¬ isCl wd := fun z h => by
        obtain ⟨w0', mid, wl', e, a, b, c⟩ := isCl_words h
        rw [eS] at e
        injection e with e1 e2
        have e3 := List.append_inj' e2 rfl
        obtain ⟨rfl, e4⟩ := e3
        cases e4
        subst e1
        exact z ⟨a, b, c⟩
      obtain ⟨ds, d1, d2, d3⟩ := conds_dat (K := K) hcs
      walk_at "rd"
      refine ⟨_, _, .non, .lst (SqL.of hws) d1, by simp [SeqAt.shaped, PyData.canLay0, PyData.depth], list_shaped' d2, ?_⟩
      walk_at "rd"
      by_cases c2 : ∃ W ∈ ms, ¬ isCo W
      · rw [d3.mpr c2]
        walk_at "rd"
        obtain ⟨W, mW, hW⟩ := c2
        exact noR (noW fun z => hW (z.2.1 W mW)) H6 s06
      have eany : (ds.any fun z => PyData.eqv z .none) = false := by
        cases e : (ds.any fun z => PyData.eqv z .none) with
        | false => rfl
        | true => exact absurd (d3.mp e) c2
      rw [eany]
      have allC : ∀ W ∈ ms, isCo W := fun W m => Classical.byContradiction fun z => c2 ⟨W, m, z⟩
      obtain ⟨cds, ems, hcds, hcds2⟩ := conds_all hcs allC
      walk_at "rd"
      refine rd_ixL (SqL.of L46) at0 ?_
      walk_at "rd"
      refine ⟨w0, _, rfl, by have := hble w0 m0; omega, ?_⟩
      walk_at "rd"
      by_cases h0 : isWi w0
      rotate_left
      · rw [num_nwi h0, decide_eq_true (by decide)]
        walk_at "rd"
        exact noR (noW fun z => h0 z.1) H6 s06
      obtain ⟨o, ho, eo⟩ := id h0
      have en0 : numD w0 (Str.ofString "01234567*") = takenN o := by rw [eo]; exact num_wi ho
      have tk0 : 0 ≤ takenN o := by
        cases o with
        | none => decide
        | some s => have h' : St s := ho; exact h'.1
      rw [en0, decide_eq_false (by omega)]
      walk_at "rd"
      refine rd_ixL (SqL.of L46) at1 ?_
      walk_at "rd"
      refine ⟨wl, _, rfl, by have := hble wl ml; omega, ?_⟩
      walk_at "rd"
      by_cases h1 : isSt wl
      rotate_left
      · rw [num_nst h1, decide_eq_true (by decide)]
        walk_at "rd"
        exact noR (noW fun z => h1 z.2.2) H6 s06
      obtain ⟨st, hst, est⟩ := id h1
      have en1 : numD wl (Str.ofString "01234567") = st := by rw [est]; exact num_st hst
      rw [en1, decide_eq_false (by have := hst.1; omega)]
      walk_at "rd"
      refine rd_tyL Lp6 ?_
      walk_at "rd"
      refine rd_ixL (SqL.of L46) at0 ?_
      walk_at "rd"
      refine ⟨w0, _, rfl, by have := hble w0 m0; omega, ?_⟩
      rw [en0]
      walk_at "rd"
      refine rd_ixL (SqL.of L46) at1 ?_
      obtain ⟨dg, hdg⟩ : ∃ dg : Nat, st = (dg : Int) := ⟨st.toNat, by have := hst.1; omega⟩
      subst hdg
      rw [Int.toNat_natCast] at est
      refine ⟨_, (dg : Int), rfl, by rw [est]; exact sign_digit dg (by have := hst.2; omega), by rw [est]; show 1 ≤ 640; decide, ?_⟩
      walk_at "rd"
      refine rd_new (hn := by show 3 ≤ sizeLine; decide) fun t ht => ?_
      have s7 := same_upd (o := .tup [V.int (takenN o), V.ref D, V.int (dg : Int)]) ht
      have T7 : (upd H6 t (.tup [V.int (takenN o), V.ref D, V.int (dg : Int)])) t = some (.tup [V.int (takenN o), V.ref D, V.int (dg : Int)]) := upd_same
      have Lp7 := s7 _ _ Lp6
      have Lw7 := s7 _ _ Lw6
      have LD7 := s7 _ _ hws
      have hall7 : AllV (LClaN (fun b => b ≠ p) (upd H6 t (.tup [V.int (takenN o), V.ref D, V.int (dg : Int)]))) us cs := hall6.imp fun _ _ h => h.same s7
      have hc7 : AllV (LCondN (fun b => b ≠ D ∧ b ≠ p) (upd H6 t (.tup [V.int (takenN o), V.ref D, V.int (dg : Int)]))) ws cds := hcds2.imp fun _ _ h => h.same s7
      generalize upd H6 t (.tup [V.int (takenN o), V.ref D, V.int (dg : Int)]) = H7 at *
      walk_at "rd"
      refine rd_append Lp7 (by rw [usl]; exact small1000 (by omega)) ?_
      walk_at "rd"
      have tp : t ≠ p := fun z => by rw [z, Lp7] at T7; cases T7
      have new : LClaN (fun b => b ≠ p) H7 (.ref t) ⟨o, cds, (dg : Int)⟩ := ⟨t, D, ws, rfl, T7, LD7, Dp', hc7.imp fun _ _ h => h.imp fun b hb => hb.2⟩
      refine ⟨cs ++ [⟨o, cds, (dg : Int)⟩], us ++ [.ref t], _, _, _, rfl, Same.put2 (s06.trans s7) hp, by rw [upd_ne pwp]; exact Lw7, upd_same, (hall7.app new).imp fun _ _ h => h.upd Lp7 fun b hb => hb, fun c m => ?_, ?_⟩
      · rcases List.mem_append.mp m with m | m
        · exact hcw c m
        · rw [List.mem_singleton.mp m]
          exact ⟨ho, hcds, hst⟩
      · rw [take_snoc hwd, htk, List.map_append]
        congr 1
        have := blanks_join wd
        rw [eS, eo, ems, est] at this
        show [wd] = [claT ⟨o, cds, (dg : Int)⟩]
        rw [← this]
        rfl
    · rintro σ H' ⟨cs, us, x2, x3, x4, rfl, s3, Lw3, Lp3, hall, hcw, htk⟩
      rw [List.length_map, List.take_length] at htk
      walk_at "rd"
      refine k H' _ s3 (.inl ⟨cs, p, us, hcw, ?_, rfl, Lp3, hall.imp fun _ _ h => h.at⟩)
      have := semis_join L
      rw [htk] at this
      exact this.symm
end
end JF

/-! ### law k06: what is said, what is due -/
namespace JF
open PySem PySem.Spec PyProof.Rows L2
theorem wNm_yesN {K : PySem.W.Frag} {Wo : WX} {D : Ends} {c cls : Value} {i : Nat} {ts : Su} {r : List (Value × Option Nat × Su)} {d : Option Addr} {σ : L2.St} {H : Hp} (e : PySem.W.exmOne K cls c = some true) (h : ∀ a, H a = none → ts a cls d (backN i D) (σ.set i (some (.ref a))) H) : wNm K Wo D ((c, some i, ts) :: r) cls d σ H := ⟨true, e, fun _ => h, fun z => nomatch z⟩
theorem wishT_inj {o o' : Option Int} (h : WishW o) (h' : WishW o') (e : wishT o = wishT o') : o = o' := by
  cases o with
  | none =>
    cases o' with
    | none => rfl
    | some s => have e' : 42 = 48 + s.toNat := e; omega
  | some s =>
    have hs : St s := h
    cases o' with
    | none => have e' : 48 + s.toNat = 42 := e; omega
    | some s' =>
      have hs' : St s' := h'
      have e' : 48 + s.toNat = 48 + s'.toNat := e
      have := hs.1; have := hs'.1
      congr 1
      omega
theorem map_inj_on {α β : Type} {f : α → β} {p : α → Prop} (hf : ∀ a b, p a → p b → f a = f b → a = b) : ∀ {l m : List α}, (∀ a ∈ l, p a) → (∀ a ∈ m, p a) → l.map f = m.map f → l = m
  | [], [], _, _, _ => rfl
  | [], _ :: _, _, _, h => by simp at h
  | _ :: _, [], _, _, h => by simp at h
  | a :: l, b :: m, h1, h2, h => by
    rw [List.map_cons, List.map_cons] at h
    injection h with e1 e2
    rw [hf a b (h1 a List.mem_cons_self) (h2 b List.mem_cons_self) e1, map_inj_on hf (fun x m => h1 x (List.mem_cons_of_mem _ m)) (fun x m => h2 x (List.mem_cons_of_mem _ m)) e2]
theorem numT_inj {ns ms : List Int} (h : ∀ n ∈ ns, 0 ≤ n ∧ n ≤ 8) (h' : ∀ n ∈ ms, 0 ≤ n ∧ n ≤ 8) (e : numT ns = numT ms) : ns = ms := by
  have := congrArg (List.map nuF) e
  rwa [nu_back h, nu_back h'] at this
theorem condT_inj {c c' : Cond} (h : CondW c) (h' : CondW c') (e : condT c = condT c') : c = c' := by
  cases c with
  | amt s ns =>
    obtain ⟨a1, a2, a3, a4⟩ := h
    cases c' with
    | amt s' ns' =>
      obtain ⟨b1, b2, b3, b4⟩ := h'
      have e' : (48 + s.toNat) :: 61 :: numT ns = (48 + s'.toNat) :: 61 :: numT ns' := e
      injection e' with e1 e2
      injection e2 with _ e3
      have es : s = s' := by have := a1.1; have := b1.1; omega
      rw [es, numT_inj a3 b3 e3]
    | plc ws =>
      obtain ⟨b1, b2⟩ := h'
      have e' : (48 + s.toNat) :: 61 :: numT ns = ws.map wishT := e
      have m : 61 ∈ ws.map wishT := by rw [← e']; simp
      obtain ⟨o, mo, eo⟩ := List.mem_map.mp m
      exact absurd eo (wish_ne (b2 o mo))
  | plc ws =>
    obtain ⟨a1, a2⟩ := h
    cases c' with
    | amt s' ns' =>
      have e' : ws.map wishT = (48 + s'.toNat) :: 61 :: numT ns' := e
      have m : 61 ∈ ws.map wishT := by rw [e']; simp
      obtain ⟨o, mo, eo⟩ := List.mem_map.mp m
      exact absurd eo (wish_ne (a2 o mo))
    | plc ws' =>
      obtain ⟨b1, b2⟩ := h'
      have e' : ws.map wishT = ws'.map wishT := e
      rw [map_inj_on (p := WishW) (fun a b ha hb => wishT_inj ha hb) a2 b2 e']
theorem claT_blanks {c : Cla} (h : ClaW c) : blanks (claT c) = claW c := TL.spl_join (S := []) (s := 32) (parts := claW c) (by simp [claW]) fun w hw => (claW_no h w hw).1
theorem claT_inj {c c' : Cla} (h : ClaW c) (h' : ClaW c') (e : claT c = claT c') : c = c' := by
  have e1 := congrArg blanks e
  rw [claT_blanks h, claT_blanks h'] at e1
  obtain ⟨t, ks, m⟩ := c
  obtain ⟨t', ks', m'⟩ := c'
  have e2 : [wishT t] :: (ks.map condT ++ [[48 + m.toNat]]) = [wishT t'] :: (ks'.map condT ++ [[48 + m'.toNat]]) := e1
  injection e2 with e3 e4
  obtain ⟨e5, e6⟩ := List.append_inj' e4 rfl
  have et : t = t' := wishT_inj h.1 h'.1 (List.cons.inj e3).1
  have em : m = m' := by
    have z : 48 + m.toNat = 48 + m'.toNat := (List.cons.inj (List.cons.inj e6).1).1
    have := h.2.2.1; have := h'.2.2.1
    have a : (Cla.made ⟨t, ks, m⟩) = m := rfl
    have b : (Cla.made ⟨t', ks', m'⟩) = m' := rfl
    omega
  have ek : ks = ks' := map_inj_on (p := CondW) (fun a b ha hb => condT_inj ha hb) h.2.1 h'.2.1 e5
  rw [et, em, ek]
theorem ruleT_inj {cs cs' : List Cla} (h : ∀ c ∈ cs, ClaW c) (h' : ∀ c ∈ cs', ClaW c) (e : ruleT cs = ruleT cs') : cs = cs' := by
  have key : ∀ {ds : List Cla}, (∀ c ∈ ds, ClaW c) → ds ≠ [] → semis (ruleT ds) = ds.map claT := fun {ds} hd h0 =>
    TL.spl_join (S := [32]) (s := 59) (parts := ds.map claT) (by simpa using h0) fun w hw' => by
      obtain ⟨d, hd', rfl⟩ := List.mem_map.mp hw'
      exact no_semi (hd d hd')
  cases cs with
  | nil =>
    cases cs' with
    | nil => rfl
    | cons c cs' => exact absurd e.symm (joinL_pos (claT_pos c) _)
  | cons c cs =>
    cases cs' with
    | nil => exact absurd e (joinL_pos (claT_pos c) _)
    | cons c' cs' =>
      have e1 := congrArg semis e
      rw [key h (by simp), key h' (by simp)] at e1
      exact map_inj_on (p := ClaW) (fun a b ha hb => claT_inj ha hb) h h' e1
/-- low signs -/
def Low (L : List Nat) : Prop := ∀ c ∈ L, c < 1000
theorem Low.ok {L : List Nat} (h : Low L) : PyData.strOk (tx L) = true := by
  show L.toArray.all (· < 0x110000) = true
  simp only [List.all_toArray, List.all_eq_true, decide_eq_true_eq]
  intro c m
  have := h c m
  omega
theorem Low.app {A B : List Nat} (h : Low A) (h' : Low B) : Low (A ++ B) := fun c m => (List.mem_append.mp m).elim (h c) (h' c)
theorem low_join {S : List Nat} (hS : Low S) : ∀ {ws : List (List Nat)}, (∀ w ∈ ws, Low w) → Low (TL.joinL S ws)
  | [], _ => fun c m => by cases m
  | [x], h => h x List.mem_cons_self
  | x :: y :: r, h => by
    have e : TL.joinL S (x :: y :: r) = x ++ (S ++ TL.joinL S (y :: r)) := rfl
    rw [e]
    exact (h x List.mem_cons_self).app (hS.app (low_join hS fun w m => h w (List.mem_cons_of_mem _ m)))
theorem low_wish {o : Option Int} (h : WishW o) : wishT o < 1000 := by
  cases o with
  | none => decide
  | some s => have h' : St s := h; show 48 + s.toNat < 1000; have := h'.2; omega
theorem low_cond {c : Cond} (h : CondW c) : Low (condT c) := by
  cases c with
  | amt s ns =>
    obtain ⟨a1, a2, a3, a4⟩ := h
    intro x m
    have m' : x ∈ (48 + s.toNat) :: 61 :: numT ns := m
    rcases List.mem_cons.mp m' with e | m'
    · rw [e]; have := a1.2; omega
    · rcases List.mem_cons.mp m' with e | m'
      · rw [e]; decide
      · obtain ⟨n, mn, rfl⟩ := List.mem_map.mp m'
        have := a3 n mn
        omega
  | plc ws =>
    intro x m
    obtain ⟨o, mo, rfl⟩ := List.mem_map.mp m
    exact low_wish (h.2 o mo)
theorem low_rule {cs : List Cla} (h : ∀ c ∈ cs, ClaW c) : Low (ruleT cs) := by
  refine low_join (by intro c m; simp at m; omega) fun w m => ?_
  obtain ⟨c, mc, rfl⟩ := List.mem_map.mp m
  have hc := h c mc
  refine low_join (by intro c m; simp at m; omega) fun w mw => ?_
  rcases List.mem_cons.mp mw with e | mw
  · rw [e]; intro x mx; rw [List.mem_singleton.mp mx]; exact low_wish hc.1
  · rcases List.mem_append.mp mw with mw | mw
    · obtain ⟨k, mk, rfl⟩ := List.mem_map.mp mw
      exact low_cond (hc.2.1 k mk)
    · rw [List.mem_singleton.mp mw]
      intro x mx
      rw [List.mem_singleton.mp mx]
      have := hc.2.2.2
      omega
/-- what is said of a text -/
def SaidD (L : List Nat) (wd : Str) (v : V) : Prop := (¬ isRu L ∧ wd = Str.ofString "no rule" ∧ v = .bl true) ∨ ∃ cs, (∀ c ∈ cs, ClaW c) ∧ L = ruleT cs ∧ ((ruleMakes cs 0 eights ≠ 0 ∧ wd = Str.ofString "restless" ∧ v = .bl true) ∨ (ruleMakes cs 0 eights = 0 ∧ wd = Str.ofString "rule" ∧ v = .str (tx L)))
theorem said_ex (L : List Nat) : ∃ wd v, SaidD L wd v := by
  by_cases h : isRu L
  · obtain ⟨cs, hw, e⟩ := h
    by_cases z : ruleMakes cs 0 eights = 0
    · exact ⟨_, _, .inr ⟨cs, hw, e, .inr ⟨z, rfl, rfl⟩⟩⟩
    · exact ⟨_, _, .inr ⟨cs, hw, e, .inl ⟨z, rfl, rfl⟩⟩⟩
  · exact ⟨_, _, .inl ⟨h, rfl, rfl⟩⟩
theorem said_dp {K : PySem.W.Frag} {H : Hp} {L : List Nat} {wd : Str} {v : V} {p : Addr} (h : SaidD L wd v) (hl : Low L) (hp : H p = some (.tup [.str wd, v])) : ∃ d, Dp K H (.ref p) (.tuple [.str wd, d]) ∧ SeqAt.shaped (.tuple [.str wd, d]) = true ∧ (d = .bool true ∧ v = .bl true ∨ d = .str (tx L) ∧ v = .str (tx L)) := by
  have h1 : PyData.strOk (Str.ofString "no rule") = true := by decide +kernel
  have h2 : PyData.strOk (Str.ofString "restless") = true := by decide +kernel
  have h3 : PyData.strOk (Str.ofString "rule") = true := by decide +kernel
  have h4 := hl.ok
  rcases h with ⟨_, rfl, rfl⟩ | ⟨cs, _, _, ⟨_, rfl, rfl⟩ | ⟨_, rfl, rfl⟩⟩
  · exact ⟨.bool true, .tup (SqT.of hp) (.cons (.str _) (.cons (.bl _) .nil)), by simp [SeqAt.shaped, PyData.canLay0, PyData.canLayAll0, PyData.depth, PyData.depthAll, h1], .inl ⟨rfl, rfl⟩⟩
  · exact ⟨.bool true, .tup (SqT.of hp) (.cons (.str _) (.cons (.bl _) .nil)), by simp [SeqAt.shaped, PyData.canLay0, PyData.canLayAll0, PyData.depth, PyData.depthAll, h2], .inl ⟨rfl, rfl⟩⟩
  · exact ⟨.str (tx L), .tup (SqT.of hp) (.cons (.str _) (.cons (.str _) .nil)), by simp [SeqAt.shaped, PyData.canLay0, PyData.canLayAll0, PyData.depth, PyData.depthAll, h3, h4], .inr ⟨rfl, rfl⟩⟩
theorem said_same {L : List Nat} {wd : Str} {v : V} {d d' : PyData} (h : d = .bool true ∧ v = .bl true ∨ d = .str (tx L) ∧ v = .str (tx L)) (h' : d' = .bool true ∧ v = .bl true ∨ d' = .str (tx L) ∧ v = .str (tx L)) : PyData.eqv (.tuple [.str wd, d]) (.tuple [.str wd, d']) = true := by
  rcases h with ⟨rfl, rfl⟩ | ⟨rfl, rfl⟩ <;> rcases h' with ⟨rfl, e⟩ | ⟨rfl, e⟩
  · simp [PyData.eqv, PyData.eqvAll]
  · cases e
  · cases e
  · simp [PyData.eqv, PyData.eqvAll]
theorem rd_neSaid {K : PySem.W.Frag} {H : Hp} {Q : VK} {L : List Nat} {wd : Str} {v : V} {p p' : Addr} (h : SaidD L wd v) (hl : Low L) (hp : H p = some (.tup [.str wd, v])) (hp' : H p' = some (.tup [.str wd, v])) (q : Q (.bl false) H) : rNeD K (.ref p) (.ref p') H Q := by
  obtain ⟨d, a1, a2, a3⟩ := said_dp (K := K) h hl hp
  obtain ⟨d', b1, b2, b3⟩ := said_dp (K := K) h hl hp'
  refine ⟨_, _, a1, b1, a2, b2, ?_⟩
  rw [said_same a3 b3]
  exact q
theorem rd_eqSaid {K : PySem.W.Frag} {H : Hp} {Q : VK} {L : List Nat} {wd : Str} {v : V} {p p' : Addr} (h : SaidD L wd v) (hl : Low L) (hp : H p = some (.tup [.str wd, v])) (hp' : H p' = some (.tup [.str wd, v])) (q : Q (.bl true) H) : rEqD K (.ref p) (.ref p') H Q := by
  obtain ⟨d, a1, a2, a3⟩ := said_dp (K := K) h hl hp
  obtain ⟨d', b1, b2, b3⟩ := said_dp (K := K) h hl hp'
  refine ⟨_, _, a1, b1, a2, b2, ?_⟩
  rw [said_same a3 b3]
  exact q
section
variable {P : Program} {w : World} {K : PySem.W.Frag} {mg : Str → Option Value} {base : Heap}
def ten : List V := List.replicate 10 (V.bl false)
def sp_others (K : PySem.W.Frag) : Value → Option Addr → Addr → Sp := fun cls d a vs H Q _ => ∃ x : Str, (x = "NoRule" ∨ x = "Restless") ∧ vs = [.ref a] ∧ cls = .ref (He.ga K x) ∧ d = none ∧ ∀ H' l, Same H H' → H' l = some (.lst ten) → Q (.ref l) H'
set_option maxHeartbeats 16000000 in
theorem okE_others (T : Env fa fn K mg) : GoodE P w K mg base 1 ("_law_others", none) ["_law_e"] (sp_others K) := by
  refine good_mkE T 44 (d := d_w_others) (N := ["_law_e", "_law_some"]) (ps := ["_law_e"]) rfl rfl sc_w_others (fun _ _ _ _ _ _ us hl => match us, hl with | [_], _ => rfl) (fun cls d a vs H Q E h => ?_) (fun f cdv A outer s H vs Q E p cls d hz hf hr h => ?_)
  · obtain ⟨x, _, rfl, _⟩ := h; rfl
  obtain ⟨x, hx, rfl, rfl, rfl, k⟩ := h
  have hu := Nat.lt_of_le_of_lt (Nat.add_le_add_left (by decide : 1 ≤ 200) _) hr.un
  rcases hx with rfl | rfl
  · have ec := (T.exf (List.mem_of_getElem? (i := 0) rfl)).ec
    refine ⟨_, (pss_cons (ps_set (i := 1) sc_w_others.nd rfl (Or.inl rfl) (pe_lst (pa_cons (pe_callB (call_isP K rfl List.mem_cons_self hz hf) (by rfl) (T.free 29) (by decide +kernel) (pa_cons (pv 0) (pa_cons (pe_grefK K rfl (T.glo 52) rfl) pa_nil))) (pa_cons (pe_callB (call_isP K rfl List.mem_cons_self hz hf) (by rfl) (T.free 29) (by decide +kernel) (pa_cons (pv 0) (pa_cons (pe_grefK K rfl (T.glo 53) rfl) pa_nil))) (pa_cons (pe_callB (call_isP K rfl List.mem_cons_self hz hf) (by rfl) (T.free 29) (by decide +kernel) (pa_cons (pv 0) (pa_cons (pe_grefK K rfl (T.glo 54) rfl) pa_nil))) (pa_cons (pe_callB (call_isP K rfl List.mem_cons_self hz hf) (by rfl) (T.free 29) (by decide +kernel) (pa_cons (pv 0) (pa_cons (pe_grefK K rfl (T.glo 55) rfl) pa_nil))) pa_nil))))))
      (pss_cons (ps_set (i := 1) sc_w_others.nd rfl (Or.inl rfl) (pe_op op_cat (pv 1) (pe_lst (pa_cons (pe_callB (call_isP K rfl List.mem_cons_self hz hf) (by rfl) (T.free 29) (by decide +kernel) (pa_cons (pv 0) (pa_cons (pe_grefK K rfl (T.glo 56) rfl) pa_nil))) (pa_cons (pe_callB (call_isP K rfl List.mem_cons_self hz hf) (by rfl) (T.free 29) (by decide +kernel) (pa_cons (pv 0) (pa_cons (pe_grefK K rfl (T.glo 57) rfl) pa_nil))) (pa_cons (pe_callB (call_isP K rfl List.mem_cons_self hz hf) (by rfl) (T.free 29) (by decide +kernel) (pa_cons (pv 0) (pa_cons (pe_grefK K rfl (T.glo 58) rfl) pa_nil))) pa_nil))))))
      (pss_one (ps_ret (pe_op op_cat (pv 1) (pe_lst (pa_cons (pe_callB (call_isP K rfl List.mem_cons_self hz hf) (by rfl) (T.free 29) (by decide +kernel) (pa_cons (pv 0) (pa_cons (pe_grefK K rfl (T.glo 59) rfl) pa_nil))) (pa_cons (pe_callB (call_isP K rfl List.mem_cons_self hz hf) (by rfl) (T.free 29) (by decide +kernel) (pa_cons (pv 0) (pa_cons (pe_grefK K rfl (T.glo 60) rfl) pa_nil))) (pa_cons (pe_callB (call_isP K rfl List.mem_cons_self hz hf) (by rfl) (T.free 29) (by decide +kernel) (pa_cons (pv 0) (pa_cons (pe_grefK K rfl (T.glo 61) rfl) pa_nil))) pa_nil))))))))), ?_⟩
    walk_at "rd"
    refine rd_isX ec (T.exk (List.mem_of_getElem? (i := 0) rfl)) ?_
    walk_at "rd"
    refine rd_isX ec (T.exk (List.mem_of_getElem? (i := 1) rfl)) ?_
    walk_at "rd"
    refine rd_isX ec (T.exk (List.mem_of_getElem? (i := 2) rfl)) ?_
    walk_at "rd"
    refine rd_isX ec (T.exk (List.mem_of_getElem? (i := 3) rfl)) ?_
    walk_at "rd"
    refine rd_new (hn := by show 4 ≤ sizeLine; decide) fun p1 hp1 => ?_
    have s1 := same_upd (o := HO.lst [V.bl false, V.bl false, V.bl false, V.bl false]) hp1
    have L1 : (upd H p1 (HO.lst [V.bl false, V.bl false, V.bl false, V.bl false])) p1 = some (.lst [V.bl false, V.bl false, V.bl false, V.bl false]) := upd_same
    generalize upd H p1 (HO.lst [V.bl false, V.bl false, V.bl false, V.bl false]) = H1 at *
    walk_at "rd"
    refine rd_isX ec (T.exk (List.mem_of_getElem? (i := 4) rfl)) ?_
    walk_at "rd"
    refine rd_isX ec (T.exk (List.mem_of_getElem? (i := 5) rfl)) ?_
    walk_at "rd"
    refine rd_isX ec (T.exk (List.mem_of_getElem? (i := 6) rfl)) ?_
    walk_at "rd"
    refine rd_new (hn := by show 3 ≤ sizeLine; decide) fun p2 hp2 => ?_
    have s2 := same_upd (o := HO.lst [V.bl false, V.bl false, V.bl false]) hp2
    have L2 : (upd H1 p2 (HO.lst [V.bl false, V.bl false, V.bl false])) p2 = some (.lst [V.bl false, V.bl false, V.bl false]) := upd_same
    generalize upd H1 p2 (HO.lst [V.bl false, V.bl false, V.bl false]) = H2 at *
    walk_at "rd"
    refine ⟨p1, p2, _, _, rfl, rfl, s2 _ _ L1, L2, by show 7 ≤ sizeLine; decide, fun p3 hp3 => ?_⟩
    have s3 := same_upd (o := HO.lst [V.bl false, V.bl false, V.bl false, V.bl false, V.bl false, V.bl false, V.bl false]) hp3
    have L3 : (upd H2 p3 (HO.lst [V.bl false, V.bl false, V.bl false, V.bl false, V.bl false, V.bl false, V.bl false])) p3 = some (.lst [V.bl false, V.bl false, V.bl false, V.bl false, V.bl false, V.bl false, V.bl false]) := upd_same
    have eL3 : [V.bl false, V.bl false, V.bl false, V.bl false] ++ [V.bl false, V.bl false, V.bl false] = [V.bl false, V.bl false, V.bl false, V.bl false, V.bl false, V.bl false, V.bl false] := rfl
    rw [eL3]
    generalize upd H2 p3 (HO.lst [V.bl false, V.bl false, V.bl false, V.bl false, V.bl false, V.bl false, V.bl false]) = H3 at *
    walk_at "rd"
    refine rd_isX ec (T.exk (List.mem_of_getElem? (i := 7) rfl)) ?_
    walk_at "rd"
    refine rd_isX ec (T.exk (List.mem_of_getElem? (i := 8) rfl)) ?_
    walk_at "rd"
    refine rd_isX ec (T.exk (List.mem_of_getElem? (i := 9) rfl)) ?_
    walk_at "rd"
    refine rd_new (hn := by show 3 ≤ sizeLine; decide) fun p4 hp4 => ?_
    have s4 := same_upd (o := HO.lst [V.bl false, V.bl false, V.bl false]) hp4
    have L4 : (upd H3 p4 (HO.lst [V.bl false, V.bl false, V.bl false])) p4 = some (.lst [V.bl false, V.bl false, V.bl false]) := upd_same
    generalize upd H3 p4 (HO.lst [V.bl false, V.bl false, V.bl false]) = H4 at *
    walk_at "rd"
    refine ⟨p3, p4, _, _, rfl, rfl, s4 _ _ L3, L4, by show 10 ≤ sizeLine; decide, fun p5 hp5 => ?_⟩
    exact k _ p5 ((((s1.trans s2).trans s3).trans s4).trans (same_upd hp5)) upd_same
  · have ec := (T.exf (List.mem_of_getElem? (i := 1) rfl)).ec
    refine ⟨_, (pss_cons (ps_set (i := 1) sc_w_others.nd rfl (Or.inl rfl) (pe_lst (pa_cons (pe_callB (call_isP K rfl List.mem_cons_self hz hf) (by rfl) (T.free 29) (by decide +kernel) (pa_cons (pv 0) (pa_cons (pe_grefK K rfl (T.glo 52) rfl) pa_nil))) (pa_cons (pe_callB (call_isP K rfl List.mem_cons_self hz hf) (by rfl) (T.free 29) (by decide +kernel) (pa_cons (pv 0) (pa_cons (pe_grefK K rfl (T.glo 53) rfl) pa_nil))) (pa_cons (pe_callB (call_isP K rfl List.mem_cons_self hz hf) (by rfl) (T.free 29) (by decide +kernel) (pa_cons (pv 0) (pa_cons (pe_grefK K rfl (T.glo 54) rfl) pa_nil))) (pa_cons (pe_callB (call_isP K rfl List.mem_cons_self hz hf) (by rfl) (T.free 29) (by decide +kernel) (pa_cons (pv 0) (pa_cons (pe_grefK K rfl (T.glo 55) rfl) pa_nil))) pa_nil))))))
      (pss_cons (ps_set (i := 1) sc_w_others.nd rfl (Or.inl rfl) (pe_op op_cat (pv 1) (pe_lst (pa_cons (pe_callB (call_isP K rfl List.mem_cons_self hz hf) (by rfl) (T.free 29) (by decide +kernel) (pa_cons (pv 0) (pa_cons (pe_grefK K rfl (T.glo 56) rfl) pa_nil))) (pa_cons (pe_callB (call_isP K rfl List.mem_cons_self hz hf) (by rfl) (T.free 29) (by decide +kernel) (pa_cons (pv 0) (pa_cons (pe_grefK K rfl (T.glo 57) rfl) pa_nil))) (pa_cons (pe_callB (call_isP K rfl List.mem_cons_self hz hf) (by rfl) (T.free 29) (by decide +kernel) (pa_cons (pv 0) (pa_cons (pe_grefK K rfl (T.glo 58) rfl) pa_nil))) pa_nil))))))
      (pss_one (ps_ret (pe_op op_cat (pv 1) (pe_lst (pa_cons (pe_callB (call_isP K rfl List.mem_cons_self hz hf) (by rfl) (T.free 29) (by decide +kernel) (pa_cons (pv 0) (pa_cons (pe_grefK K rfl (T.glo 59) rfl) pa_nil))) (pa_cons (pe_callB (call_isP K rfl List.mem_cons_self hz hf) (by rfl) (T.free 29) (by decide +kernel) (pa_cons (pv 0) (pa_cons (pe_grefK K rfl (T.glo 60) rfl) pa_nil))) (pa_cons (pe_callB (call_isP K rfl List.mem_cons_self hz hf) (by rfl) (T.free 29) (by decide +kernel) (pa_cons (pv 0) (pa_cons (pe_grefK K rfl (T.glo 61) rfl) pa_nil))) pa_nil))))))))), ?_⟩
    walk_at "rd"
    refine rd_isX ec (T.exk (List.mem_of_getElem? (i := 15) rfl)) ?_
    walk_at "rd"
    refine rd_isX ec (T.exk (List.mem_of_getElem? (i := 16) rfl)) ?_
    walk_at "rd"
    refine rd_isX ec (T.exk (List.mem_of_getElem? (i := 17) rfl)) ?_
    walk_at "rd"
    refine rd_isX ec (T.exk (List.mem_of_getElem? (i := 18) rfl)) ?_
    walk_at "rd"
    refine rd_new (hn := by show 4 ≤ sizeLine; decide) fun p1 hp1 => ?_
    have s1 := same_upd (o := HO.lst [V.bl false, V.bl false, V.bl false, V.bl false]) hp1
    have L1 : (upd H p1 (HO.lst [V.bl false, V.bl false, V.bl false, V.bl false])) p1 = some (.lst [V.bl false, V.bl false, V.bl false, V.bl false]) := upd_same
    generalize upd H p1 (HO.lst [V.bl false, V.bl false, V.bl false, V.bl false]) = H1 at *
    walk_at "rd"
    refine rd_isX ec (T.exk (List.mem_of_getElem? (i := 19) rfl)) ?_
    walk_at "rd"
    refine rd_isX ec (T.exk (List.mem_of_getElem? (i := 20) rfl)) ?_
    walk_at "rd"
    refine rd_isX ec (T.exk (List.mem_of_getElem? (i := 21) rfl)) ?_
    walk_at "rd"
    refine rd_new (hn := by show 3 ≤ sizeLine; decide) fun p2 hp2 => ?_
    have s2 := same_upd (o := HO.lst [V.bl false, V.bl false, V.bl false]) hp2
    have L2 : (upd H1 p2 (HO.lst [V.bl false, V.bl false, V.bl false])) p2 = some (.lst [V.bl false, V.bl false, V.bl false]) := upd_same
    generalize upd H1 p2 (HO.lst [V.bl false, V.bl false, V.bl false]) = H2 at *
    walk_at "rd"
    refine ⟨p1, p2, _, _, rfl, rfl, s2 _ _ L1, L2, by show 7 ≤ sizeLine; decide, fun p3 hp3 => ?_⟩
    have s3 := same_upd (o := HO.lst [V.bl false, V.bl false, V.bl false, V.bl false, V.bl false, V.bl false, V.bl false]) hp3
    have L3 : (upd H2 p3 (HO.lst [V.bl false, V.bl false, V.bl false, V.bl false, V.bl false, V.bl false, V.bl false])) p3 = some (.lst [V.bl false, V.bl false, V.bl false, V.bl false, V.bl false, V.bl false, V.bl false]) := upd_same
    have eL3 : [V.bl false, V.bl false, V.bl false, V.bl false] ++ [V.bl false, V.bl false, V.bl false] = [V.bl false, V.bl false, V.bl false, V.bl false, V.bl false, V.bl false, V.bl false] := rfl
    rw [eL3]
    generalize upd H2 p3 (HO.lst [V.bl false, V.bl false, V.bl false, V.bl false, V.bl false, V.bl false, V.bl false]) = H3 at *
    walk_at "rd"
    refine rd_isX ec (T.exk (List.mem_of_getElem? (i := 22) rfl)) ?_
    walk_at "rd"
    refine rd_isX ec (T.exk (List.mem_of_getElem? (i := 23) rfl)) ?_
    walk_at "rd"
    refine rd_isX ec (T.exk (List.mem_of_getElem? (i := 24) rfl)) ?_
    walk_at "rd"
    refine rd_new (hn := by show 3 ≤ sizeLine; decide) fun p4 hp4 => ?_
    have s4 := same_upd (o := HO.lst [V.bl false, V.bl false, V.bl false]) hp4
    have L4 : (upd H3 p4 (HO.lst [V.bl false, V.bl false, V.bl false])) p4 = some (.lst [V.bl false, V.bl false, V.bl false]) := upd_same
    generalize upd H3 p4 (HO.lst [V.bl false, V.bl false, V.bl false]) = H4 at *
    walk_at "rd"
    refine ⟨p3, p4, _, _, rfl, rfl, s4 _ _ L3, L4, by show 10 ≤ sizeLine; decide, fun p5 hp5 => ?_⟩
    exact k _ p5 ((((s1.trans s2).trans s3).trans s4).trans (same_upd hp5)) upd_same
def sp_alone (K : PySem.W.Frag) : Value → Option Addr → Addr → Sp := fun cls d a vs H Q _ => ∃ x : Str, (x = "NoRule" ∨ x = "Restless") ∧ vs = [.ref a] ∧ cls = .ref (He.ga K x) ∧ d = none ∧ ∀ H', Same H H' → Q (.bl true) H'
theorem okE_alone (T : Env fa fn K mg) : GoodE P w K mg base 2 ("_law_alone", none) ["_law_e"] (sp_alone K) := by
  have GE_w_others := okE_others (P := P) (w := w) (base := base) T
  refine good_mkE T 45 (d := d_w_alone) (N := ["_law_e"]) (ps := ["_law_e"]) rfl rfl sc_w_alone (fun _ _ _ _ _ _ us hl => match us, hl with | [_], _ => rfl) (fun cls d a vs H Q E h => ?_) (fun f cdv A outer s H vs Q E p cls d hz hf hr h => ?_)
  · obtain ⟨x, _, rfl, _⟩ := h; rfl
  obtain ⟨x, hx, rfl, rfl, rfl, k⟩ := h
  have flat : ten.all flatV = true := rfl
  have inn : inV (.bl true) ten = false := rfl
  rcases hx with rfl | rfl
  · have ec := (T.exf (List.mem_of_getElem? (i := 0) rfl)).ec
    refine ⟨_, (pss_cons (ps_if (PW.pt (pw_or (pt_val (pe_callB (call_isP K rfl List.mem_cons_self hz hf) (by rfl) (T.free 29) (by decide +kernel) (pa_cons (pv 0) (pa_cons (pe_grefK K rfl (T.glo 63) rfl) pa_nil)))) (pw_or1 (pt_cmpR (op_inK K rfl) pe_bl (pe_callE K rfl GE_w_others (hr.mono (by decide)) hf List.mem_cons_self hz (T.glo 62) (pa_cons (pv 0) pa_nil)) (by first | exact nomark _ | rfl))))) (pss_one (ps_ret pe_bl)) pss_nil)
      (pss_one (ps_ret (pe_and (pe_callB (call_isP K rfl List.mem_cons_self hz hf) (by rfl) (T.free 29) (by decide +kernel) (pa_cons (pv 0) (pa_cons (pe_grefK K rfl (T.glo 65) rfl) pa_nil))) (pe_one (pe_callB (call_isP K rfl List.mem_cons_self hz hf) (by rfl) (T.free 29) (by decide +kernel) (pa_cons (pv 0) (pa_cons (pe_bltn (v := V.ty "ValueError") rfl (T.free 64) (by decide +kernel) rfl) pa_nil)))))))), ?_⟩
    walk_at "rd"
    refine rd_isX ec (T.exk (List.mem_of_getElem? (i := 10) rfl)) ?_
    walk_at "rd"
    refine rd_callE ?_
    walk_at "rd"
    refine ⟨"NoRule", by simp, rfl, rfl, rfl, fun H1 l s1 L1 => ?_⟩
    refine ⟨l, _, rfl, .inl (SqL.of L1), rfl, flat, ?_⟩
    rw [inn, show (if (false : Bool) = true then !false else false) = false from rfl]
    walk_at "rd"
    refine rd_isX ec (T.exk (List.mem_of_getElem? (i := 12) rfl)) ?_
    walk_at "rd"
    refine rd_isXT ec (T.exk (List.mem_of_getElem? (i := 11) rfl)) ?_
    exact k H1 s1
  · have ec := (T.exf (List.mem_of_getElem? (i := 1) rfl)).ec
    refine ⟨_, (pss_cons (ps_if (PW.pt (pw_or (pt_val (pe_callB (call_isP K rfl List.mem_cons_self hz hf) (by rfl) (T.free 29) (by decide +kernel) (pa_cons (pv 0) (pa_cons (pe_grefK K rfl (T.glo 63) rfl) pa_nil)))) (pw_or1 (pt_cmpR (op_inK K rfl) pe_bl (pe_callE K rfl GE_w_others (hr.mono (by decide)) hf List.mem_cons_self hz (T.glo 62) (pa_cons (pv 0) pa_nil)) (by first | exact nomark _ | rfl))))) (pss_one (ps_ret pe_bl)) pss_nil)
      (pss_one (ps_ret (pe_and (pe_callB (call_isP K rfl List.mem_cons_self hz hf) (by rfl) (T.free 29) (by decide +kernel) (pa_cons (pv 0) (pa_cons (pe_grefK K rfl (T.glo 65) rfl) pa_nil))) (pe_one (pe_callB (call_isP K rfl List.mem_cons_self hz hf) (by rfl) (T.free 29) (by decide +kernel) (pa_cons (pv 0) (pa_cons (pe_bltn (v := V.ty "ValueError") rfl (T.free 64) (by decide +kernel) rfl) pa_nil)))))))), ?_⟩
    walk_at "rd"
    refine rd_isX ec (T.exk (List.mem_of_getElem? (i := 25) rfl)) ?_
    walk_at "rd"
    refine rd_callE ?_
    walk_at "rd"
    refine ⟨"Restless", by simp, rfl, rfl, rfl, fun H1 l s1 L1 => ?_⟩
    refine ⟨l, _, rfl, .inl (SqL.of L1), rfl, flat, ?_⟩
    rw [inn, show (if (false : Bool) = true then !false else false) = false from rfl]
    walk_at "rd"
    refine rd_isX ec (T.exk (List.mem_of_getElem? (i := 27) rfl)) ?_
    walk_at "rd"
    refine rd_isXT ec (T.exk (List.mem_of_getElem? (i := 26) rfl)) ?_
    exact k H1 s1
def sp_said (K : PySem.W.Frag) : Sp := fun vs H Q _ => ∃ x : V, vs = [x] ∧ ((NoTx H x ∧ ∀ H' t, Same H H' → H' t = some (.tup [.str (Str.ofString "no rule"), .bl true]) → Q (.ref t) H') ∨ ∃ (L : List Nat) (wd : Str) (v : V), x = .str (tx L) ∧ L.length ≤ 850 ∧ SaidD L wd v ∧ ∀ H' t, Same H H' → H' t = some (.tup [.str wd, v]) → Q (.ref t) H')
set_option maxHeartbeats 8000000 in
theorem ok_said (T : Env fa fn K mg) : Good P w K mg base CX0 8 ("_law_said", none) ["_law_thing"] (sp_said K) := by
  have G_read_rule := ok_read_rule (P := P) (w := w) (base := base) T
  have GX_read_rule := okX_read_rule (P := P) (w := w) (base := base) T
  have GE_w_alone := okE_alone (P := P) (w := w) (base := base) T
  have G_shown_rule := ok_shown (P := P) (w := w) (base := base) T
  refine good_mk T 46 (d := d_w_said) (N := ["_law_thing", "_law_found", "_law_e"]) (ps := ["_law_thing"]) rfl rfl sc_w_said (fun _ _ _ _ _ _ us hl => match us, hl with | [_], _ => rfl) (fun vs H Q E h => ?_) (fun f cdv A outer σ0 H vs Q E hr h => ?_)
  · obtain ⟨x, rfl, _⟩ := h; rfl
  obtain ⟨x, rfl, h⟩ := h
  refine ⟨_, (pss_cons (ps_set (i := 1) sc_w_said.nd rfl (Or.inl rfl) pe_non)
      (pss_cons (ps_tryN K rfl rfl rfl sc_w_said.nd takes0N (fun W pn xe tk pw => (pss_one (ps_set (i := 1) sc_w_said.nd rfl (Or.inl rfl) (pe_or (pe_cgX K rfl tk GX_read_rule (hr.mono (by decide)) (T.glo 66) (pa_cons (pv 0) pa_nil)) (pe_cgK K rfl G_read_rule (hr.mono (by decide)) (T.glo 66) (pa_cons (pv 0) pa_nil))))))
      (.named (i := 2) ⟨rfl, by decide, .inl (T.glo 34)⟩ rfl rfl (fun a oe cls d pn hz hf => (pss_one (ps_ret (pe_tup (pa_cons pe_str (pa_cons (pe_and (pe_callE K rfl GE_w_alone (roomH_suite hr (by decide)) hf List.mem_cons_self (L2N.Zn.zc hz) (T.glo 67) (pa_cons (pv 2) pa_nil)) (pe_one (pe_not (pe_callB (call_isP K rfl List.mem_cons_self (L2N.Zn.zc hz) hf) (by rfl) (T.free 29) (by decide +kernel) (pa_cons (pv 2) (pa_cons (pe_grefK K rfl (T.glo 17) rfl) pa_nil)))))) pa_nil))))))
      (.named (i := 2) ⟨rfl, by decide, .inl (T.glo 17)⟩ rfl rfl (fun a oe cls d pn hz hf => (pss_one (ps_ret (pe_tup (pa_cons pe_str (pa_cons (pe_callE K rfl GE_w_alone (roomH_suite hr (by decide)) hf List.mem_cons_self (L2N.Zn.zc hz) (T.glo 67) (pa_cons (pv 2) pa_nil)) pa_nil))))))
      .nil)))
      (pss_one (ps_ret (pe_tup (pa_cons pe_str (pa_cons (pe_cgK K rfl G_shown_rule (hr.mono (by decide)) (T.glo 68) (pa_cons (pv 1) pa_nil)) pa_nil))))))), ?_⟩
  have norule : ∀ H1, (∀ H' t, Same H1 H' → H' t = some (.tup [.str (Str.ofString "no rule"), .bl true]) → Q (.ref t) H') → True := fun _ _ => trivial
  walk_at "rd"
  refine rd_tryN ?_
  walk_at "rd"
  rcases h with ⟨hx, k⟩ | ⟨L, wd, v, rfl, hl, hs, k⟩
  · refine .inl ?_
    refine rd_callS ?_
    walk_at "rd"
    refine ⟨x, rfl, .inl ⟨hx, ?_⟩⟩
    have ec := (T.exf (List.mem_of_getElem? (i := 0) rfl)).ec
    refine wNm_no (T.exm (List.mem_of_getElem? (i := 13) rfl)) ?_
    refine wNm_yesN (T.exm (List.mem_of_getElem? (i := 14) rfl)) fun b hb => ?_
    walk_at "rd"
    refine rd_callE ?_
    walk_at "rd"
    refine ⟨"NoRule", .inl rfl, rfl, rfl, rfl, fun H2 s2 => ?_⟩
    walk_at "rd"
    refine rd_new (hn := by show 2 ≤ sizeLine; decide) fun t ht => ?_
    exact k _ t (s2.trans (same_upd ht)) upd_same
  rcases hs with ⟨no, rfl, rfl⟩ | ⟨cs, hw, eL, ⟨hm, rfl, rfl⟩ | ⟨hm, rfl, rfl⟩⟩
  · refine .inl ?_
    refine rd_callS ?_
    walk_at "rd"
    refine ⟨_, rfl, .inr ⟨L, rfl, by omega, .inl ⟨no, fun H1 s1 => ?_⟩⟩⟩
    have ec := (T.exf (List.mem_of_getElem? (i := 0) rfl)).ec
    refine wNm_no (T.exm (List.mem_of_getElem? (i := 13) rfl)) ?_
    refine wNm_yesN (T.exm (List.mem_of_getElem? (i := 14) rfl)) fun b hb => ?_
    walk_at "rd"
    refine rd_callE ?_
    walk_at "rd"
    refine ⟨"NoRule", .inl rfl, rfl, rfl, rfl, fun H2 s2 => ?_⟩
    walk_at "rd"
    refine rd_new (hn := by show 2 ≤ sizeLine; decide) fun t ht => ?_
    exact k _ t (s1.trans (s2.trans (same_upd ht))) upd_same
  · refine .inl ?_
    refine rd_callS ?_
    walk_at "rd"
    refine ⟨_, rfl, .inr ⟨L, rfl, by omega, .inr ⟨cs, hw, eL, hm, fun H1 s1 => ?_⟩⟩⟩
    have ec := (T.exf (List.mem_of_getElem? (i := 1) rfl)).ec
    refine wNm_yesN (T.exm (List.mem_of_getElem? (i := 28) rfl)) fun b hb => ?_
    walk_at "rd"
    refine rd_callE ?_
    walk_at "rd"
    refine ⟨"Restless", .inr rfl, rfl, rfl, rfl, fun H2 s2 => ?_⟩
    walk_at "rd"
    refine rd_isX ec (T.exk (List.mem_of_getElem? (i := 29) rfl)) ?_
    walk_at "rd"
    refine rd_new (hn := by show 2 ≤ sizeLine; decide) fun t ht => ?_
    exact k _ t (s1.trans (s2.trans (same_upd ht))) upd_same
  · have hmem : ∀ c ∈ cs, (claT c).length ≤ 900 := fun c m => by
      have := joinL_mem (S := [59, 32]) (ws := cs.map claT) (List.mem_map_of_mem m)
      have e : (TL.joinL [59, 32] (cs.map claT)).length = L.length := by rw [eL]; rfl
      omega
    have hcl : cs.length ≤ 851 := by
      have := joinL_count (S := [59, 32]) (by simp) (cs.map claT)
      have e : (TL.joinL [59, 32] (cs.map claT)).length = L.length := by rw [eL]; rfl
      rw [List.length_map] at this
      omega
    refine .inr ?_
    walk_at "rd"
    refine ⟨cs, by rw [eL]; rfl, ⟨hw, fun c m => ⟨by have := hmem c m; omega, by have := conds_len c; have := hmem c m; omega⟩, by omega, by rw [← eL]; omega, hm⟩, fun H1 r s1 hR => ?_⟩
    walk_at "rd"
    refine ⟨r, cs, rfl, hR, fun c m => ⟨hw c m, by have := conds_len c; have := hmem c m; omega⟩, by omega, fun H2 s2 => ?_⟩
    walk_at "rd"
    refine rd_new (hn := by show 2 ≤ sizeLine; decide) fun t ht => ?_
    exact k _ t (s1.trans (s2.trans (same_upd ht))) (by rw [upd_same, eL])
def sp_due : Sp := fun vs H Q _ => ∃ (L : List Nat) (wd : Str) (v : V), vs = [.str (tx L)] ∧ L.length ≤ 850 ∧ SaidD L wd v ∧ ∀ H' t, Same H H' → H' t = some (.tup [.str wd, v]) → Q (.ref t) H'
theorem ok_due (T : Env fa fn K mg) : Good P w K mg base CX0 6 ("_law_due", none) ["_law_line"] sp_due := by
  have G_w_clauses_read := ok_clasR (P := P) (w := w) (base := base) T
  have G_w_becomes := ok_lbecomes (P := P) (w := w) (base := base) T
  refine good_mk T 47 (d := d_w_due) (N := ["_law_line", "_law_clauses"]) (ps := ["_law_line"]) rfl rfl sc_w_due (fun _ _ _ _ _ _ us hl => match us, hl with | [_], _ => rfl) (fun vs H Q E h => ?_) (fun f cdv A outer σ0 H vs Q E hr h => ?_)
  · obtain ⟨L, wd, v, rfl, _⟩ := h; rfl
  obtain ⟨L, wd, v, rfl, hl, hs, k⟩ := h
  refine ⟨_, (pss_cons (ps_set (i := 1) sc_w_due.nd rfl (Or.inl rfl) (pe_cgK K rfl G_w_clauses_read (hr.mono (by decide)) (T.glo 69) (pa_cons (pv 0) pa_nil)))
      (pss_cons (ps_if (pt_cmpR op_isN (pv 1) pe_non (nomark _)) (pss_one (ps_ret (pe_tup (pa_cons pe_str (pa_cons pe_bl pa_nil))))) pss_nil)
      (pss_cons (ps_if (pt_cmpR op_ne (pe_cgK K rfl G_w_becomes (hr.mono (by decide)) (T.glo 44) (pa_cons (pv 1) (pa_cons pe_int (pa_cons (pe_lst (pa_cons pe_int (pa_cons pe_int (pa_cons pe_int (pa_cons pe_int (pa_cons pe_int (pa_cons pe_int (pa_cons pe_int (pa_cons pe_int pa_nil))))))))) pa_nil)))) pe_int (nomark _)) (pss_one (ps_ret (pe_tup (pa_cons pe_str (pa_cons pe_bl pa_nil))))) pss_nil)
      (pss_one (ps_ret (pe_tup (pa_cons pe_str (pa_cons (pv 0) pa_nil)))))))), ?_⟩
  walk_at "rd"
  refine ⟨L, rfl, by omega, fun H1 x s1 hx => ?_⟩
  walk_at "rd"
  rcases hx with ⟨cs', p, us, hw', eL', rfl, hp, hall⟩ | ⟨no, rfl⟩
  · rw [decide_eq_false (show ¬ V.ref p = V.non from fun z => by cases z)]
    rcases hs with ⟨no, _⟩ | ⟨cs, hw, eL, hs⟩
    · exact absurd ⟨cs', hw', eL'⟩ no
    obtain rfl : cs' = cs := ruleT_inj hw' hw (eL'.symm.trans eL)
    have hcl : cs'.length ≤ 1000 := by
      have := joinL_count (S := [59, 32]) (by simp) (cs'.map claT)
      have e : (TL.joinL [59, 32] (cs'.map claT)).length = L.length := by rw [eL]; rfl
      rw [List.length_map] at this
      omega
    walk_at "rd"
    refine rd_new (hn := by show 8 ≤ sizeLine; decide) fun pz hpz => ?_
    have s2 := same_upd (o := .lst [V.int 0, V.int 0, V.int 0, V.int 0, V.int 0, V.int 0, V.int 0, V.int 0]) hpz
    walk_at "rd"
    refine ⟨p, pz, us, cs', 0, eights, rfl, s2 _ _ hp, hall.imp fun _ _ h => h.same s2, hw, hcl, upd_same, rfl, fun H3 s3 => ?_⟩
    have s13 := (s1.trans s2).trans s3
    walk_at "rd"
    rcases hs with ⟨hm, rfl, rfl⟩ | ⟨hm, rfl, rfl⟩
    · rw [decide_eq_false hm]
      walk_at "rd"
      refine rd_new (hn := by show 2 ≤ sizeLine; decide) fun t ht => ?_
      exact k _ t (s13.trans (same_upd ht)) upd_same
    · rw [decide_eq_true hm]
      walk_at "rd"
      refine rd_new (hn := by show 2 ≤ sizeLine; decide) fun t ht => ?_
      exact k _ t (s13.trans (same_upd ht)) upd_same
  · rw [decide_eq_true rfl]
    walk_at "rd"
    rcases hs with ⟨_, rfl, rfl⟩ | ⟨cs, hw, eL, _⟩
    · refine rd_new (hn := by show 2 ≤ sizeLine; decide) fun t ht => ?_
      exact k _ t (s1.trans (same_upd ht)) upd_same
    · exact absurd ⟨cs, hw, eL⟩ no
end
end JF

/-! ### law k06: texts spoiled; the law -/
namespace JF
open PySem PySem.Spec PyProof.Rows L2
def TxL (L : List Nat) (k : Nat) : Prop := L.length ≤ k ∧ Low L
theorem TxL.app {A B : List Nat} {k k' : Nat} (h : TxL A k) (h' : TxL B k') : TxL (A ++ B) (k + k') := ⟨by rw [List.length_append]; exact Nat.add_le_add h.1 h'.1, h.2.app h'.2⟩
theorem TxL.mono {A : List Nat} {k k' : Nat} (h : TxL A k) (hk : k ≤ k') : TxL A k' := ⟨Nat.le_trans h.1 hk, h.2⟩
theorem TxL.take {A : List Nat} {k : Nat} (h : TxL A k) (i : Nat) : TxL (A.take i) k := ⟨Nat.le_trans (by rw [List.length_take]; exact Nat.min_le_right _ _) h.1, fun c m => h.2 c (List.mem_of_mem_take m)⟩
theorem TxL.drop {A : List Nat} {k : Nat} (h : TxL A k) (i : Nat) : TxL (A.drop i) k := ⟨Nat.le_trans (by rw [List.length_drop]; exact Nat.sub_le _ _) h.1, fun c m => h.2 c (List.mem_of_mem_drop m)⟩
theorem TxL.cut {L : List Nat} {k : Nat} (h : TxL L k) {d : Nat} (hd : d < 1000) (i j : Nat) (hij : i ≤ j) : TxL (L.take i ++ [d] ++ L.drop j) (k + 1) ∧ TxL (L.take i ++ L.drop j) (k + 1) := by
  obtain ⟨a1, a2⟩ := h
  have lw : Low (L.take i ++ L.drop j) := fun c m => (List.mem_append.mp m).elim (fun m => a2 c (List.mem_of_mem_take m)) (fun m => a2 c (List.mem_of_mem_drop m))
  refine ⟨⟨?_, fun c m => ?_⟩, ⟨?_, lw⟩⟩
  · simp only [List.length_append, List.length_take, List.length_drop, List.length_singleton]
    omega
  · rcases List.mem_append.mp m with m | m
    · rcases List.mem_append.mp m with m | m
      · exact lw c (List.mem_append_left _ m)
      · rw [List.mem_singleton.mp m]; exact hd
    · exact lw c (List.mem_append_right _ m)
  · simp only [List.length_append, List.length_take, List.length_drop]
    omega
theorem tx_app (l m : List Nat) : tx l ++ tx m = tx (l ++ m) := TL.ext_tl (by rw [TL.tl_append])
theorem atI_ex {α : Type} {l : List α} {k : Int} (h0 : 0 ≤ k) (h1 : k < (l.length : Int)) : ∃ x, x ∈ l ∧ atI l k = some x := by
  obtain ⟨n, rfl⟩ := nat_of h0
  have hn : n < l.length := by omega
  exact ⟨l[n], List.getElem_mem hn, atI_nat (at_get hn)⟩
theorem pick_txt {l : List V} {k : Int} {b : Nat} (h0 : 0 ≤ k) (h1 : k < (l.length : Int)) (h : ∀ v ∈ l, ∃ z : Str, v = .str z ∧ (TL.tl z).length ≤ b ∧ (TL.tl z).all (· < 1000) = true) : ∃ W, atI l k = some (.str (tx W)) ∧ TxL W b := by
  obtain ⟨x, m, e⟩ := atI_ex h0 h1
  obtain ⟨z, rfl, a1, a3⟩ := h x m
  refine ⟨TL.tl z, by rw [e], a1, fun c m => ?_⟩
  exact of_decide_eq_true (List.all_eq_true.mp a3 c m)
theorem pick_sgn {z : Str} {k : Int} (h0 : 0 ≤ k) (h1 : k < ((TL.tl z).length : Int)) (h : (TL.tl z).all (· < 1000) = true) : ∃ c, atI z.cps.toList k = some c ∧ c < 1000 := by
  obtain ⟨c, m, e⟩ := atI_ex h0 h1
  exact ⟨c, e, of_decide_eq_true (List.all_eq_true.mp h c m)⟩
theorem cut_to (L : List Nat) (b : Nat) : cutS (tx L) none (some (b : Int)) = tx (L.take b) := by
  have e1 : HT.sIx (tx L).length (tx L).length (some (b : Int)) = min b (tx L).length := HT.sIx_nat _ _ b
  refine TL.ext_tl ?_
  show (L.drop 0).take (HT.sIx (tx L).length (tx L).length (some (b : Int)) - 0) = L.take b
  rw [e1, len_tx, List.drop_zero, Nat.sub_zero]
  rcases Nat.lt_or_ge b L.length with h | h
  · rw [Nat.min_eq_left (Nat.le_of_lt h)]
  · rw [Nat.min_eq_right h, List.take_length, List.take_of_length_le h]
theorem cut_from (L : List Nat) (a : Nat) : cutS (tx L) (some (a : Int)) none = tx (L.drop a) := by
  have e1 : HT.sIx (tx L).length 0 (some (a : Int)) = min a (tx L).length := HT.sIx_nat _ _ a
  have e2 : HT.sIx (tx L).length (tx L).length none = (tx L).length := rfl
  refine TL.ext_tl ?_
  unfold cutS
  rw [e1, e2, len_tx]
  show (L.drop (min a L.length)).take (L.length - min a L.length) = L.drop a
  rcases Nat.lt_or_ge L.length a with h | h
  · rw [List.drop_eq_nil_of_le (by omega), List.drop_eq_nil_of_le (by omega)]; simp
  · rw [Nat.min_eq_left h, List.take_of_length_le (by rw [List.length_drop]; exact Nat.le_refl _)]
theorem log30z {i : Int} (h : i.natAbs < 1000) : i.natAbs.log2 < 1920 := Nat.lt_of_le_of_lt (Nat.log2_le_self _) (by omega)
section
variable {P : Program} {w : World} {K : PySem.W.Frag} {mg : Str → Option Value} {base : Heap}
def sp_signL : Sp := fun vs H Q _ => ∃ c : Int, vs = [.int c] ∧ ∀ d : Nat, d < 1000 → Q (.str (tx [d])) H
theorem mp_signL : MonP sp_signL := fun vs H Q Q' E h ⟨c, x1, k⟩ => ⟨c, x1, fun L b => h _ _ (k L b)⟩
theorem ok_signL (T : Env fa fn K mg) : Good P w K mg base CX0 1 ("_law_sign_by", none) ["_law_cell"] sp_signL := by
  refine good_mk T 40 (d := d_w_sign_by) (N := ["_law_cell", "_law_some"]) (ps := ["_law_cell"]) rfl rfl sc_w_sign_by (fun _ _ _ _ _ _ us hl => match us, hl with | [_], _ => rfl) (fun vs H Q E h => ?_) (fun f cdv A outer s H vs Q E hr h => ?_)
  · obtain ⟨c, rfl, _⟩ := h; rfl
  · obtain ⟨c, rfl, k⟩ := h
    have hsz := sizeBig
    refine ⟨_, (pss_cons (ps_set (i := 1) sc_w_sign_by.nd rfl (Or.inl rfl) (pe_op op_add_str pe_str pe_str))
      (pss_cons (ps_set (i := 1) sc_w_sign_by.nd rfl (Or.inl rfl) (pe_op op_add_str (pv 1) pe_str))
      (pss_cons (ps_if (pt_cmpR op_eq (pe_op op_mod (pv 0) pe_int) pe_int (nomark _)) (pss_one (ps_ret (pe_ix ix_str (pv 1) (pe_op op_mod (pe_op op_fdivW (pv 0) pe_int) pe_int) (fun _ _ => rfl)))) pss_nil)
      (pss_one (ps_ret (pe_ix ix_str (pv 1) (pe_op op_mod (pe_op op_fdivW (pv 0) pe_int) (pe_callB call_len_str (by rfl) (T.free 15) (by decide +kernel) (pa_cons (pv 1) pa_nil))) (fun _ _ => rfl))))))), ?_⟩
    walk_at "rd"
    refine ⟨_, _, rfl, rfl, by decide +kernel, ?_⟩
    walk_at "rd"
    refine ⟨_, _, rfl, rfl, by decide +kernel, ?_⟩
    obtain ⟨Z, hZ⟩ : ∃ Z, Z = Str.ofString "01234567*=; 8" ++ Str.ofString "abcdefghijklmnopqrstuvwxyzABCDEFGHIJKLMNOPQRSTUVWXYZ9" ++ Str.ofString "!\"#$&'()+,-./:<>?\x40[\\]^_`{|}~\n\t" := ⟨_, rfl⟩
    rw [← hZ]
    have h1 : (13 < (TL.tl Z).length ∧ (TL.tl Z).length ≤ 1000) ∧ (TL.tl Z).all (· < 1000) = true := by
      rw [hZ]
      decide +kernel
    have hlen := TL.len_tl Z
    walk_at "rd"
    refine ite_d (fun z => ?_) (fun z => ?_)
    · walk_at "rd"
      obtain ⟨d, hd, td⟩ := pick_sgn (z := Z) (k := c / 2 % 13) (by omega) (by omega) h1.2
      exact ⟨_, _, d, rfl, rfl, by omega, hd, k d td⟩
    · walk_at "rd"
      refine ⟨_, rfl, by omega, ?_⟩
      walk_at "rd"
      have g0 := Int.emod_nonneg (c / 2) (show ((Z.length : Nat) : Int) ≠ 0 by omega)
      have g1 := Int.emod_lt_of_pos (c / 2) (show (0 : Int) < ((Z.length : Nat) : Int) by omega)
      refine rd_mod (by omega) ?_
      obtain ⟨d, hd, td⟩ := pick_sgn (z := Z) g0 (by omega) h1.2
      exact ⟨_, _, d, rfl, rfl, by omega, hd, k d td⟩
def sp_oddL : Sp := fun vs H Q _ => ∃ c : Int, vs = [.int c] ∧ ∀ H' L, Same H H' → TxL L 13 → Q (.str (tx L)) H'
theorem mp_oddL : MonP sp_oddL := fun vs H Q Q' E h ⟨c, x1, k⟩ => ⟨c, x1, fun H' L a b => h _ _ (k H' L a b)⟩
theorem ok_oddL (T : Env fa fn K mg) : Good P w K mg base CX0 1 ("_law_odd", none) ["_law_cell"] sp_oddL := by
  refine good_mk T 41 (d := d_w_odd) (N := ["_law_cell", "_law_some"]) (ps := ["_law_cell"]) rfl rfl sc_w_odd (fun _ _ _ _ _ _ us hl => match us, hl with | [_], _ => rfl) (fun vs H Q E h => ?_) (fun f cdv A outer s H vs Q E hr h => ?_)
  · obtain ⟨c, rfl, _⟩ := h; rfl
  · obtain ⟨c, rfl, k⟩ := h
    obtain ⟨w1, e1⟩ : ∃ ws, ws = [V.str (Str.ofString "0"), V.str (Str.ofString "*"), V.str (Str.ofString " "), V.str (Str.ofString ";"), V.str (Str.ofString "; "), V.str (Str.ofString "0 1; "), V.str (Str.ofString "; 0 1"), V.str (Str.ofString "0  0"), V.str (Str.ofString "0 0 "), V.str (Str.ofString " 0 0"), V.str (Str.ofString "8 0"), V.str (Str.ofString "0 8")] := ⟨_, rfl⟩
    obtain ⟨w2, e2⟩ : ∃ ws, ws = [V.str (Str.ofString "0 *"), V.str (Str.ofString "1 1= 1"), V.str (Str.ofString "1 1=32 1"), V.str (Str.ofString "1 1=33 1"), V.str (Str.ofString "1 1=9 1"), V.str (Str.ofString "1 ******* 1"), V.str (Str.ofString "1 ********* 1"), V.str (Str.ofString "1 8=1 1")] := ⟨_, rfl⟩
    obtain ⟨w3, e3⟩ : ∃ ws, ws = [V.str (Str.ofString "1 *=1 1"), V.str (Str.ofString "1 0;2 0"), V.str (Str.ofString "1 0 ; 2 0"), V.str (Str.ofString "01 1")] := ⟨_, rfl⟩
    have l1 : w1.length = 12 := by rw [e1]; rfl
    have l2 : w2.length = 8 := by rw [e2]; rfl
    have l3 : w3.length = 4 := by rw [e3]; rfl
    have p1 : ∀ v ∈ w1, ∃ z : Str, v = .str z ∧ (TL.tl z).length ≤ 13 ∧ (TL.tl z).all (· < 1000) = true := by
      intro v m
      rw [e1] at m
      simp only [List.mem_cons, List.not_mem_nil, or_false] at m
      rcases m with rfl | rfl | rfl | rfl | rfl | rfl | rfl | rfl | rfl | rfl | rfl | rfl <;> exact ⟨_, rfl, by decide +kernel, by decide +kernel⟩
    have p2 : ∀ v ∈ w2, ∃ z : Str, v = .str z ∧ (TL.tl z).length ≤ 13 ∧ (TL.tl z).all (· < 1000) = true := by
      intro v m
      rw [e2] at m
      simp only [List.mem_cons, List.not_mem_nil, or_false] at m
      rcases m with rfl | rfl | rfl | rfl | rfl | rfl | rfl | rfl <;> exact ⟨_, rfl, by decide +kernel, by decide +kernel⟩
    have p3 : ∀ v ∈ w3, ∃ z : Str, v = .str z ∧ (TL.tl z).length ≤ 13 ∧ (TL.tl z).all (· < 1000) = true := by
      intro v m
      rw [e3] at m
      simp only [List.mem_cons, List.not_mem_nil, or_false] at m
      rcases m with rfl | rfl | rfl | rfl <;> exact ⟨_, rfl, by decide +kernel, by decide +kernel⟩
    refine ⟨_, (pss_cons (ps_set (i := 1) sc_w_odd.nd rfl (Or.inl rfl) (pe_lst (pa_cons pe_str (pa_cons pe_str (pa_cons pe_str (pa_cons pe_str (pa_cons pe_str (pa_cons pe_str (pa_cons pe_str (pa_cons pe_str (pa_cons pe_str (pa_cons pe_str (pa_cons pe_str (pa_cons pe_str pa_nil))))))))))))))
      (pss_cons (ps_set (i := 1) sc_w_odd.nd rfl (Or.inl rfl) (pe_op op_cat (pv 1) (pe_lst (pa_cons pe_str (pa_cons pe_str (pa_cons pe_str (pa_cons pe_str (pa_cons pe_str (pa_cons pe_str (pa_cons pe_str (pa_cons pe_str pa_nil)))))))))))
      (pss_cons (ps_set (i := 1) sc_w_odd.nd rfl (Or.inl rfl) (pe_op op_cat (pv 1) (pe_lst (pa_cons pe_str (pa_cons pe_str (pa_cons pe_str (pa_cons pe_str pa_nil)))))))
      (pss_one (ps_ret (pe_ix (ix_listK K rfl) (pv 1) (pe_op op_mod (pv 0) pe_int) (fun _ _ => rfl))))))), ?_⟩
    walk_at "rd"
    refine rd_new (hn := by show 12 ≤ sizeLine; decide) fun q1 hq1 => ?_
    rw [← e1]
    have s1 := same_upd (o := HO.lst w1) hq1
    have L1 : (upd H q1 (HO.lst w1)) q1 = some (.lst w1) := upd_same
    generalize upd H q1 (HO.lst w1) = H1 at *
    walk_at "rd"
    refine rd_new (hn := by show 8 ≤ sizeLine; decide) fun q2 hq2 => ?_
    rw [← e2]
    have s2 := same_upd (o := HO.lst w2) hq2
    have L2 : (upd H1 q2 (HO.lst w2)) q2 = some (.lst w2) := upd_same
    generalize upd H1 q2 (HO.lst w2) = H2 at *
    refine ⟨q1, q2, _, _, rfl, rfl, s2 _ _ L1, L2, by rw [l1, l2]; decide, fun q3 hq3 => ?_⟩
    have s3 := same_upd (o := HO.lst (w1 ++ w2)) hq3
    have L3 : (upd H2 q3 (HO.lst (w1 ++ w2))) q3 = some (.lst (w1 ++ w2)) := upd_same
    generalize upd H2 q3 (HO.lst (w1 ++ w2)) = H3 at *
    walk_at "rd"
    refine rd_new (hn := by show 4 ≤ sizeLine; decide) fun q4 hq4 => ?_
    rw [← e3]
    have s4 := same_upd (o := HO.lst w3) hq4
    have L4 : (upd H3 q4 (HO.lst w3)) q4 = some (.lst w3) := upd_same
    generalize upd H3 q4 (HO.lst w3) = H4 at *
    refine ⟨q3, q4, _, _, rfl, rfl, s4 _ _ L3, L4, by rw [List.length_append, l1, l2, l3]; decide, fun q5 hq5 => ?_⟩
    have s5 := same_upd (o := HO.lst (w1 ++ w2 ++ w3)) hq5
    have L5 : (upd H4 q5 (HO.lst (w1 ++ w2 ++ w3))) q5 = some (.lst (w1 ++ w2 ++ w3)) := upd_same
    generalize upd H4 q5 (HO.lst (w1 ++ w2 ++ w3)) = H5 at *
    walk_at "rd"
    obtain ⟨W, hW, tw⟩ := pick_txt (l := w1 ++ w2 ++ w3) (k := c % 24) (b := 13) (by omega) (by rw [List.length_append, List.length_append, l1, l2, l3]; omega) (fun v m => by
      rcases List.mem_append.mp m with m | m
      · rcases List.mem_append.mp m with m | m
        · exact p1 v m
        · exact p2 v m
      · exact p3 v m)
    refine rd_ixL (SqL.of L5) hW ?_
    exact k H5 W ((((s1.trans s2).trans s3).trans s4).trans s5) tw
def sp_aheadL : Sp := fun vs H Q _ => ∃ c : Int, vs = [.int c] ∧ ∀ H' L, Same H H' → TxL L 30 → Q (.str (tx L)) H'
theorem mp_aheadL : MonP sp_aheadL := fun vs H Q Q' E h ⟨c, x1, k⟩ => ⟨c, x1, fun H' L a b => h _ _ (k H' L a b)⟩
theorem lit {z : String} {k : Nat} (h : (TL.tl (Str.ofString z)).length ≤ k ∧ (TL.tl (Str.ofString z)).all (· < 1000) = true) : Str.ofString z = tx (TL.tl (Str.ofString z)) ∧ TxL (TL.tl (Str.ofString z)) k := ⟨TL.ext_tl rfl, h.1, fun c m => of_decide_eq_true (List.all_eq_true.mp h.2 c m)⟩
theorem ok_aheadL (T : Env fa fn K mg) : Good P w K mg base CX0 1 ("_law_ahead", none) ["_law_cell"] sp_aheadL := by
  refine good_mk T 42 (d := d_w_ahead) (N := ["_law_cell", "_law_state"]) (ps := ["_law_cell"]) rfl rfl sc_w_ahead (fun _ _ _ _ _ _ us hl => match us, hl with | [_], _ => rfl) (fun vs H Q E h => ?_) (fun f cdv A outer s H vs Q E hr h => ?_)
  · obtain ⟨c, rfl, _⟩ := h; rfl
  · obtain ⟨c, rfl, k⟩ := h
    have hsz := sizeBig
    obtain ⟨es, ts⟩ := lit (z := "; ") (k := 2) (by decide +kernel)
    obtain ⟨e0, t0⟩ := lit (z := "=0 ") (k := 3) (by decide +kernel)
    obtain ⟨e1, t1⟩ := lit (z := "* ") (k := 2) (by decide +kernel)
    obtain ⟨e2, t2⟩ := lit (z := "0 0=08 *0****0* ") (k := 16) (by decide +kernel)
    obtain ⟨e3, t3⟩ := lit (z := "0 0=8 ") (k := 6) (by decide +kernel)
    generalize TL.tl (Str.ofString "; ") = Ts at *
    generalize TL.tl (Str.ofString "=0 ") = T0 at *
    generalize TL.tl (Str.ofString "* ") = T1 at *
    generalize TL.tl (Str.ofString "0 0=08 *0****0* ") = T2 at *
    generalize TL.tl (Str.ofString "0 0=8 ") = T3 at *
    obtain ⟨dg, hdg⟩ : ∃ dg : Nat, 1 + c / 4 % 7 = (dg : Int) := nat_of (by omega)
    have edg : Str.ofString (toString (dg : Int)) = tx [48 + dg] := TL.ext_tl (tl_int (by omega))
    have td : TxL [48 + dg] 1 := ⟨Nat.le_refl _, fun c m => by rw [List.mem_singleton.mp m]; omega⟩
    have b0 := t0.1; have b1 := t1.1; have b2 := t2.1; have b3 := t3.1; have bs := ts.1
    refine ⟨_, (pss_cons (ps_set (i := 1) sc_w_ahead.nd rfl (Or.inl rfl) (pe_callTy call_str_int (by rfl) (T.free 1) (by decide +kernel) (pa_cons (pe_op op_add pe_int (pe_op op_mod (pe_op op_fdivW (pv 0) pe_int) pe_int)) pa_nil)))
      (pss_cons (ps_if (pt_cmpR op_lt (pe_op op_mod (pv 0) pe_int) pe_int (nomark _)) (pss_one (ps_ret (pe_op op_add_str (pe_op op_add_str (pe_ix (ix_listK K rfl) (pe_lst (pa_cons pe_str (pa_cons pe_str pa_nil))) (pe_op op_mod (pv 0) pe_int) (fun _ _ => rfl)) (pv 1)) pe_str))) pss_nil)
      (pss_one (ps_ret (pe_op op_add_str (pe_op op_add_str (pe_ix (ix_listK K rfl) (pe_lst (pa_cons (pe_op op_add_str (pe_op op_add_str pe_str (pv 1)) pe_str) (pa_cons pe_str pa_nil))) (pe_op op_sub (pe_op op_mod (pv 0) pe_int) pe_int) (fun _ _ => rfl)) (pv 1)) pe_str))))), ?_⟩
    walk_at "rd"
    rw [hdg]
    refine ⟨_, rfl, log30z (by omega), ?_⟩
    rw [edg]
    walk_at "rd"
    refine ite_d (fun z => ?_) (fun z => ?_)
    · walk_at "rd"
      rw [e3, e1]
      refine rd_new (hn := by show 2 ≤ sizeLine; decide) fun p hp => ?_
      have s1 := same_upd (o := HO.lst [V.str (tx T3), V.str (tx T1)]) hp
      have L1 : (upd H p (HO.lst [V.str (tx T3), V.str (tx T1)])) p = _ := upd_same
      generalize upd H p (HO.lst [V.str (tx T3), V.str (tx T1)]) = H1 at *
      walk_at "rd"
      obtain ⟨W, hW, tw⟩ : ∃ W, atI [V.str (tx T3), V.str (tx T1)] (c % 4) = some (.str (tx W)) ∧ TxL W 16 := by
        rcases (by omega : c % 4 = 0 ∨ c % 4 = 1) with e | e <;> rw [e]
        · exact ⟨T3, atI_nat (j := 0) rfl, t3.mono (by decide)⟩
        · exact ⟨T1, atI_nat (j := 1) rfl, t1.mono (by decide)⟩
      refine rd_ixL (SqL.of L1) hW ?_
      have bw := tw.1
      walk_at "rd"
      refine ⟨_, _, rfl, rfl, by rw [len_tx, len_tx]; show _ + 1 ≤ _; omega, ?_⟩
      rw [tx_app]
      walk_at "rd"
      rw [es]
      refine ⟨_, _, rfl, rfl, by rw [len_tx, len_tx, List.length_append]; show _ + 1 + _ ≤ _; omega, ?_⟩
      rw [tx_app]
      exact k H1 _ s1 (((tw.app td).app ts).mono (by decide))
    · walk_at "rd"
      rw [e1, e0, e2]
      refine ⟨_, _, rfl, rfl, by rw [len_tx, len_tx]; show _ + 1 ≤ _; omega, ?_⟩
      rw [tx_app]
      walk_at "rd"
      refine ⟨_, _, rfl, rfl, by rw [len_tx, len_tx, List.length_append]; show _ + 1 + _ ≤ _; omega, ?_⟩
      rw [tx_app]
      have t4 := (t1.app td).app t0
      generalize T1 ++ [48 + dg] ++ T0 = T4 at *
      walk_at "rd"
      refine rd_new (hn := by show 2 ≤ sizeLine; decide) fun p hp => ?_
      have s1 := same_upd (o := HO.lst [V.str (tx T4), V.str (tx T2)]) hp
      have L1 : (upd H p (HO.lst [V.str (tx T4), V.str (tx T2)])) p = _ := upd_same
      generalize upd H p (HO.lst [V.str (tx T4), V.str (tx T2)]) = H1 at *
      walk_at "rd"
      obtain ⟨W, hW, tw⟩ : ∃ W, atI [V.str (tx T4), V.str (tx T2)] (c % 4 - 2) = some (.str (tx W)) ∧ TxL W 16 := by
        rcases (by omega : c % 4 - 2 = 0 ∨ c % 4 - 2 = 1) with e | e <;> rw [e]
        · exact ⟨T4, atI_nat (j := 0) rfl, t4.mono (by decide)⟩
        · exact ⟨T2, atI_nat (j := 1) rfl, t2.mono (by decide)⟩
      refine rd_ixL (SqL.of L1) hW ?_
      have bw := tw.1
      walk_at "rd"
      refine ⟨_, _, rfl, rfl, by rw [len_tx, len_tx]; show _ + 1 ≤ _; omega, ?_⟩
      rw [tx_app]
      walk_at "rd"
      rw [es]
      refine ⟨_, _, rfl, rfl, by rw [len_tx, len_tx, List.length_append]; show _ + 1 + _ ≤ _; omega, ?_⟩
      rw [tx_app]
      exact k H1 _ s1 (((tw.app td).app ts).mono (by decide))
def sp_spoilL : Sp := fun vs H Q _ => ∃ (L : List Nat) (way spot c : Int), vs = [.str (tx L), .int way, .int spot, .int c] ∧ TxL L 700 ∧ ∀ H' L', Same H H' → TxL L' 731 → Q (.str (tx L')) H'
theorem mp_spoilL : MonP sp_spoilL := fun vs H Q Q' E h ⟨L, x, y, c, x1, x2, q⟩ => ⟨L, x, y, c, x1, x2, fun H' L a b => h _ _ (q H' L a b)⟩
set_option maxHeartbeats 8000000 in
theorem ok_spoilL (T : Env fa fn K mg) : Good P w K mg base CX0 2 ("_law_spoiled", none) ["_law_line", "_law_way", "_law_spot", "_law_cell"] sp_spoilL := by
  have G_w_sign_by := ok_signL (P := P) (w := w) (base := base) T
  have G_w_odd := ok_oddL (P := P) (w := w) (base := base) T
  have G_w_ahead := ok_aheadL (P := P) (w := w) (base := base) T
  refine good_mk T 43 (d := d_w_spoiled) (N := ["_law_line", "_law_way", "_law_spot", "_law_cell", "_law_at_here"]) (ps := ["_law_line", "_law_way", "_law_spot", "_law_cell"]) rfl rfl sc_w_spoiled (fun _ _ _ _ _ _ us hl => match us, hl with | [_, _, _, _], _ => rfl) (fun vs H Q E h => ?_) (fun f cdv A outer s H vs Q E hr h => ?_)
  · obtain ⟨L, way, spot, c, rfl, _⟩ := h; rfl
  · obtain ⟨L, way, spot, c, rfl, tl, q⟩ := h
    have hsz := sizeBig
    have ll := tl.1
    refine ⟨_, (pss_cons (ps_set (i := 4) sc_w_spoiled.nd rfl (Or.inl rfl) (pe_op op_mod (pv 2) (pe_op op_add (pe_callB call_len_str (by rfl) (T.free 15) (by decide +kernel) (pa_cons (pv 0) pa_nil)) pe_int)))
      (pss_cons (ps_if (pt_cmpR op_eq (pv 1) pe_int (nomark _)) (pss_one (ps_ret (pe_op op_add_str (pe_op op_add_str (pe_slice sl_str (pv 0) po_none (po_some (pv 4))) (pe_cgK K rfl G_w_sign_by (hr.mono (by decide)) (T.glo 49) (pa_cons (pv 3) pa_nil))) (pe_slice sl_str (pv 0) (po_some (pv 4)) po_none)))) pss_nil)
      (pss_cons (ps_if (pt_cmpR op_eq (pv 1) pe_int (nomark _)) (pss_one (ps_ret (pe_op op_add_str (pe_op op_add_str (pe_slice sl_str (pv 0) po_none (po_some (pv 4))) (pe_cgK K rfl G_w_sign_by (hr.mono (by decide)) (T.glo 49) (pa_cons (pv 3) pa_nil))) (pe_slice sl_str (pv 0) (po_some (pe_op op_add (pv 4) pe_int)) po_none)))) pss_nil)
      (pss_cons (ps_if (pt_cmpR op_eq (pv 1) pe_int (nomark _)) (pss_one (ps_ret (pe_op op_add_str (pe_slice sl_str (pv 0) po_none (po_some (pv 4))) (pe_slice sl_str (pv 0) (po_some (pe_op op_add (pv 4) pe_int)) po_none)))) pss_nil)
      (pss_cons (ps_if (pt_cmpR op_eq (pv 1) pe_int (nomark _)) (pss_one (ps_ret (pe_cgK K rfl G_w_odd (hr.mono (by decide)) (T.glo 50) (pa_cons (pv 3) pa_nil)))) pss_nil)
      (pss_cons (ps_if (pt_cmpR op_eq (pv 1) pe_int (nomark _)) (pss_one (ps_ret (pe_op op_add_str (pe_cgK K rfl G_w_ahead (hr.mono (by decide)) (T.glo 51) (pa_cons (pv 3) pa_nil)) (pv 0)))) pss_nil)
      (pss_cons (ps_if (pt_cmpR op_eq (pv 1) pe_int (nomark _)) (pss_cons (ps_set (i := 0) sc_w_spoiled.nd rfl (Or.inl rfl) (pe_op op_add_str (pe_cgK K rfl G_w_ahead (hr.mono (by decide)) (T.glo 51) (pa_cons (pe_op op_fdivW (pv 3) pe_int) pa_nil)) (pv 0)))
      (pss_cons (ps_set (i := 4) sc_w_spoiled.nd rfl (Or.inl rfl) (pe_op op_mod (pv 2) (pe_op op_add (pe_callB call_len_str (by rfl) (T.free 15) (by decide +kernel) (pa_cons (pv 0) pa_nil)) pe_int)))
      (pss_one (ps_ret (pe_op op_add_str (pe_op op_add_str (pe_slice sl_str (pv 0) po_none (po_some (pv 4))) (pe_cgK K rfl G_w_sign_by (hr.mono (by decide)) (T.glo 49) (pa_cons (pv 3) pa_nil))) (pe_slice sl_str (pv 0) (po_some (pe_op op_add (pv 4) pe_int)) po_none)))))) pss_nil)
      (pss_one (ps_ret (pv 0)))))))))), ?_⟩
    walk_at "rd"
    refine ⟨_, rfl, small_len (by rw [len_tx]; omega), ?_⟩
    walk_at "rd"
    rw [len_tx]
    have g0 := Int.emod_nonneg spot (show ((L.length : Nat) : Int) + 1 ≠ 0 by omega)
    have g1 := Int.emod_lt_of_pos spot (show (0 : Int) < ((L.length : Nat) : Int) + 1 by omega)
    refine rd_mod (by omega) ?_
    obtain ⟨i, hi0⟩ := nat_of g0
    rw [hi0]
    have ecT := cut_to L i
    have ecF := cut_from L i
    have ecN : cutS (tx L) (some ((i : Int) + 1)) none = tx (L.drop (i + 1)) := by
      rw [show (i : Int) + 1 = ((i + 1 : Nat) : Int) by omega, cut_from]
    have lt := (tl.take i).1
    have ld := (tl.drop i).1
    have ld1 := (tl.drop (i + 1)).1
    walk_at "rd"
    refine ite_d (fun c1 => ?_) (fun c1 => ?_)
    · walk_at "rd"
      refine ⟨_, rfl, small_len (by rw [len_tx]; omega), ?_⟩
      rw [ecT]
      walk_at "rd"
      refine ⟨_, rfl, fun d hd => ?_⟩
      refine ⟨_, _, rfl, rfl, by rw [len_tx, len_tx]; show _ + 1 ≤ _; omega, ?_⟩
      rw [tx_app]
      walk_at "rd"
      refine ⟨_, rfl, small_len (by rw [len_tx]; omega), ?_⟩
      rw [ecF]
      refine ⟨_, _, rfl, rfl, by rw [len_tx, len_tx, List.length_append]; show _ + 1 + _ ≤ _; omega, ?_⟩
      rw [tx_app]
      exact q H _ (Same.refl _) ((tl.cut hd i i (Nat.le_refl _)).1.mono (by decide))
    walk_at "rd"
    refine ite_d (fun c2 => ?_) (fun c2 => ?_)
    · walk_at "rd"
      refine ⟨_, rfl, small_len (by rw [len_tx]; omega), ?_⟩
      rw [ecT]
      walk_at "rd"
      refine ⟨_, rfl, fun d hd => ?_⟩
      refine ⟨_, _, rfl, rfl, by rw [len_tx, len_tx]; show _ + 1 ≤ _; omega, ?_⟩
      rw [tx_app]
      walk_at "rd"
      refine ⟨_, rfl, small_len (by rw [len_tx]; omega), ?_⟩
      rw [ecN]
      refine ⟨_, _, rfl, rfl, by rw [len_tx, len_tx, List.length_append]; show _ + 1 + _ ≤ _; omega, ?_⟩
      rw [tx_app]
      exact q H _ (Same.refl _) ((tl.cut hd i (i + 1) (by omega)).1.mono (by decide))
    walk_at "rd"
    refine ite_d (fun c3 => ?_) (fun c3 => ?_)
    · walk_at "rd"
      refine ⟨_, rfl, small_len (by rw [len_tx]; omega), ?_⟩
      rw [ecT]
      walk_at "rd"
      refine ⟨_, rfl, small_len (by rw [len_tx]; omega), ?_⟩
      rw [ecN]
      refine ⟨_, _, rfl, rfl, by rw [len_tx, len_tx]; omega, ?_⟩
      rw [tx_app]
      exact q H _ (Same.refl _) ((tl.cut (d := 0) (by decide) i (i + 1) (by omega)).2.mono (by decide))
    walk_at "rd"
    refine ite_d (fun c4 => ?_) (fun c4 => ?_)
    · walk_at "rd"
      exact ⟨_, rfl, fun H1 W s1 tw => q H1 W s1 (tw.mono (by decide))⟩
    walk_at "rd"
    refine ite_d (fun c5 => ?_) (fun c5 => ?_)
    · walk_at "rd"
      refine ⟨_, rfl, fun H1 W s1 tw => ?_⟩
      have bw := tw.1
      walk_at "rd"
      refine ⟨_, _, rfl, rfl, by rw [len_tx, len_tx]; omega, ?_⟩
      rw [tx_app]
      exact q H1 _ s1 ((tw.app tl).mono (by decide))
    walk_at "rd"
    refine ite_d (fun c6 => ?_) (fun c6 => ?_)
    · walk_at "rd"
      refine ⟨_, rfl, fun H1 W s1 tw => ?_⟩
      have bw := tw.1
      walk_at "rd"
      refine ⟨_, _, rfl, rfl, by rw [len_tx, len_tx]; omega, ?_⟩
      rw [tx_app]
      have tl2 := tw.app tl
      generalize W ++ L = L2 at *
      have ll2 := tl2.1
      walk_at "rd"
      refine ⟨_, rfl, small_len (by rw [len_tx]; omega), ?_⟩
      walk_at "rd"
      rw [len_tx]
      have g0' := Int.emod_nonneg spot (show ((L2.length : Nat) : Int) + 1 ≠ 0 by omega)
      refine rd_mod (by omega) ?_
      obtain ⟨j, hj0⟩ := nat_of g0'
      rw [hj0]
      have ecT2 := cut_to L2 j
      have ecN2 : cutS (tx L2) (some ((j : Int) + 1)) none = tx (L2.drop (j + 1)) := by
        rw [show (j : Int) + 1 = ((j + 1 : Nat) : Int) by omega, cut_from]
      have lt2 := (tl2.take j).1
      have ld2 := (tl2.drop (j + 1)).1
      walk_at "rd"
      refine ⟨_, rfl, small_len (by rw [len_tx]; omega), ?_⟩
      rw [ecT2]
      walk_at "rd"
      refine ⟨_, rfl, fun d hd => ?_⟩
      refine ⟨_, _, rfl, rfl, by rw [len_tx, len_tx]; show _ + 1 ≤ _; omega, ?_⟩
      rw [tx_app]
      walk_at "rd"
      refine ⟨_, rfl, small_len (by rw [len_tx]; omega), ?_⟩
      rw [ecN2]
      refine ⟨_, _, rfl, rfl, by rw [len_tx, len_tx, List.length_append]; show _ + 1 + _ ≤ _; omega, ?_⟩
      rw [tx_app]
      exact q H1 _ s1 (tl2.cut hd j (j + 1) (by omega)).1
    · walk_at "rd"
      exact q H _ (Same.refl _) (tl.mono (by decide))
theorem mp_said : MonP (sp_said K) := fun vs H Q Q' E h ⟨x, e, hd⟩ => ⟨x, e, hd.imp (fun ⟨a, k⟩ => ⟨a, fun H' t b c => h _ _ (k H' t b c)⟩) fun ⟨L, wd, v, a, b, c, k⟩ => ⟨L, wd, v, a, b, c, fun H' t d e => h _ _ (k H' t d e)⟩⟩
def sp_rightL (K : PySem.W.Frag) : Sp := fun vs H Q _ => ∃ (a0 : Addr) (ns : List Int) (k : Int), vs = [.ref a0, .int k] ∧ SqL K H a0 (ns.map V.int) ∧ 0 ≤ k ∧ k ≤ 1000 ∧ ∀ H', Same H H' → Q (.bl true) H'
theorem mp_rightL : MonP (sp_rightL K) := fun vs H Q Q' E h ⟨a, ns, k, x1, x2, x3, x4, q⟩ => ⟨a, ns, k, x1, x2, x3, x4, fun H' s => h _ _ (q H' s)⟩
set_option maxHeartbeats 16000000 in
theorem ok_rightL (T : Env fa fn K mg) : Good P w K mg base CX0 9 ("_law_right", none) ["_law_script", "_law_at_here"] (sp_rightL K) := by
  have G_w_at := ok_at (P := P) (w := w) (base := base) T
  have G_w_clauses_by := ok_clauses_by (P := P) (w := w) (base := base) T
  have G_w_text := ok_text (P := P) (w := w) (base := base) T
  have G_w_spoiled := ok_spoilL (P := P) (w := w) (base := base) T
  have G_w_said := ok_said (P := P) (w := w) (base := base) T
  have G_w_due := ok_due (P := P) (w := w) (base := base) T
  refine good_mk T 48 (d := d_w_right) (N := ["_law_script", "_law_at_here", "_law_good", "_law_way", "_law_line", "_law_thing"]) (ps := ["_law_script", "_law_at_here"]) rfl rfl sc_w_right (fun _ _ _ _ _ _ us hl => match us, hl with | [_, _], _ => rfl) (fun vs H Q E h => ?_) (fun f cdv A outer σ0 H vs Q E hr h => ?_)
  · obtain ⟨a, ns, k, rfl, _⟩ := h; rfl
  obtain ⟨a0, ns, k, rfl, hS, k0, k1, q⟩ := h
  have hu := hu_of hr
  have hsz := sizeBig
  refine ⟨_, (pss_cons (ps_set (i := 2) sc_w_right.nd rfl (Or.inl rfl) (pe_cgK K rfl G_w_text (hr.mono (by decide)) (T.glo 70) (pa_cons (pe_cgK K rfl G_w_clauses_by (hr.mono (by decide)) (T.glo 71) (pa_cons (pv 0) (pa_cons (pe_op op_add (pv 1) pe_int) (pa_cons (pe_op op_mod (pe_cgK K rfl G_w_at (hr.mono (by decide)) (T.glo 42) (pa_cons (pv 0) (pa_cons (pe_op op_add (pv 1) pe_int) pa_nil))) pe_int) pa_nil)))) pa_nil)))
      (pss_cons (ps_set (i := 3) sc_w_right.nd rfl (Or.inl rfl) (pe_op op_mod (pe_cgK K rfl G_w_at (hr.mono (by decide)) (T.glo 42) (pa_cons (pv 0) (pa_cons (pv 1) pa_nil))) pe_int))
      (pss_cons (ps_set (i := 4) sc_w_right.nd rfl (Or.inl rfl) (pe_cgK K rfl G_w_spoiled (hr.mono (by decide)) (T.glo 72) (pa_cons (pv 2) (pa_cons (pv 3) (pa_cons (pe_cgK K rfl G_w_at (hr.mono (by decide)) (T.glo 42) (pa_cons (pv 0) (pa_cons (pe_op op_add (pv 1) pe_int) pa_nil))) (pa_cons (pe_cgK K rfl G_w_at (hr.mono (by decide)) (T.glo 42) (pa_cons (pv 0) (pa_cons (pe_op op_add (pv 1) pe_int) pa_nil))) pa_nil))))))
      (pss_cons (ps_if (PW.pt (pw_or (pt_cmpR (op_neDK K rfl hr.units) (pe_cgK K rfl G_w_said (hr.mono (by decide)) (T.glo 73) (pa_cons (pv 2) pa_nil)) (pe_tup (pa_cons pe_str (pa_cons (pv 2) pa_nil))) (nomark _)) (pw_or1 (pt_cmpR (op_neDK K rfl hr.units) (pe_cgK K rfl G_w_said (hr.mono (by decide)) (T.glo 73) (pa_cons (pv 4) pa_nil)) (pe_cgK K rfl G_w_due (hr.mono (by decide)) (T.glo 74) (pa_cons (pv 4) pa_nil)) (nomark _))))) (pss_one (ps_ret pe_bl)) pss_nil)
      (pss_cons (ps_if (pt_cmpR op_eq (pv 3) pe_int (nomark _)) (pss_cons (ps_set (i := 5) sc_w_right.nd rfl (Or.inl rfl) (pe_ix (ix_listK K rfl) (pe_lst (pa_cons pe_non (pa_cons (pe_op op_mod (pe_cgK K rfl G_w_at (hr.mono (by decide)) (T.glo 42) (pa_cons (pv 0) (pa_cons (pe_op op_add (pv 1) pe_int) pa_nil))) (pe_op op_pow pe_int pe_int)) (pa_cons (pe_lst (pa_cons (pv 2) pa_nil)) pa_nil)))) (pe_op op_mod (pe_cgK K rfl G_w_at (hr.mono (by decide)) (T.glo 42) (pa_cons (pv 0) (pa_cons (pe_op op_add (pv 1) pe_int) pa_nil))) pe_int) (fun _ _ => rfl)))
      (pss_one (ps_if (pt_cmpR (op_neDK K rfl hr.units) (pe_cgK K rfl G_w_said (hr.mono (by decide)) (T.glo 73) (pa_cons (pv 5) pa_nil)) (pe_tup (pa_cons pe_str (pa_cons pe_bl pa_nil))) (nomark _)) (pss_one (ps_ret pe_bl)) pss_nil))) pss_nil)
      (pss_one (ps_ret (pe_and (pe_cmpR (op_eqDK K rfl hr.units) (pe_cgK K rfl G_w_said (hr.mono (by decide)) (T.glo 73) (pa_cons (pv 2) pa_nil)) (pe_tup (pa_cons pe_str (pa_cons (pv 2) pa_nil))) (nomark _)) (pe_one (pe_cmpR (op_eqDK K rfl hr.units) (pe_cgK K rfl G_w_said (hr.mono (by decide)) (T.glo 73) (pa_cons (pv 4) pa_nil)) (pe_cgK K rfl G_w_due (hr.mono (by decide)) (T.glo 74) (pa_cons (pv 4) pa_nil)) (nomark _))))))))))), ?_⟩
  walk_at "rd"
  refine rd_at hS (by omega) ?_
  walk_at "rd"
  obtain ⟨m5, hm5⟩ := nat_of (Int.emod_nonneg (atN ns (k + 3).toNat) (show (5 : Int) ≠ 0 by decide))
  rw [hm5]
  refine ⟨a0, ns, k + 4, (m5 : Int), rfl, hS, by omega, by omega, by omega, fun H1 l us cs s1 hl hcs hz hn => ?_⟩
  obtain ⟨hall, hw, _⟩ := id hcs
  have hcl : cs.length ≤ 5 := by omega
  have tg : TxL (ruleT cs) 700 := ⟨by have := ruleT_len hw; omega, low_rule fun c m => (hw c m).1⟩
  have sg : SaidD (ruleT cs) (Str.ofString "rule") (.str (tx (ruleT cs))) := .inr ⟨cs, fun c m => (hw c m).1, rfl, .inr ⟨hz, rfl, rfl⟩⟩
  walk_at "rd"
  refine ⟨l, us, cs, rfl, hl, hcs, fun H2 s2 => ?_⟩
  generalize ruleT cs = G at *
  have s02 := s1.trans s2
  have hS2 := sqL_on hS fun o e => s02 _ _ e
  clear hl hcs hall hw
  walk_at "rd"
  refine rd_at hS2 (by omega) ?_
  walk_at "rd"
  refine rd_at hS2 (by omega) ?_
  walk_at "rd"
  refine rd_at hS2 (by omega) ?_
  generalize atN ns k.toNat % 8 = way
  walk_at "rd"
  refine ⟨G, _, _, _, rfl, tg, fun H3 L s3 tL => ?_⟩
  have s03 := s02.trans s3
  have hS3 := sqL_on hS fun o e => s03 _ _ e
  obtain ⟨wd, v, sL⟩ := said_ex L
  have lG := tg.1
  have lL := tL.1
  walk_at "rd"
  refine ⟨_, rfl, .inr ⟨G, _, _, rfl, by omega, sg, fun H4 t4 s4 T4 => ?_⟩⟩
  walk_at "rd"
  refine rd_new (hn := by show 2 ≤ sizeLine; decide) fun t5 ht5 => ?_
  have s5 := same_upd (o := HO.tup [V.str (Str.ofString "rule"), V.str (tx G)]) ht5
  have T5 : (upd H4 t5 (HO.tup [V.str (Str.ofString "rule"), V.str (tx G)])) t5 = some (.tup [.str (Str.ofString "rule"), .str (tx G)]) := upd_same
  have T4' := s5 _ _ T4
  have s45 := s4.trans s5
  generalize upd H4 t5 (HO.tup [V.str (Str.ofString "rule"), V.str (tx G)]) = H5 at *
  refine rd_neSaid sg tg.2 T4' T5 ?_
  walk_at "rd"
  refine ⟨_, rfl, .inr ⟨L, wd, v, rfl, by omega, sL, fun H6 t6 s6 T6 => ?_⟩⟩
  walk_at "rd"
  refine ⟨L, wd, v, rfl, by omega, sL, fun H7 t7 s7 T7 => ?_⟩
  refine rd_neSaid sL tL.2 (s7 _ _ T6) T7 ?_
  have s07 := s03.trans (s45.trans (s6.trans s7))
  have hS7 := sqL_on hS fun o e => s07 _ _ e
  clear T7 T6 T5 T4 T4' s6 s7 s45 s4 s5 hS2 hS3
  walk_at "rhi"
  refine rd_cut (fun σ H' => Same H H' ∧ ∃ x5 : Option V, σ = [some (.ref a0), some (.int k), some (.str (tx G)), some (.int way), some (.str (tx L)), x5]) (by
    have mp1 := mp_at (K := K)
    have mp2 := mp_said (K := K)
    have mr1 := mr_neD (K := K)
    walk_at "mono") ?_ ?_
  · walk_at "rd"
    refine ite_d (fun z => ?_) (fun z => ?_)
    · walk_at "rd"
      refine rd_at hS7 (by omega) ?_
      walk_at "rd"
      refine rd_I (by unfold CPow; decide) ?_
      have hp30 : (0 : Int) < 10 ^ Int.toNat 30 := by decide
      refine rd_mod hp30 ?_
      generalize atN ns (k + 2).toNat % 10 ^ Int.toNat 30 = big
      walk_at "rd"
      refine rd_new (hn := by show 1 ≤ sizeLine; decide) fun p1 hp1 => ?_
      have s8 := same_upd (o := HO.lst [V.str (tx G)]) hp1
      have U1 : (upd H7 p1 (HO.lst [V.str (tx G)])) p1 = some (.lst [V.str (tx G)]) := upd_same
      generalize upd H7 p1 (HO.lst [V.str (tx G)]) = H8 at *
      walk_at "rd"
      refine rd_new (hn := by show 3 ≤ sizeLine; decide) fun p2 hp2 => ?_
      have s9 := same_upd (o := HO.lst [V.non, V.int big, V.ref p1]) hp2
      have U2 : (upd H8 p2 (HO.lst [V.non, V.int big, V.ref p1])) p2 = some (.lst [V.non, V.int big, V.ref p1]) := upd_same
      have U1' := s9 _ _ U1
      have s79 := s8.trans s9
      generalize upd H8 p2 (HO.lst [V.non, V.int big, V.ref p1]) = H9 at *
      have hS9 := sqL_on hS7 fun o e => s79 _ _ e
      walk_at "rd"
      refine rd_at hS9 (by omega) ?_
      walk_at "rd"
      obtain ⟨x, mx, hx⟩ := atI_ex (l := [V.non, V.int big, V.ref p1]) (k := atN ns (k + 1).toNat % 3) (by omega) (by show _ < (3 : Int); omega)
      refine rd_ixL (SqL.of U2) hx ?_
      have hno : NoTx H9 x := by
        simp only [List.mem_cons, List.not_mem_nil, or_false] at mx
        rcases mx with rfl | rfl | rfl
        · exact .inr (.inl rfl)
        · exact .inl ⟨_, rfl⟩
        · exact .inr (.inr ⟨_, _, rfl, U1'⟩)
      walk_at "rd"
      refine ⟨x, rfl, .inl ⟨hno, fun H10 t10 s10 T10 => ?_⟩⟩
      walk_at "rd"
      refine rd_new (hn := by show 2 ≤ sizeLine; decide) fun t11 ht11 => ?_
      have s11 := same_upd (o := HO.tup [V.str (Str.ofString "no rule"), V.bl true]) ht11
      have T11 : (upd H10 t11 (HO.tup [V.str (Str.ofString "no rule"), V.bl true])) t11 = some (.tup [.str (Str.ofString "no rule"), .bl true]) := upd_same
      have T10' := s11 _ _ T10
      have s1011 := s10.trans s11
      generalize upd H10 t11 (HO.tup [V.str (Str.ofString "no rule"), V.bl true]) = H11 at *
      have nz : ¬ isRu [32] := fun h => by
        have h1 := isRu_parts h (by simp) [32] (by decide)
        obtain ⟨w0, mid, wl, e, hw0, _⟩ := isCl_words h1
        have e2 : blanks [32] = [[], []] := by decide
        rw [e2] at e
        injection e with e3 _
        rw [← e3] at hw0
        rcases isWi_iff.mp hw0 with q | q
        · cases q
        · obtain ⟨c, q, _⟩ := isSt_iff.mp q
          cases q
      refine rd_neSaid (L := [32]) (.inl ⟨nz, rfl, rfl⟩) (by intro c m; simp at m; omega) T10' T11 ?_
      walk_at "rd"
      exact ⟨s07.trans (s79.trans s1011), _, rfl⟩
    · walk_at "rd"
      exact ⟨s07, _, rfl⟩
  rintro σ H8 ⟨s8, x5, rfl⟩
  walk_at "rd"
  refine ⟨_, rfl, .inr ⟨G, _, _, rfl, by omega, sg, fun H9 t9 s9 T9 => ?_⟩⟩
  walk_at "rd"
  refine rd_new (hn := by show 2 ≤ sizeLine; decide) fun t10 ht10 => ?_
  have s10 := same_upd (o := HO.tup [V.str (Str.ofString "rule"), V.str (tx G)]) ht10
  have T10 : (upd H9 t10 (HO.tup [V.str (Str.ofString "rule"), V.str (tx G)])) t10 = some (.tup [.str (Str.ofString "rule"), .str (tx G)]) := upd_same
  have T9' := s10 _ _ T9
  have s910 := s9.trans s10
  generalize upd H9 t10 (HO.tup [V.str (Str.ofString "rule"), V.str (tx G)]) = H10 at *
  refine rd_eqSaid sg tg.2 T9' T10 ?_
  walk_at "rd"
  refine ⟨_, rfl, .inr ⟨L, wd, v, rfl, by omega, sL, fun H11 t11 s11 T11 => ?_⟩⟩
  walk_at "rd"
  refine ⟨L, wd, v, rfl, by omega, sL, fun H12 t12 s12 T12 => ?_⟩
  refine rd_eqSaid sL tL.2 (s12 _ _ T11) T12 ?_
  exact q H12 (s8.trans (s910.trans (s11.trans s12)))
end
end JF

/-! ### law k06: the law -/
namespace JF
open PySem PySem.Spec PyProof.Rows L2
section
variable {P : Program} {w : World} {K : PySem.W.Frag} {mg : Str → Option Value} {base : Heap}
def lawLevel : Nat := 12
set_option maxHeartbeats 4000000 in
theorem ok_law (T : Env fa fn K mg) : Good P w K mg base CX0 lawLevel ("law", none) ["_law_script"] (sp_law K) := by
  have G_w_right := ok_rightL (P := P) (w := w) (base := base) T
  refine good_mk T 49 (d := d_law) (N := ["_law_script", "_law_at_here"]) (ps := ["_law_script"]) rfl rfl sc_law (fun _ _ _ _ _ _ us hl => match us, hl with | [_], _ => rfl) (fun vs H Q E h => ?_) (fun f cdv A outer σ0 H vs Q E hr h => ?_)
  · obtain ⟨a, ns, rfl, _⟩ := h; rfl
  · obtain ⟨a, ns, rfl, hS, hlen, _, k⟩ := h
    refine ⟨_, (pss_cons (ps_for PassesOwn.never rfl (pi_range3 (by rfl) (T.free 37) (pa_cons pe_int (pa_cons (pe_callB (call_max2 rfl) (by rfl) (T.free 75) (by decide +kernel) (pa_cons pe_int (pa_cons (pe_callB (call_min2 rfl) (by rfl) (T.free 47) (by decide +kernel) (pa_cons (pe_callB (call_lenK K rfl) (by rfl) (T.free 15) (by decide +kernel) (pa_cons (pv 0) pa_nil)) (pa_cons pe_int pa_nil))) pa_nil))) (pa_cons pe_int pa_nil)))) (pg_name (i := 1) sc_law.nd rfl (Or.inl rfl)) (pss_one (ps_if (pt_not (pt_val (pe_cgK K rfl G_w_right (hr.mono (by decide)) (T.glo 76) (pa_cons (pv 0) (pa_cons (pv 1) pa_nil))))) (pss_one (ps_ret pe_bl)) pss_nil)))
      (pss_one (ps_ret pe_bl))), ?_⟩
    walk_at "rd"
    refine rd_len hS ?_
    walk_at "rd"
    rw [List.length_map]
    obtain ⟨J, hJ⟩ : ∃ J : Int, J = (if (if (60 : Int) < (ns.length : Int) then (60 : Int) else (ns.length : Int)) > 1 then (if (60 : Int) < (ns.length : Int) then (60 : Int) else (ns.length : Int)) else 1) := ⟨_, rfl⟩
    have hJb : 0 ≤ J ∧ J ≤ 1000 := by rw [hJ]; constructor <;> (repeat' split) <;> omega
    rw [← hJ]
    obtain ⟨n, hrg, hn⟩ := rgc_up (i := 0) (j := J) (c := 10) (by decide) (by decide) hJb.1 hJb.2 (by decide) (by decide)
    refine ⟨0, J, 10, n, rfl, hrg, ?_⟩
    refine for_it (walk_rangeC (lo := 0) (c := 10) (n := n)) (fun i σ Hq => Same H Hq ∧ ∃ x1 : Option V, σ = [some (.ref a), x1]) ⟨Same.refl _, none, rfl⟩ (fun _ _ _ _ _ => trivial) ?_ ?_
    · rintro i x σ Ha Hb hi ⟨s7, x1, rfl⟩ ⟨rfl, hx⟩
      obtain ⟨pos, pos0, pos1, rfl⟩ : ∃ pos : Int, 0 ≤ pos ∧ pos ≤ 1000 ∧ x = .int pos := ⟨0 + (i : Int) * 10, by omega, by have := hn i hi; omega, hx⟩
      walk_at "rd"
      refine ⟨a, ns, pos, rfl, sqL_on hS fun o e => s7 _ _ e, pos0, pos1, fun H8 s8 => ?_⟩
      walk_at "rd"
      exact ⟨s7.trans s8, _, rfl⟩
    · rintro σ Hq ⟨s7, x1, rfl⟩
      walk_at "rd"
      exact k _
end
end JF

namespace JF
open PySem PySem.Spec PyProof.Rows L2
/-! ### the head: facts by names, the run; the end -/
theorem fn_ofE {P : Program} {w : World} {K : PySem.W.Frag} {mg : Str → Option Value} {k : Nat} {sp : Sp} {f : Addr} (hfa : mg ("law" : Str) = some (.ref f)) (T : Env fa fn K mg)
    (ok : ∀ base : Heap, K.In base → base.Ns mainGlobals mg → Good P w K mg base CX0 k ("law", none) ["_law_script"] sp) :
    ∃ fd : FuncData, (∀ (s : Shared) (v : Value), BindsTo s fd ⟨[v], []⟩ [("_law_script", v)]) ∧ ∀ base : Heap, K.In base → base.Ns mainGlobals mg → FnOk P w K mg base CX0 k f fd ["_law_script"] sp := by
  obtain ⟨fd, F⟩ := T.c.def_ (d := d_law) 49 rfl
  have e := hfa.symm.trans (T.glo 85)
  cases e
  have b := FunD.bindsA (ps := ["_law_script"]) F fun _ _ _ _ _ _ us hl => match us, hl with | [_], _ => rfl
  refine ⟨fd, fun s v => b s [v] rfl, fun base h1 h2 => ?_⟩
  obtain ⟨fd2, F2, _, _, l2⟩ := ok base h1 h2
  cases (fdAt_of (p := ("law", none)) F).eq l2
  exact F2
end JF
open PySem PySem.W PySem.Calls PyProof.Rows
theorem PySem.Challenge.cw_jumpfield_k06_no_rule_holds : PySem.Challenge.rw_jumpfield_k06_no_rule.Holds := by
  w_on; o_law
  refine HandSHeadRun.head_any (r := OpenLaw.row PySem.Challenge.rw_jumpfield_k06_no_rule) (q := view (OpenLaw.row PySem.Challenge.rw_jumpfield_k06_no_rule).prog [59]) (H := JF.hk) (ob := JF.ob) (M := 100000) (loose := JF.looseN) (d := HandSHeadRun.topDef (OpenLaw.row PySem.Challenge.rw_jumpfield_k06_no_rule).prog 59) (kwd := []) JF.ob_eq
    (by kernel_rfl) (fun s => by kernel_rfl) JF.run (by kernel_rfl) (by kernel_rfl) (by kernel_rfl) (by rfl) (by first | assumption | decide +kernel) (by decide +kernel) ⟨rfl, rfl, rfl, rfl, rfl, by decide +kernel⟩ ?hw ?hc
  case hw => w_witness2
  case hc =>
    refine L2.walk_ofE (l := PySem.Challenge.rw_jumpfield_k06_no_rule) (n := 63) (k := JF.lawLevel) (x := "_law_script") (CX := L2.CX0) rfl (by decide) (by kernel_rfl) ⟨rfl, by decide, by decide⟩ ?F (fun _ _ _ _ z => z)
    intro w mg fa h Y G hmg0
    obtain ⟨K, KX, c⟩ := Y
    have hmg : mg ("law" : PySem.Str) = some (.ref fa) := by
      have e : (HandSHeadRun.topDef (OpenLaw.row PySem.Challenge.rw_jumpfield_k06_no_rule).prog 59).name = ("law" : PySem.Str) := by kernel_rfl
      rw [← e]
      exact hmg0
    have T : JF.Env JF.fa JF.fn K mg := ⟨congrArg (fun z : JF.AlE => z.2) c, ⟨h, KX, G⟩, congrArg (fun z : JF.AlE => z.1) c⟩
    obtain ⟨fd, hb, hF⟩ := JF.fn_ofE (P := (PySem.Challenge.rw_jumpfield_k06_no_rule).prog) (w := w) hmg T (fun base h1 h2 => JF.ok_law T)
    exact ⟨K, fd, JF.sp_law K, KX, hb, fun H a ns hl hO hS => JF.sp_law_in H a ns hl hO hS, hF⟩
#print axioms PySem.Challenge.cw_jumpfield_k06_no_rule_holds

