import PyProof.Rows.All
import Wide.All
import OpenK.AllK
import Wide.FinOn
import KE.KStateDown
import KE.GoesMore
import KE.GoesZip
import PyProof.EnumMake
import HandS.ForMost
import HandS.ForExc
import HandS.Flow
import HandS.Wide
import HandS.WideMore
import HandS.IsInst
import HandS.SetKeys
import HandS.Style
import HandS.TupLe
import HandS.Zip
import HandS.Defaults
import HandS.Head0
import HandS.Head1
import HandS.Head2
import HandS.HeadEnd
import HandS.HeadHook1
import HandS.HeadHook2
import HandS.Walk
import PyProof.DictMoreH
import HandS.SetFor
import HandS.ExcCtx
import HandS.ExcIs
import HandS.HotCalls
import HandS.Conv
import KE.KDictSum
import KE.KDictCopyH
import HandS.SortOrd
import HandS.DictTup
import HandS.HeadHook4
import HandS.Nested
import HandS.EndTab
import HandS.Lambda
import PySem.Challenge.RW_jumpfield_k14_refused_squares
set_option Elab.async false
set_option linter.all false
set_option maxRecDepth 100000
set_option maxHeartbeats 4000000
/-! ### the frame: facts of the top, defs by their places, calls -/
namespace JF
open PySem PySem.Spec PyProof.Rows L2

/-! ### what the top has left, by facts with numbers -/
/-- the module's tuples of numbers -/
def tb : List (Str × List He.Dv) := []
/-- the module's tuples of tuples of numbers -/
def tb2 : List (Str × List (List Int)) := []
def tup2L (K : PySem.W.Frag) : List (List Int) → List Value → Bool
  | [], [] => true
  | x :: xs, .ref p :: us => (match K.lookup p with
    | some ⟨.type c, _, .seq its _, _⟩ => decide (c = "tuple") && (decide (its.size ≤ sizeLine) && He.relAll (x.map V.int) its.toList)
    | _ => false) && tup2L K xs us
  | _, _ => false
def tup2B (K : PySem.W.Frag) (x : Str) (xs : List (List Int)) : Bool := match K.lookup (He.ga K x) with
  | some ⟨.type c, _, .seq its _, _⟩ => decide (c = "tuple") && (decide (its.size ≤ sizeLine) && tup2L K xs its.toList)
  | _ => false
theorem tup2L_ok {K : PySem.W.Frag} : ∀ {xs : List (List Int)} {us : List Value}, tup2L K xs us = true → ∃ rs : List Addr, Vals (rs.map V.ref) us ∧ rs.length = xs.length ∧ ∀ (i : Nat) (r : Addr) (x : List Int), rs[i]? = some r → xs[i]? = some x → ∀ H : Hp, SqT K H r (x.map V.int)
  | [], [], _ => ⟨[], .nil, rfl, fun i r x h _ => by cases h⟩
  | [], _ :: _, h => by cases h
  | x :: xs, [], h => by cases h
  | x :: xs, u :: us, h => by
    cases u with
    | ref p =>
      obtain ⟨h1, h2⟩ := Bool.and_eq_true_iff.mp (show ((match K.lookup p with
        | some ⟨.type c, _, .seq its _, _⟩ => decide (c = "tuple") && (decide (its.size ≤ sizeLine) && He.relAll (x.map V.int) its.toList)
        | _ => false) && tup2L K xs us) = true from h)
      obtain ⟨rs, v, e, k⟩ := tup2L_ok h2
      refine ⟨p :: rs, .cons rfl v, by rw [List.length_cons, List.length_cons, e], fun i r y hi hy H => ?_⟩
      cases i with
      | succ i => exact k i r y hi hy H
      | zero =>
        cases hi; cases hy
        cases q : K.lookup p with
        | none => rw [q] at h1; cases h1
        | some o =>
          obtain ⟨oc, od, dt, osl⟩ := o
          rw [q] at h1
          cases oc with
          | type c =>
            cases dt with
            | seq its n =>
              obtain ⟨a1, a2⟩ := Bool.and_eq_true_iff.mp (show (decide (c = "tuple") && (decide (its.size ≤ sizeLine) && He.relAll (x.map V.int) its.toList)) = true from h1)
              obtain ⟨a3, a4⟩ := Bool.and_eq_true_iff.mp a2
              exact .inr ⟨_, its, n, q, congrArg Value.type (of_decide_eq_true a1), rfl, of_decide_eq_true a3, He.relAll_ok a4⟩
            | _ => cases h1
          | _ => cases dt <;> cases h1
    | _ => cases h
theorem tup2B_ok {K : PySem.W.Frag} {x : Str} {xs : List (List Int)} (h : tup2B K x xs = true) : ∃ rs : List Addr, (∀ H : Hp, SqT K H (He.ga K x) (rs.map V.ref)) ∧ rs.length = xs.length ∧ ∀ (i : Nat) (r : Addr) (y : List Int), rs[i]? = some r → xs[i]? = some y → ∀ H : Hp, SqT K H r (y.map V.int) := by
  unfold tup2B at h
  cases q : K.lookup (He.ga K x) with
  | none => rw [q] at h; cases h
  | some o =>
    obtain ⟨oc, od, dt, osl⟩ := o
    rw [q] at h
    cases oc with
    | type c =>
      cases dt with
      | seq its n =>
        obtain ⟨a1, a2⟩ := Bool.and_eq_true_iff.mp (show (decide (c = "tuple") && (decide (its.size ≤ sizeLine) && tup2L K xs its.toList)) = true from h)
        obtain ⟨a3, a4⟩ := Bool.and_eq_true_iff.mp a2
        obtain ⟨rs, v, e, k⟩ := tup2L_ok a4
        exact ⟨rs, fun H => .inr ⟨_, its, n, q, congrArg Value.type (of_decide_eq_true a1), rfl, of_decide_eq_true a3, v⟩, e, k⟩
      | _ => cases h
    | _ => cases dt <;> cases h
/-- the module's own exceptions that are raised; how each stands to the classes that are asked for -/
def exN : List Str := ["NoSquare", "NoState", "NoLevel"]
def exP : List (Str × Sum Str String × Bool) := ([("NoSquare", .inl "NoNumber", false), ("NoSquare", .inl "NoRule", false), ("NoSquare", .inl "Restless", false), ("NoSquare", .inl "NoBox", false), ("NoSquare", .inl "TooFar", false), ("NoSquare", .inl "TooMany", false), ("NoSquare", .inl "NoSteps", false), ("NoSquare", .inl "NoPattern", false), ("NoSquare", .inl "NoName", false), ("NoSquare", .inl "NoRow", false), ("NoSquare", .inl "FieldError", true), ("NoSquare", .inr "ValueError", true), ("NoSquare", .inl "NoSquare", true), ("NoSquare", .inl "NoLevel", false), ("NoSquare", .inl "NoState", false), ("NoState", .inl "NoNumber", false), ("NoState", .inl "NoRule", false), ("NoState", .inl "Restless", false), ("NoState", .inl "NoBox", false), ("NoState", .inl "TooFar", false), ("NoState", .inl "TooMany", false), ("NoState", .inl "NoSteps", false), ("NoState", .inl "NoPattern", false), ("NoState", .inl "NoName", false), ("NoState", .inl "NoRow", false), ("NoState", .inl "FieldError", true), ("NoState", .inr "ValueError", true), ("NoState", .inl "NoSquare", false), ("NoState", .inl "NoLevel", false), ("NoState", .inl "NoState", true)] : List (Str × Sum Str String × Bool)) ++ ([("NoLevel", .inl "NoNumber", false), ("NoLevel", .inl "NoRule", false), ("NoLevel", .inl "Restless", false), ("NoLevel", .inl "NoBox", false), ("NoLevel", .inl "TooFar", false), ("NoLevel", .inl "TooMany", false), ("NoLevel", .inl "NoSteps", false), ("NoLevel", .inl "NoPattern", false), ("NoLevel", .inl "NoName", false), ("NoLevel", .inl "NoRow", false), ("NoLevel", .inl "FieldError", true), ("NoLevel", .inr "ValueError", true), ("NoLevel", .inl "NoSquare", false), ("NoLevel", .inl "NoLevel", true), ("NoLevel", .inl "NoState", false)] : List (Str × Sum Str String × Bool))
def veT : List Value := [.type "ValueError", .type "Exception", .type "BaseException", .type "object"]
def exV (K : PySem.W.Frag) : Sum Str String → Value
  | .inl y => .ref (He.ga K y)
  | .inr t => .type t
def exB1 (K : PySem.W.Frag) (x : Str) : Bool :=
  PySem.W.excIn K (He.ga K x) veT "ValueError.__new__" && PySem.W.keepIn K (.ref (He.ga K x)) && (PySem.W.subIn K (.ref (He.ga K x)) (.type "BaseException") == some true) && (PySem.W.typeIn K (.ref (He.ga K x)) == some (.type "type")) &&
  (PySem.W.findIn K (.ref (He.ga K x)) "__getattribute__" == some (some (.builtin "BaseException.__getattribute__"))) && (PySem.W.findIn K (.ref (He.ga K x)) "__getattr__" == some none) && PySem.W.hasDictIn K (He.ga K x) &&
  (PySem.W.findIn K (.ref (He.ga K x)) "__class__" == some (some (.builtin "object.__class__"))) && (PySem.W.specialIn K (.builtin "object.__class__") "__get__" == some (some (.builtin "getset_descriptor.__get__"))) &&
  (PySem.W.takesIn K (.builtin "object.__class__") == some true) && (PySem.W.mroIn K (He.ga K x) (.type "object") == some true)
def exB2 (K : PySem.W.Frag) (t : Str × Sum Str String × Bool) : Bool :=
  (PySem.W.exmOne K (.ref (He.ga K t.1)) (exV K t.2.1) == some t.2.2) && (PySem.W.kitOne K (.ref (He.ga K t.1)) (exV K t.2.1) == some t.2.2)
/-- the defs in which lambdas are made; their tables of code objects are unlike -/
def tfsP : List (Str × Option Str) := [("_law_numbers_refused", none), ("_law_levels_refused", none), ("law", none)]
def ndB : List Addr → Bool
  | [] => true
  | a :: l => !l.contains a && ndB l
theorem ndB_ok : ∀ {l : List Addr}, ndB l = true → l.Nodup
  | [], _ => List.nodup_nil
  | a :: l, h => by
    obtain ⟨h1, h2⟩ := Bool.and_eq_true_iff.mp (show (!l.contains a && ndB l) = true from h)
    exact List.nodup_cons.mpr ⟨(fun z => by rw [List.contains_iff_mem.mpr z] at h1; cases h1), ndB_ok h2⟩
def tbB (K : PySem.W.Frag) : Bool := (tb.all fun t => He.tupB K t.1 t.2) && (exN.all (exB1 K) && (exP.all (exB2 K) && ((tb2.all fun t => tup2B K t.1 t.2) && ndB (tfsP.map fun p => He.tabOf K (He.codeOf K p)))))
structure Env (fa : List He.Fa) (fn : List He.DefD) (K : PySem.W.Frag) (mg : Str → Option Value) : Prop where
  c : He.SaysD fa fn K
  ex : ∃ h : Heap, K.In h ∧ h.Ns mainGlobals mg
  tb : tbB K = true
section
variable {fa : List He.Fa} {fn : List He.DefD} {K : PySem.W.Frag} {mg : Str → Option Value}
theorem Env.glo (T : Env fa fn K mg) (i : Nat) {x : Str} (h : fa[i]? = some (.glo x) := by rfl) : mg x = some (.ref (He.ga K x)) := by
  obtain ⟨hp, X, G⟩ := T.ex
  exact He.glo_ok X G (T.c.fact i h)
theorem Env.tup (T : Env fa fn K mg) (i : Nat) {x : Str} {vs : List He.Dv} (H : Hp) (h : JF.tb[i]? = some (x, vs) := by rfl) : SqT K H (He.ga K x) (vs.map (He.Dv.v K)) :=
  He.tupB_ok (List.all_eq_true.mp (Bool.and_eq_true_iff.mp T.tb).1 _ (List.mem_of_getElem? h)) H
theorem Env.ex1 (T : Env fa fn K mg) {x : Str} (h : x ∈ JF.exN) : exB1 K x = true := List.all_eq_true.mp (Bool.and_eq_true_iff.mp (Bool.and_eq_true_iff.mp T.tb).2).1 _ h
theorem Env.ex2 (T : Env fa fn K mg) {t : Str × Sum Str String × Bool} (h : t ∈ JF.exP) : exB2 K t = true := List.all_eq_true.mp (Bool.and_eq_true_iff.mp (Bool.and_eq_true_iff.mp (Bool.and_eq_true_iff.mp T.tb).2).2).1 _ h
theorem Env.tup2 (T : Env fa fn K mg) (i : Nat) {x : Str} {xs : List (List Int)} (h : JF.tb2[i]? = some (x, xs) := by rfl) : ∃ rs : List Addr, (∀ H : Hp, SqT K H (He.ga K x) (rs.map V.ref)) ∧ rs.length = xs.length ∧ ∀ (i : Nat) (r : Addr) (y : List Int), rs[i]? = some r → xs[i]? = some y → ∀ H : Hp, SqT K H r (y.map V.int) :=
  tup2B_ok (List.all_eq_true.mp (Bool.and_eq_true_iff.mp (Bool.and_eq_true_iff.mp (Bool.and_eq_true_iff.mp (Bool.and_eq_true_iff.mp T.tb).2).2).2).1 _ (List.mem_of_getElem? h))
theorem Env.tnd (T : Env fa fn K mg) : (JF.tfsP.map fun p => He.tabOf K (He.codeOf K p)).Nodup := ndB_ok (Bool.and_eq_true_iff.mp (Bool.and_eq_true_iff.mp (Bool.and_eq_true_iff.mp (Bool.and_eq_true_iff.mp T.tb).2).2).2).2
theorem Env.free (T : Env fa fn K mg) (i : Nat) {x : Str} (h : fa[i]? = some (.free x) := by rfl) : mg x = none := by
  obtain ⟨hp, X, G⟩ := T.ex
  exact He.free_ok X G (T.c.fact i h)
theorem Env.int (T : Env fa fn K mg) (i : Nat) {x : Str} {n : Int} (h : fa[i]? = some (.int x n) := by rfl) : ∃ t, mg x = some (.int n t) := by
  obtain ⟨hp, X, G⟩ := T.ex
  exact He.int_ok X G (T.c.fact i h)
theorem Env.str (T : Env fa fn K mg) (i : Nat) {x z : Str} (h : fa[i]? = some (.str x z) := by rfl) : ∃ t, mg x = some (.str z t) := by
  obtain ⟨hp, X, G⟩ := T.ex
  exact He.str_ok X G (T.c.fact i h)
theorem Env.cls (T : Env fa fn K mg) (i : Nat) {x : Str} (h : fa[i]? = some (.cls x) := by rfl) : Cls K (He.ga K x) := He.cls_ok (T.c.fact i h)
theorem Env.noat (T : Env fa fn K mg) (i : Nat) {x f : Str} (h : fa[i]? = some (.noat x f) := by rfl) : NoAttr K (He.ga K x) f := He.noat_ok (T.c.fact i h)
theorem Env.meth (T : Env fa fn K mg) (i : Nat) {x m : Str} (h : fa[i]? = some (.meth x m) := by rfl) : Meth K (He.ga K x) m (He.ma K (He.ga K x) m) := He.meth_ok (T.c.fact i h)
theorem Env.mkr (T : Env fa fn K mg) (i : Nat) {x : Str} (h : fa[i]? = some (.mkr x) := by rfl) : Mk K (He.ga K x) (He.ma K (He.ga K x) "__init__") := He.mkr_ok (T.c.fact i h)
end

/-! ### a def that keeps its promise, by its place -/
/-- the def's datum stands there -/
def FdAt (K : PySem.W.Frag) (p : Str × Option Str) (fd : FuncData) : Prop := ∃ oc od osl, K.lookup (He.fAd K p) = some ⟨oc, od, .func fd, osl⟩
theorem FdAt.eq {K : PySem.W.Frag} {p : Str × Option Str} {fd fd' : FuncData} (h : FdAt K p fd) (h' : FdAt K p fd') : fd = fd' := by
  obtain ⟨a, b, c, e⟩ := h
  obtain ⟨a', b', c', e'⟩ := h'
  rw [e] at e'
  cases e'
  rfl
theorem fdAt_of {K : PySem.W.Frag} {x qual : Str} {params : Arguments} {body : List Stmt} {scope : Scope} {dvs : List V} {kws : List (Str × V)} {p : Str × Option Str} {fd : FuncData} (F : FunD K x qual params body scope dvs kws (He.fAd K p) fd) : FdAt K p fd := by
  obtain ⟨oc, od, dV, kV, doc, pm, an, cdv, ct, osl, e, lk, hcd, _, _⟩ := F.ex
  exact ⟨oc, od, osl, lk⟩
def Good (P : Program) (w : World) (K : PySem.W.Frag) (mg : Str → Option Value) (base : Heap) (CX : CXT) (k : Nat) (p : Str × Option Str) (ps : List Str) (sp : Sp) : Prop :=
  ∃ fd, FnOk P w K mg base CX k (He.fAd K p) fd ps sp ∧ Binds K fd ps [] ∧ PySem.W.keepIn K (.ref (He.fAd K p)) = true ∧ FdAt K p fd
section
variable {P : Program} {w : World} {K : PySem.W.Frag} {mg : Str → Option Value} {base : Heap} {fa : List He.Fa} {fn : List He.DefD}
theorem Good.mono {CX : CXT} {j k : Nat} {p : Str × Option Str} {ps : List Str} {sp : Sp} (G : Good P w K mg base CX j p ps sp) (h : j ≤ k) : Good P w K mg base CX k p ps sp := by
  obtain ⟨fd, F, b, kp, lk⟩ := G
  exact ⟨fd, F.mono h, b, kp, lk⟩
theorem Good.imp {CX : CXT} {k : Nat} {p : Str × Option Str} {ps : List Str} {sp sp' : Sp} (G : Good P w K mg base CX k p ps sp) (h : ∀ vs H Q E, sp' vs H Q E → sp vs H Q E) : Good P w K mg base CX k p ps sp' := by
  obtain ⟨fd, F, b, kp, lk⟩ := G
  exact ⟨fd, F.imp h, b, kp, lk⟩
/-- THE RULE of a def: nothing leaves it but by return -/
theorem good_mk (T : Env fa fn K mg) (i : Nat) {d : He.DefD} {k : Nat} {N ps : List Str} {sp : Sp} {x qual : Str} {st : Stmt} {at_ : Str × Option Str} (hi : fn[i]? = some d) (hd : d = ⟨at_, x, qual, defArgs st, defBody st, defScope st, [], []⟩) (S : FnScope N ps (defScope st))
    (hb : ∀ (kV doc pm : Value) (an : Option Addr) (cdv ct : Value) (us : List Value), us.length = ps.length → bindArgs (PySem.W.fnOf x qual (defArgs st) (defBody st) (defScope st) .none kV doc pm an cdv ct) ⟨us, []⟩ = pure (ps.zip us))
    (len : ∀ vs H Q E, sp vs H Q E → vs.length = ps.length)
    (hbody : ∀ (f : Addr) (cdv : Value) (A : Around) (outer : List PySem.Env) (s : Shared) (H : Hp) (vs : List V) (Q : VK) (E : XK), Room k (A.deeper (envOfC qual (defScope st) s.heap.objs.size f cdv)) → sp vs H Q E →
      ∃ t, PSs (cxOf CX0 P w K mg base N qual (defScope st) f cdv A outer s H E).nox (defBody st) t ∧ t { nx := fun _ H' => Q .non H', rt := Q } (start N vs) H) : Good P w K mg base CX0 (k + 1) at_ ps sp := by
  subst hd
  obtain ⟨fd, F⟩ := T.c.def_ i hi
  refine ⟨fd, ?_, FunD.bindsN F hb, F.kp, fdAt_of F⟩
  refine FunD.ok F S len fun cdv A outer s H vs Q E hr h => ?_
  obtain ⟨t, h1, h2⟩ := hbody _ cdv A outer s H vs Q E hr h
  exact ⟨t, h1.nox, h2⟩
end

/-! ### calls -/
section
variable {X : Cx} {k : Nat} {x m : Str} {ps : List Str} {sp : Sp} {p pos apos : Pos} {e o : Expr} {es : List Expr} {ta : TE} {t : TA} {C : Addr}
theorem pe_cg (G : Good X.prog X.w X.K X.mg X.base CX0 k (x, none) ps sp) (hr : Room k X.A) (hm : X.mg x = some (.ref (He.ga X.K x))) (ha : PA X (e :: es) t) (hg : Gl X x := by rfl)
    (hdb : (x == ("__debug__" : Str)) = false := by decide) (he : starEach (e :: es) X.env = (false, eval e X.env) :: starEach es X.env := by rfl) (hpl : (backTo pos (starEach es X.env)).any (·.1) = false := by rfl) :
    PE X (.Call (.Name x p) (e :: es) [] pos) (tCall sp [] E0 t) := by
  obtain ⟨fd, F, b, kp, lk⟩ := G
  exact pe_call F hr hg hm kp b .nil pass0 ha hdb he hpl
theorem pe_cg0 (G : Good X.prog X.w X.K X.mg X.base CX0 k (x, none) ps sp) (hr : Room k X.A) (hm : X.mg x = some (.ref (He.ga X.K x))) (hg : Gl X x := by rfl) (hdb : (x == ("__debug__" : Str)) = false := by decide) :
    PE X (.Call (.Name x p) [] [] pos) (tCall sp [] E0 tNil) := by
  obtain ⟨fd, F, b, kp, lk⟩ := G
  exact pe_call0 F hr hg hm kp b .nil pass0 hdb
theorem pe_mg {cn : Str} {pl : Sem Bool} (he : PE X o ta) (c : Cls X.K (He.ga X.K cn)) (hm : Meth X.K (He.ga X.K cn) m (He.ma X.K (He.ga X.K cn) m)) (G : Good X.prog X.w X.K X.mg X.base CX0 k (cn, some m) ps sp) (hr : Room k X.A) (ha : PA X (e :: es) t)
    (hst : starEach (e :: es) X.env = (false, eval e X.env) :: starEach es X.env := by rfl) (hpl : (backTo pos (starEach es X.env)).any (·.1) = false := by rfl)
    (ht : eval (.Call (.Attribute o m apos) (e :: es) [] pos) X.env = (do
      let ov ← eval o X.env
      standAt apos.atName
      let (f, first) ← holding [ov] (getMethod ov m pl)
      callWith pos f first (backTo pos (starEach (e :: es) X.env)) (backToKw pos (keywordEach [] X.env))) := by rfl) :
    PE X (.Call (.Attribute o m apos) (e :: es) [] pos) (tMeth (He.ga X.K cn) m sp [] E0 ta t) := by
  obtain ⟨fd, F, b, kp, lk⟩ := G
  exact pe_meth he c hm F hr b .nil pass0 ha hst hpl ht
theorem pe_mg0 {cn : Str} {pl : Sem Bool} (he : PE X o ta) (c : Cls X.K (He.ga X.K cn)) (hm : Meth X.K (He.ga X.K cn) m (He.ma X.K (He.ga X.K cn) m)) (G : Good X.prog X.w X.K X.mg X.base CX0 k (cn, some m) ps sp) (hr : Room k X.A)
    (ht : eval (.Call (.Attribute o m apos) [] [] pos) X.env = (do
      let ov ← eval o X.env
      standAt apos.atName
      let (f, first) ← holding [ov] (getMethod ov m pl)
      callWith pos f first (backTo pos (starEach [] X.env)) (backToKw pos (keywordEach [] X.env))) := by rfl) :
    PE X (.Call (.Attribute o m apos) [] [] pos) (tMeth (He.ga X.K cn) m sp [] E0 ta tNil) := by
  obtain ⟨fd, F, b, kp, lk⟩ := G
  exact pe_meth0 he c hm F hr b .nil pass0 ht
theorem pe_mk0 (M : Mk X.K (He.ga X.K x) (He.ma X.K (He.ga X.K x) "__init__")) (G : Good X.prog X.w X.K X.mg X.base CX0 k (x, some "__init__") ps sp) (hr : Room (k + 1) X.A) (hm : X.mg x = some (.ref (He.ga X.K x))) (hg : Gl X x := by rfl)
    (hdb : (x == ("__debug__" : Str)) = false := by decide) : PE X (.Call (.Name x p) [] [] pos) (tMake (He.ga X.K x) sp [] E0 tNil) := by
  obtain ⟨fd, F, b, kp, lk⟩ := G
  exact pe_make0 M F hr hg hm b .nil pass0 hdb
theorem pe_gint {i : Int} (h : ∃ t, X.mg x = some (.int i t)) (hg : Gl X x) (hd : (x == ("__debug__" : Str)) = false := by decide) : PE X (.Name x pos) (tC (.int i)) := by
  obtain ⟨t, e⟩ := h
  exact pe_glob hg e ⟨_, rfl⟩ hd
theorem pe_gstr {z : Str} (h : ∃ t, X.mg x = some (.str z t)) (hg : Gl X x) (hd : (x == ("__debug__" : Str)) = false := by decide) : PE X (.Name x pos) (tC (.str z)) := by
  obtain ⟨t, e⟩ := h
  exact pe_glob hg e ⟨_, rfl⟩ hd
theorem pe_gref (h : X.mg x = some (.ref (He.ga X.K x))) (hg : Gl X x) (hd : (x == ("__debug__" : Str)) = false := by decide) : PE X (.Name x pos) (tC (.ref (He.ga X.K x))) :=
  pe_glob hg h rfl hd
theorem pe_mk0K (K : PySem.W.Frag) (hK : X.K = K) (M : Mk K (He.ga K x) (He.ma K (He.ga K x) "__init__")) (G : Good X.prog X.w K X.mg X.base CX0 k (x, some "__init__") ps sp) (hr : Room (k + 1) X.A) (hm : X.mg x = some (.ref (He.ga K x))) (hg : Gl X x := by rfl)
    (hdb : (x == ("__debug__" : Str)) = false := by decide) : PE X (.Call (.Name x p) [] [] pos) (tMake (He.ga K x) sp [] E0 tNil) := by subst hK; exact pe_mk0 M G hr hm hg hdb
theorem pe_mkgK (K : PySem.W.Frag) (hK : X.K = K) (M : Mk K (He.ga K x) (He.ma K (He.ga K x) "__init__")) (G : Good X.prog X.w K X.mg X.base CX0 k (x, some "__init__") ps sp) (hr : Room (k + 1) X.A) (hm : X.mg x = some (.ref (He.ga K x))) (ha : PA X (e :: es) t) (hg : Gl X x := by rfl)
    (hdb : (x == ("__debug__" : Str)) = false := by decide) (hst : starEach (e :: es) X.env = (false, eval e X.env) :: starEach es X.env := by rfl) (hpl : (backTo pos (starEach es X.env)).any (·.1) = false := by rfl) : PE X (.Call (.Name x p) (e :: es) [] pos) (tMake (He.ga K x) sp [] E0 t) := by
  subst hK
  obtain ⟨fd, F, b, kp, lk⟩ := G
  exact pe_make M F hr hg hm b .nil pass0 ha hdb hst hpl
/-- one of two readings -/
theorem pe_or {t1 t2 : TE} (h1 : PE X e t1) (h2 : PE X e t2) : PE X e (fun σ H Q => t1 σ H Q ∨ t2 σ H Q) := ⟨fun pins s σ H Q I h => h.elim (h1.run pins s σ H Q I) (h2.run pins s σ H Q I)⟩
/-! the written part said outright (in a comprehension's block it is another word for the same) -/
variable {K : PySem.W.Frag} {f : Str} {a b i : Expr} {tb : TE}
theorem pe_fldK (K : PySem.W.Frag) (hK : X.K = K) (he : PE X e ta) (hb : attributeBase e f X.env (eval e X.env) = eval e X.env) : PE X (.Attribute e f pos) (tFld K ta f) := by subst hK; exact pe_fld he hb
theorem ix_listK (K : PySem.W.Frag) (hK : X.K = K) : IxR X (rIxL K) := by subst hK; exact ix_list
theorem ix_tupK (K : PySem.W.Frag) (hK : X.K = K) : IxR X (rIxT K) := by subst hK; exact ix_tup
theorem sl_listK (K : PySem.W.Frag) (hK : X.K = K) : SlR X (rSlL K) := by subst hK; exact sl_list
theorem sl_tupK (K : PySem.W.Frag) (hK : X.K = K) : SlR X (rSlT K) := by subst hK; exact sl_tup
theorem op_inK (K : PySem.W.Frag) (hK : X.K = K) : OpR X (compareOp .In) (rIn K false) := by subst hK; exact op_in_seq
theorem op_notInK (K : PySem.W.Frag) (hK : X.K = K) : OpR X (compareOp .NotIn) (rIn K true) := by subst hK; exact op_notIn_seq
theorem op_eqDK (K : PySem.W.Frag) (hK : X.K = K) (hu : X.A.units + 64 < cLine) : OpR X (compareOp .Eq) (rEqD K) := by subst hK; exact op_eqD hu
theorem op_neDK (K : PySem.W.Frag) (hK : X.K = K) (hu : X.A.units + 64 < cLine) : OpR X (compareOp .NotEq) (rNeD K) := by subst hK; exact op_neD hu
theorem op_catTK (K : PySem.W.Frag) (hK : X.K = K) : OpR X (binaryOp .Add) (rCatT K) := by subst hK; exact op_catT
theorem call_isiK (K : PySem.W.Frag) (hK : X.K = K) : CallR X (.builtin "isinstance") (rIsi K) := by subst hK; exact call_isi
def rLenS (K : PySem.W.Frag) : List V → Hp → VK → Prop := fun xs H Q => ∃ p ys, xs = [.ref p] ∧ (SqL K H p ys ∨ SqT K H p ys) ∧ Q (.int ys.length) H
theorem call_lenK (K : PySem.W.Frag) (hK : X.K = K) : CallR X (.builtin "len") (rLenS K) := by subst hK; exact call_len_seq
def rListOf (K : PySem.W.Frag) : List V → Hp → VK → Prop := fun xs H Q => ∃ p ys, xs = [.ref p] ∧ (SqL K H p ys ∨ SqT K H p ys) ∧ ∀ l, H l = none → Q (.ref l) (upd H l (.lst ys))
theorem call_listK (K : PySem.W.Frag) (hK : X.K = K) : CallR X (.type "list") (rListOf K) := by subst hK; exact call_list_of
theorem cr_sumK (K : PySem.W.Frag) (hK : X.K = K) (hc : X.calm = true) : CallR X (.builtin "sum") (rSum K) := by subst hK; exact cr_sum hc
theorem cr_maxK (K : PySem.W.Frag) (hK : X.K = K) (hc : X.calm = true) : CallR X (.builtin "max") (rMax K) := by subst hK; exact cr_max hc
theorem cr_minK (K : PySem.W.Frag) (hK : X.K = K) (hc : X.calm = true) : CallR X (.builtin "min") (rMin K) := by subst hK; exact cr_min hc
theorem pi_listK (K : PySem.W.Frag) (hK : X.K = K) {tg l : Expr} {tl : TE} (hl : PE X l tl) : PI X tg l (iList K tl) := by subst hK; exact pi_list hl
theorem pi_tupK (K : PySem.W.Frag) (hK : X.K = K) {tg l : Expr} {tl : TE} (hl : PE X l tl) : PI X tg l (iTup K tl) := by subst hK; exact pi_tup hl
theorem pe_mgK (K : PySem.W.Frag) (hK : X.K = K) {cn : Str} {pl : Sem Bool} (he : PE X o ta) (c : Cls K (He.ga K cn)) (hm : Meth K (He.ga K cn) m (He.ma K (He.ga K cn) m)) (G : Good X.prog X.w K X.mg X.base CX0 k (cn, some m) ps sp) (hr : Room k X.A) (ha : PA X (e :: es) t)
    (hst : starEach (e :: es) X.env = (false, eval e X.env) :: starEach es X.env := by rfl) (hpl : (backTo pos (starEach es X.env)).any (·.1) = false := by rfl)
    (ht : eval (.Call (.Attribute o m apos) (e :: es) [] pos) X.env = (do
      let ov ← eval o X.env
      standAt apos.atName
      let (f, first) ← holding [ov] (getMethod ov m pl)
      callWith pos f first (backTo pos (starEach (e :: es) X.env)) (backToKw pos (keywordEach [] X.env))) := by rfl) :
    PE X (.Call (.Attribute o m apos) (e :: es) [] pos) (tMeth (He.ga K cn) m sp [] E0 ta t) := by subst hK; exact pe_mg he c hm G hr ha hst hpl ht
theorem pe_mg0K (K : PySem.W.Frag) (hK : X.K = K) {cn : Str} {pl : Sem Bool} (he : PE X o ta) (c : Cls K (He.ga K cn)) (hm : Meth K (He.ga K cn) m (He.ma K (He.ga K cn) m)) (G : Good X.prog X.w K X.mg X.base CX0 k (cn, some m) ps sp) (hr : Room k X.A)
    (ht : eval (.Call (.Attribute o m apos) [] [] pos) X.env = (do
      let ov ← eval o X.env
      standAt apos.atName
      let (f, first) ← holding [ov] (getMethod ov m pl)
      callWith pos f first (backTo pos (starEach [] X.env)) (backToKw pos (keywordEach [] X.env))) := by rfl) :
    PE X (.Call (.Attribute o m apos) [] [] pos) (tMeth (He.ga K cn) m sp [] E0 ta tNil) := by subst hK; exact pe_mg0 he c hm G hr ht
theorem pe_cgK (K : PySem.W.Frag) (hK : X.K = K) (G : Good X.prog X.w K X.mg X.base CX0 k (x, none) ps sp) (hr : Room k X.A) (hm : X.mg x = some (.ref (He.ga K x))) (ha : PA X (e :: es) t) (hg : Gl X x := by rfl)
    (hdb : (x == ("__debug__" : Str)) = false := by decide) (he : starEach (e :: es) X.env = (false, eval e X.env) :: starEach es X.env := by rfl) (hpl : (backTo pos (starEach es X.env)).any (·.1) = false := by rfl) :
    PE X (.Call (.Name x p) (e :: es) [] pos) (tCall sp [] E0 t) := by subst hK; exact pe_cg G hr hm ha hg hdb he hpl
theorem pe_grefK (K : PySem.W.Frag) (hK : X.K = K) (h : X.mg x = some (.ref (He.ga K x))) (hg : Gl X x) (hd : (x == ("__debug__" : Str)) = false := by decide) : PE X (.Name x pos) (tC (.ref (He.ga K x))) := by subst hK; exact pe_gref h hg hd
end
end JF

/-! ### squares as trees: the mathematics of a grove, no program in sight -/
namespace JF
open PySem PySem.Spec PyProof.Rows L2

inductive Sq where
  | leaf (s : Int)
  | node (a b c d : Sq)
  deriving DecidableEq
abbrev Box := Int × Int × Int × Int
def rb : Option Box → Box → Box
  | none, o => o
  | some b, o => (min b.1 o.1, min b.2.1 o.2.1, max (b.1 + b.2.2.1) (o.1 + o.2.2.1) - min b.1 o.1, max (b.2.1 + b.2.2.2) (o.2.1 + o.2.2.2) - min b.2.1 o.2.1)
def r4step (half : Int) (at_ : Int) (f : Option Box) : Option Box → Option Box
  | none => f
  | some b => some (rb f (b.1 + half * (at_ % 2), b.2.1 + half * (at_ / 2), b.2.2.1, b.2.2.2))
def r4 (half : Int) (a b c d : Option Box) : Option Box := r4step half 3 (r4step half 2 (r4step half 1 (r4step half 0 none a) b) c) d
namespace Sq
def level : Sq → Nat
  | leaf _ => 0
  | node a _ _ _ => a.level + 1
def lives : Sq → Int
  | leaf s => if s = 0 then 0 else 1
  | node a b c d => a.lives + b.lives + c.lives + d.lives
def span : Sq → Option Box
  | leaf s => if s = 0 then none else some (0, 0, 1, 1)
  | node a b c d => r4 (2 ^ a.level : Int) a.span b.span c.span d.span
def wf : Sq → Prop
  | leaf s => 0 ≤ s ∧ s ≤ 7
  | node a b c d => a.wf ∧ b.wf ∧ c.wf ∧ d.wf ∧ b.level = a.level ∧ c.level = a.level ∧ d.level = a.level
def even : Nat → Int → Sq
  | 0, s => leaf s
  | k + 1, s => node (even k s) (even k s) (even k s) (even k s)
theorem level_even (k : Nat) (s : Int) : (even k s).level = k := by
  induction k with
  | zero => rfl
  | succ k ih => show (even k s).level + 1 = k + 1; rw [ih]
theorem wf_even {s : Int} (h0 : 0 ≤ s) (h1 : s ≤ 7) (k : Nat) : (even k s).wf := by
  induction k with
  | zero => exact ⟨h0, h1⟩
  | succ k ih => exact ⟨ih, ih, ih, ih, rfl, rfl, rfl⟩
theorem lives_nonneg : ∀ S : Sq, 0 ≤ S.lives
  | leaf s => by unfold lives; split <;> omega
  | node a b c d => by
    have h1 := lives_nonneg a; have h2 := lives_nonneg b; have h3 := lives_nonneg c; have h4 := lives_nonneg d
    unfold lives; omega
end Sq

/-! ### the dict of a grove: what was made, by numbers -/
def kvsOf : List (List Int) → Nat → List (List Key × V)
  | [], _ => []
  | m :: r, i => (m.map Sum.inl, V.int (i : Int)) :: kvsOf r (i + 1)
def lookI : List (List Int) → List Int → Nat → Option Nat
  | [], _, _ => none
  | m :: r, k, i => if m = k then some i else lookI r k (i + 1)
theorem inl_inj : ∀ {a b : List Int}, a.map (Sum.inl : Int → Key) = b.map Sum.inl → a = b
  | [], [], _ => rfl
  | [], _ :: _, h => by cases h
  | _ :: _, [], h => by cases h
  | x :: a, y :: b, h => by
    simp only [List.map_cons, List.cons.injEq, Sum.inl.injEq] at h
    rw [h.1, inl_inj h.2]
theorem kvsOf_len : ∀ (mk : List (List Int)) (i : Nat), (kvsOf mk i).length = mk.length
  | [], _ => rfl
  | _ :: r, i => by show (kvsOf r (i + 1)).length + 1 = r.length + 1; rw [kvsOf_len r]
theorem kvsOf_app : ∀ (mk : List (List Int)) (m : List Int) (i : Nat), kvsOf (mk ++ [m]) i = kvsOf mk i ++ [(m.map Sum.inl, V.int ((i + mk.length : Nat) : Int))]
  | [], m, i => rfl
  | x :: r, m, i => by
    show _ :: kvsOf (r ++ [m]) (i + 1) = _ :: (kvsOf r (i + 1) ++ _)
    rw [kvsOf_app r m (i + 1)]
    have e : i + 1 + r.length = i + (x :: r).length := by simp; omega
    rw [e]
theorem valV_kvsOf : ∀ (mk : List (List Int)) (k : List Int) (i : Nat), valV (kvsOf mk i) (k.map Sum.inl) = (lookI mk k i).map fun n : Nat => V.int (n : Int)
  | [], _, _ => rfl
  | m :: r, k, i => by
    by_cases h : m = k
    · subst h
      simp [kvsOf, lookI, valV]
    · have h' : ¬ (m.map (Sum.inl : Int → Key) = k.map Sum.inl) := fun e => h (inl_inj e)
      have ih := valV_kvsOf r k (i + 1)
      simp only [kvsOf, lookI, valV, List.find?_cons, h, h', decide_false, if_false] at ih ⊢
      exact ih
theorem lookI_some : ∀ {mk : List (List Int)} {k : List Int} {i n : Nat}, lookI mk k i = some n → i ≤ n ∧ mk[n - i]? = some k
  | [], _, _, _, h => by cases h
  | m :: r, k, i, n, h => by
    by_cases e : m = k
    · simp only [lookI, e, if_true, Option.some.injEq] at h
      subst h
      simp [e]
    · simp only [lookI, e, if_false] at h
      obtain ⟨h1, h2⟩ := lookI_some h
      refine ⟨by omega, ?_⟩
      have e2 : n - i = (n - (i + 1)) + 1 := by omega
      rw [e2, List.getElem?_cons_succ]
      exact h2
theorem lookI_none : ∀ {mk : List (List Int)} {k : List Int} {i : Nat}, lookI mk k i = none → k ∉ mk
  | [], _, _, _ => by simp
  | m :: r, k, i, h => by
    by_cases e : m = k
    · simp [lookI, e] at h
    · simp only [lookI, e, if_false] at h
      have := lookI_none h
      simp only [List.mem_cons, not_or]
      exact ⟨fun z => e z.symm, this⟩

/-- what a square is made of, by the numbers of its quarters -/
def Made (q : List Sq) : Sq → List Int → Prop
  | .leaf s, m => m = [s]
  | .node A B C D, m => ∃ a b c d : Nat, m = [(a : Int), (b : Int), (c : Int), (d : Int)] ∧ q[a]? = some A ∧ q[b]? = some B ∧ q[c]? = some C ∧ q[d]? = some D
theorem getElem?_app {α : Type} {q : List α} {i : Nat} {x : α} (h : q[i]? = some x) (t : List α) : (q ++ t)[i]? = some x := by
  rw [List.getElem?_append_left (List.getElem?_eq_some_iff.mp h).1]
  exact h
theorem Made.app {q : List Sq} {S : Sq} {m : List Int} (h : Made q S m) (t : List Sq) : Made (q ++ t) S m := by
  cases S with
  | leaf s => exact h
  | node A B C D =>
    obtain ⟨a, b, c, d, e, h1, h2, h3, h4⟩ := h
    exact ⟨a, b, c, d, e, getElem?_app h1 t, getElem?_app h2 t, getElem?_app h3 t, getElem?_app h4 t⟩
theorem nodup_at {q : List Sq} (hq : q.Nodup) {i j : Nat} {S : Sq} (a : q[i]? = some S) (b : q[j]? = some S) : i = j := by
  obtain ⟨h1, e1⟩ := List.getElem?_eq_some_iff.mp a
  obtain ⟨h2, e2⟩ := List.getElem?_eq_some_iff.mp b
  exact (List.getElem_inj hq).mp (e1.trans e2.symm)
theorem made_inj {q : List Sq} (hq : q.Nodup) {S : Sq} {m m' : List Int} (a : Made q S m) (b : Made q S m') : m = m' := by
  cases S with
  | leaf s => exact (show m = [s] from a).trans (show m' = [s] from b).symm
  | node A B C D =>
    obtain ⟨a1, b1, c1, d1, rfl, h1, h2, h3, h4⟩ := a
    obtain ⟨a2, b2, c2, d2, rfl, k1, k2, k3, k4⟩ := b
    rw [nodup_at hq h1 k1, nodup_at hq h2 k2, nodup_at hq h3 k3, nodup_at hq h4 k4]
theorem made_same {q : List Sq} {S S' : Sq} {m : List Int} (a : Made q S m) (b : Made q S' m) : S = S' := by
  cases S with
  | leaf s =>
    cases S' with
    | leaf s' =>
      have e : [s] = [s'] := (show m = [s] from a).symm.trans (show m = [s'] from b)
      simp only [List.cons.injEq, and_true] at e
      rw [e]
    | node A B C D =>
      obtain ⟨a2, b2, c2, d2, e, _⟩ := b
      have e1 : m = [s] := a
      rw [e1] at e
      simp at e
  | node A B C D =>
    obtain ⟨a1, b1, c1, d1, e1, h1, h2, h3, h4⟩ := a
    cases S' with
    | leaf s' =>
      have e2 : m = [s'] := b
      rw [e1] at e2
      simp at e2
    | node A' B' C' D' =>
      obtain ⟨a2, b2, c2, d2, e2, k1, k2, k3, k4⟩ := b
      rw [e1] at e2
      simp only [List.cons.injEq, Int.ofNat_inj, and_true] at e2
      obtain ⟨rfl, rfl, rfl, rfl⟩ := e2
      rw [h1] at k1; rw [h2] at k2; rw [h3] at k3; rw [h4] at k4
      cases k1; cases k2; cases k3; cases k4
      rfl
end JF

namespace JF
open PySem PySem.Spec PyProof.Rows L2
def top (i : Nat) : Stmt := PySem.Challenge.pw_jumpfield_k14_refused_squares.main.body.getD i (.Pass ⟨0, 0, 0, 0⟩)
abbrev st_is_whole : Stmt := top 16
theorem sc_is_whole : FnScope ["thing"] ["thing"] (defScope st_is_whole) := ⟨rfl, rfl, rfl, by decide +kernel, rfl, by decide +kernel, by decide +kernel⟩
def d_is_whole : He.DefD := ⟨("is_whole", none), "is_whole", "is_whole", defArgs (top 16), defBody (top 16), defScope (top 16), [], []⟩
abbrev st_round_both : Stmt := top 20
theorem sc_round_both : FnScope ["one", "other", "left", "top", "right", "low"] ["one", "other"] (defScope st_round_both) := ⟨rfl, rfl, rfl, by decide +kernel, rfl, by decide +kernel, by decide +kernel⟩
def d_round_both : He.DefD := ⟨("round_both", none), "round_both", "round_both", defArgs (top 20), defBody (top 20), defScope (top 20), [], []⟩
abbrev st_round_four : Stmt := top 21
theorem sc_round_four : FnScope ["spans", "half", "found", "at", "span", "left", "top"] ["spans", "half"] (defScope st_round_four) := ⟨rfl, rfl, rfl, by decide +kernel, rfl, by decide +kernel, by decide +kernel⟩
def d_round_four : He.DefD := ⟨("round_four", none), "round_four", "round_four", defArgs (top 21), defBody (top 21), defScope (top 21), [], []⟩
abbrev st_is_state : Stmt := top 22
theorem sc_is_state : FnScope ["thing"] ["thing"] (defScope st_is_state) := ⟨rfl, rfl, rfl, by decide +kernel, rfl, by decide +kernel, by decide +kernel⟩
def d_is_state : He.DefD := ⟨("is_state", none), "is_state", "is_state", defArgs (top 22), defBody (top 22), defScope (top 22), [], []⟩
abbrev st_Grove_init : Stmt := inClass (top 23) 0
theorem sc_Grove_init : FnScope ["self"] ["self"] (defScope st_Grove_init) := ⟨rfl, rfl, rfl, by decide +kernel, rfl, by decide +kernel, by decide +kernel⟩
def d_Grove_init : He.DefD := ⟨("Grove", some "__init__"), "__init__", "Grove.__init__", defArgs (inClass (top 23) 0), defBody (inClass (top 23) 0), defScope (inClass (top 23) 0), [], []⟩
abbrev st_Grove_kept : Stmt := inClass (top 23) 1
theorem sc_Grove_kept : FnScope ["self", "made", "level", "lives", "span", "number"] ["self", "made", "level", "lives", "span"] (defScope st_Grove_kept) := ⟨rfl, rfl, rfl, by decide +kernel, rfl, by decide +kernel, by decide +kernel⟩
def d_Grove_kept : He.DefD := ⟨("Grove", some "kept"), "kept", "Grove.kept", defArgs (inClass (top 23) 1), defBody (inClass (top 23) 1), defScope (inClass (top 23) 1), [], []⟩
abbrev st_Grove_cell : Stmt := inClass (top 23) 2
theorem sc_Grove_cell : FnScope ["self", "state", "made"] ["self", "state"] (defScope st_Grove_cell) := ⟨rfl, rfl, rfl, by decide +kernel, rfl, by decide +kernel, by decide +kernel⟩
def d_Grove_cell : He.DefD := ⟨("Grove", some "cell"), "cell", "Grove.cell", defArgs (inClass (top 23) 2), defBody (inClass (top 23) 2), defScope (inClass (top 23) 2), [], []⟩
abbrev st_Grove_knit : Stmt := inClass (top 23) 3
theorem sc_Grove_knit : FnScope ["self", "a", "b", "c", "d", "made", "level", "lives", "span", "one"] ["self", "a", "b", "c", "d"] (defScope st_Grove_knit) := ⟨rfl, rfl, rfl, by decide +kernel, rfl, by decide +kernel, by decide +kernel⟩
def d_Grove_knit : He.DefD := ⟨("Grove", some "knit"), "knit", "Grove.knit", defArgs (inClass (top 23) 3), defBody (inClass (top 23) 3), defScope (inClass (top 23) 3), [], []⟩
abbrev st_Grove_even : Stmt := inClass (top 23) 4
theorem sc_Grove_even : FnScope ["self", "level", "state", "row", "one"] ["self", "level", "state"] (defScope st_Grove_even) := ⟨rfl, rfl, rfl, by decide +kernel, rfl, by decide +kernel, by decide +kernel⟩
def d_Grove_even : He.DefD := ⟨("Grove", some "even"), "even", "Grove.even", defArgs (inClass (top 23) 4), defBody (inClass (top 23) 4), defScope (inClass (top 23) 4), [], []⟩
abbrev st_Grove_asked : Stmt := inClass (top 23) 5
theorem sc_Grove_asked : FnScope ["self", "square"] ["self", "square"] (defScope st_Grove_asked) := ⟨rfl, rfl, rfl, by decide +kernel, rfl, by decide +kernel, by decide +kernel⟩
def d_Grove_asked : He.DefD := ⟨("Grove", some "asked"), "asked", "Grove.asked", defArgs (inClass (top 23) 5), defBody (inClass (top 23) 5), defScope (inClass (top 23) 5), [], []⟩
abbrev st_Grove_leaf : Stmt := inClass (top 23) 6
theorem sc_Grove_leaf : FnScope ["self", "state"] ["self", "state"] (defScope st_Grove_leaf) := ⟨rfl, rfl, rfl, by decide +kernel, rfl, by decide +kernel, by decide +kernel⟩
def d_Grove_leaf : He.DefD := ⟨("Grove", some "leaf"), "leaf", "Grove.leaf", defArgs (inClass (top 23) 6), defBody (inClass (top 23) 6), defScope (inClass (top 23) 6), [], []⟩
abbrev st_Grove_joined : Stmt := inClass (top 23) 7
theorem sc_Grove_joined : FnScope ["self", "a", "b", "c", "d", "levels", "one"] ["self", "a", "b", "c", "d"] (defScope st_Grove_joined) := ⟨rfl, rfl, rfl, by decide +kernel, rfl, by decide +kernel, by decide +kernel⟩
def d_Grove_joined : He.DefD := ⟨("Grove", some "joined"), "joined", "Grove.joined", defArgs (inClass (top 23) 7), defBody (inClass (top 23) 7), defScope (inClass (top 23) 7), [], []⟩
abbrev st_Grove_solid : Stmt := inClass (top 23) 8
theorem sc_Grove_solid : FnScope ["self", "level", "state"] ["self", "level", "state"] (defScope st_Grove_solid) := ⟨rfl, rfl, rfl, by decide +kernel, rfl, by decide +kernel, by decide +kernel⟩
def d_Grove_solid : He.DefD := ⟨("Grove", some "solid"), "solid", "Grove.solid", defArgs (inClass (top 23) 8), defBody (inClass (top 23) 8), defScope (inClass (top 23) 8), [], []⟩
abbrev st_Grove_level_of : Stmt := inClass (top 23) 9
theorem sc_Grove_level_of : FnScope ["self", "square"] ["self", "square"] (defScope st_Grove_level_of) := ⟨rfl, rfl, rfl, by decide +kernel, rfl, by decide +kernel, by decide +kernel⟩
def d_Grove_level_of : He.DefD := ⟨("Grove", some "level_of"), "level_of", "Grove.level_of", defArgs (inClass (top 23) 9), defBody (inClass (top 23) 9), defScope (inClass (top 23) 9), [], []⟩
abbrev st_Grove_quarters : Stmt := inClass (top 23) 10
theorem sc_Grove_quarters : FnScope ["self", "square"] ["self", "square"] (defScope st_Grove_quarters) := ⟨rfl, rfl, rfl, by decide +kernel, rfl, by decide +kernel, by decide +kernel⟩
def d_Grove_quarters : He.DefD := ⟨("Grove", some "quarters"), "quarters", "Grove.quarters", defArgs (inClass (top 23) 10), defBody (inClass (top 23) 10), defScope (inClass (top 23) 10), [], []⟩
abbrev st_Grove_state_of : Stmt := inClass (top 23) 11
theorem sc_Grove_state_of : FnScope ["self", "square"] ["self", "square"] (defScope st_Grove_state_of) := ⟨rfl, rfl, rfl, by decide +kernel, rfl, by decide +kernel, by decide +kernel⟩
def d_Grove_state_of : He.DefD := ⟨("Grove", some "state_of"), "state_of", "Grove.state_of", defArgs (inClass (top 23) 11), defBody (inClass (top 23) 11), defScope (inClass (top 23) 11), [], []⟩
abbrev st_Grove_living : Stmt := inClass (top 23) 12
theorem sc_Grove_living : FnScope ["self", "square"] ["self", "square"] (defScope st_Grove_living) := ⟨rfl, rfl, rfl, by decide +kernel, rfl, by decide +kernel, by decide +kernel⟩
def d_Grove_living : He.DefD := ⟨("Grove", some "living"), "living", "Grove.living", defArgs (inClass (top 23) 12), defBody (inClass (top 23) 12), defScope (inClass (top 23) 12), [], []⟩
abbrev st_Grove_span : Stmt := inClass (top 23) 13
theorem sc_Grove_span : FnScope ["self", "square"] ["self", "square"] (defScope st_Grove_span) := ⟨rfl, rfl, rfl, by decide +kernel, rfl, by decide +kernel, by decide +kernel⟩
def d_Grove_span : He.DefD := ⟨("Grove", some "span"), "span", "Grove.span", defArgs (inClass (top 23) 13), defBody (inClass (top 23) 13), defScope (inClass (top 23) 13), [], []⟩
abbrev st_w_at : Stmt := top 25
theorem sc_w_at : FnScope ["_law_script", "_law_k"] ["_law_script", "_law_k"] (defScope st_w_at) := ⟨rfl, rfl, rfl, by decide +kernel, rfl, by decide +kernel, by decide +kernel⟩
def d_w_at : He.DefD := ⟨("_law_at", none), "_law_at", "_law_at", defArgs (top 25), defBody (top 25), defScope (top 25), [], []⟩
abbrev st_w_bad : Stmt := top 26
theorem sc_w_bad : FnScope ["_law_cell", "_law_most", "_law_way", "_law_far"] ["_law_cell", "_law_most"] (defScope st_w_bad) := ⟨rfl, rfl, rfl, by decide +kernel, rfl, by decide +kernel, by decide +kernel⟩
def d_w_bad : He.DefD := ⟨("_law_bad", none), "_law_bad", "_law_bad", defArgs (top 26), defBody (top 26), defScope (top 26), [], []⟩
abbrev st_w_others : Stmt := top 27
theorem sc_w_others : FnScope ["_law_e", "_law_some"] ["_law_e"] (defScope st_w_others) := ⟨rfl, rfl, rfl, by decide +kernel, rfl, by decide +kernel, by decide +kernel⟩
def d_w_others : He.DefD := ⟨("_law_others", none), "_law_others", "_law_others", defArgs (top 27), defBody (top 27), defScope (top 27), [], []⟩
abbrev st_w_refused : Stmt := top 28
theorem sc_w_refused : FnScope ["_law_deed", "_law_due", "_law_e", "_law_kinds"] ["_law_deed", "_law_due"] (defScope st_w_refused) := ⟨rfl, rfl, rfl, by decide +kernel, rfl, by decide +kernel, by decide +kernel⟩
def d_w_refused : He.DefD := ⟨("_law_refused", none), "_law_refused", "_law_refused", defArgs (top 28), defBody (top 28), defScope (top 28), [], []⟩
abbrev st_w_ask : Stmt := top 29
theorem sc_w_ask : FnScope ["_law_grove", "_law_thing", "_law_which"] ["_law_grove", "_law_thing", "_law_which"] (defScope st_w_ask) := ⟨rfl, rfl, rfl, by decide +kernel, rfl, by decide +kernel, by decide +kernel⟩
def d_w_ask : He.DefD := ⟨("_law_ask", none), "_law_ask", "_law_ask", defArgs (top 29), defBody (top 29), defScope (top 29), [], []⟩
abbrev st_w_numbers_refused : Stmt := top 30
theorem sc_w_numbers_refused : FnScope ["_law_grove", "_law_bad_here", "_law_four", "_law_other", "_law_k", "_law_some", "_law_which"] ["_law_grove", "_law_bad_here", "_law_four", "_law_other"] (defScope st_w_numbers_refused) := ⟨rfl, rfl, rfl, by decide +kernel, rfl, by decide +kernel, by decide +kernel⟩
def d_w_numbers_refused : He.DefD := ⟨("_law_numbers_refused", none), "_law_numbers_refused", "_law_numbers_refused", defArgs (top 30), defBody (top 30), defScope (top 30), [], []⟩
abbrev st_w_levels_refused : Stmt := top 31
theorem sc_w_levels_refused : FnScope ["_law_grove", "_law_bad_here", "_law_level", "_law_four", "_law_other", "_law_k", "_law_high", "_law_leaf", "_law_some"] ["_law_grove", "_law_bad_here", "_law_level", "_law_four", "_law_other"] (defScope st_w_levels_refused) := ⟨rfl, rfl, rfl, by decide +kernel, rfl, by decide +kernel, by decide +kernel⟩
def d_w_levels_refused : He.DefD := ⟨("_law_levels_refused", none), "_law_levels_refused", "_law_levels_refused", defArgs (top 31), defBody (top 31), defScope (top 31), [], []⟩
abbrev st_w_joined : Stmt := top 32
theorem sc_w_joined : FnScope ["_law_grove", "_law_four", "_law_square"] ["_law_grove", "_law_four"] (defScope st_w_joined) := ⟨rfl, rfl, rfl, by decide +kernel, rfl, by decide +kernel, by decide +kernel⟩
def d_w_joined : He.DefD := ⟨("_law_joined", none), "_law_joined", "_law_joined", defArgs (top 32), defBody (top 32), defScope (top 32), [], []⟩
abbrev st_law : Stmt := top 33
theorem sc_law : FnScope ["_law_script", "_law_first", "_law_at_here", "_law_cell", "_law_state", "_law_four", "_law_other", "_law_grove", "_law_level", "_law_none", "_law_k"] ["_law_script"] (defScope st_law) := ⟨rfl, rfl, rfl, by decide +kernel, rfl, by decide +kernel, by decide +kernel⟩
def d_law : He.DefD := ⟨("law", none), "law", "law", defArgs (top 33), defBody (top 33), defScope (top 33), [], []⟩
def tfs : List (Str × Option Str) := tfsP
def tabsL (K : PySem.W.Frag) : List (Addr × Str) := tfs.map fun p => (He.tabOf K (He.codeOf K p), p.1 ++ ".<locals>." ++ "<lambda>")
theorem tl_mem {K : PySem.W.Frag} (i : Nat) {p : Str × Option Str} (h : tfs[i]? = some p) : (He.tabOf K (He.codeOf K p), p.1 ++ ".<locals>." ++ "<lambda>") ∈ tabsL K := List.mem_map.mpr ⟨p, List.mem_of_getElem? h, rfl⟩
theorem tl_u {K : PySem.W.Frag} {mg : Str → Option Value} {fa : List He.Fa} {fn : List He.DefD} (T : Env fa fn K mg) (i : Nat) {p : Str × Option Str} (h : tfs[i]? = some p) : ∀ r ∈ tabsL K, r.1 = He.tabOf K (He.codeOf K p) → r.2 = p.1 ++ ".<locals>." ++ "<lambda>" := fun r hr e => by
  obtain ⟨p', hp', rfl⟩ := List.mem_map.mp hr
  obtain ⟨j, hj⟩ := List.getElem?_of_mem hp'
  have nd := T.tnd
  change tfsP[i]? = some p at h
  change tfsP[j]? = some p' at hj
  have hi : i < tfsP.length := (List.getElem?_eq_some_iff.mp h).1
  have hj' : j < tfsP.length := (List.getElem?_eq_some_iff.mp hj).1
  have e1 : (tfsP.map fun p => He.tabOf K (He.codeOf K p))[j]'(by rw [List.length_map]; exact hj') = (tfsP.map fun p => He.tabOf K (He.codeOf K p))[i]'(by rw [List.length_map]; exact hi) := by
    rw [List.getElem_map, List.getElem_map, (List.getElem?_eq_some_iff.mp hj).2, (List.getElem?_eq_some_iff.mp h).2]
    exact e
  have e2 : j = i := (List.getElem_inj nd).mp e1
  subst e2
  rw [h] at hj
  cases hj
  rfl
def fn : List He.DefD := [d_is_whole, d_round_both, d_round_four, d_is_state, d_Grove_init, d_Grove_kept, d_Grove_cell, d_Grove_knit, d_Grove_even, d_Grove_asked, d_Grove_leaf, d_Grove_joined, d_Grove_solid, d_Grove_level_of, d_Grove_quarters, d_Grove_state_of, d_Grove_living, d_Grove_span, d_w_at, d_w_bad, d_w_others, d_w_refused, d_w_ask, d_w_numbers_refused, d_w_levels_refused, d_w_joined, d_law]
def fa : List He.Fa := [(.free "bool"), (.free "isinstance"), (.free "int"), (.free "min"), (.free "max"), (.free "enumerate"), (.glo "round_both"), (.glo "is_whole"), (.free "len"), (.cls "Grove"), (.meth "Grove" "kept"), (.glo "round_four"), (.meth "Grove" "cell"), (.meth "Grove" "knit"), (.int "MANY" 1000000000), (.glo "NoSquare"), (.glo "is_state"), (.glo "NoState"), (.meth "Grove" "asked"), (.int "HIGHEST" 48), (.glo "NoLevel"), (.meth "Grove" "even"), (.free "str"), (.glo "NoNumber"), (.glo "NoRule"), (.glo "Restless"), (.glo "NoBox"), (.glo "TooFar"), (.glo "TooMany"), (.glo "NoSteps"), (.glo "NoPattern"), (.glo "NoName"), (.glo "NoRow"), (.glo "_law_others"), (.free "ValueError"), (.glo "FieldError"), (.meth "Grove" "level_of"), (.meth "Grove" "quarters"), (.meth "Grove" "state_of"), (.meth "Grove" "living"), (.meth "Grove" "span"), (.free "range"), (.glo "_law_ask"), (.glo "_law_refused"), (.free "list"), (.meth "Grove" "joined"), (.meth "Grove" "leaf"), (.meth "Grove" "solid"), (.mkr "Grove"), (.glo "Grove"), (.glo "_law_at"), (.glo "_law_numbers_refused"), (.glo "_law_bad"), (.glo "_law_levels_refused"), (.glo "_law_joined"), (.noat "Grove" "levels"), (.noat "Grove" "lives"), (.noat "Grove" "made"), (.noat "Grove" "numbers"), (.noat "Grove" "plain"), (.noat "Grove" "spans"), (.glo "law")]
def loose0 : List Str := ["FieldError", "NoNumber", "NoRule", "Restless", "NoSquare", "NoLevel", "NoState", "NoBox", "TooFar", "TooMany", "NoSteps", "NoPattern", "NoName", "NoRow", "is_whole", "HIGHEST", "MANY", "round_both", "round_four", "is_state", "Grove", "_law_at", "_law_bad", "_law_others", "_law_refused", "_law_ask", "_law_numbers_refused", "_law_levels_refused", "_law_joined"]
def looseN : List Str := loose0
end JF

/-! ### the head's run, early in the text, in three parts: it wants much room; with tables of code objects -/
namespace JF
open PySem PySem.Spec PyProof.Rows L2
abbrev Rr : PySem.W.OpenRow := PySem.W.OpenLaw.row PySem.Challenge.rw_jumpfield_k14_refused_squares
def hk : PySem.W.Hook := He.hookX 4 fa fn [] tfs tbB
def ob (s : PySem.W.SharedT) : hk.α := He.obsX 4 fa fn [] tfs tbB (HandSHeadRun.getT s)
theorem ob_eq (s : PySem.W.SharedT) : ob s = hk.obs s.abs := He.obsX_eq (HandSHeadRun.getT_eq s)
def hk0 : PySem.W.Hook where
  α := Unit
  obs := fun _ => ()
  val := fun _ => ()
  says := fun _ _ => True
  of := fun _ _ _ => trivial
  keeps := fun _ _ _ _ _ => trivial
def ob0 (_ : PySem.W.SharedT) : hk0.α := ()
def nA : Nat := fa.length / 2
def mA : Nat := fn.length / 2
def KK (g : Addr → Option Obj) : PySem.W.Frag := He.frT g (He.asD g 4)
def obsA (g : Addr → Option Obj) : Bool × He.AlD := (tbB (KK g) && He.tabsB g tfs (KK g), He.obsD (fa.take nA) (fn.take mA) (KK g))
def obsB (g : Addr → Option Obj) : He.AlD := He.obsD (fa.drop nA) (fn.drop mA) (KK g)
theorem obs_join {g : Addr → Option Obj} {w : World} (hA : obsA g = (true, He.valD (fn.take mA))) (hB : obsB g = He.valD (fn.drop mA)) : He.obsX 4 fa fn [] tfs tbB g = He.valX fn [] w := by
  unfold obsA at hA
  rw [Prod.mk.injEq] at hA
  obtain ⟨h1, h2⟩ := hA
  unfold He.obsD He.valD at h2
  unfold obsB He.obsD He.valD at hB
  rw [Prod.mk.injEq, Bool.and_eq_true] at h2 hB
  obtain ⟨⟨a1, a2⟩, a3⟩ := h2
  obtain ⟨⟨b1, b2⟩, b3⟩ := hB
  have hD : He.obsD fa fn (KK g) = He.valD fn := by
    unfold He.obsD He.valD
    rw [Prod.mk.injEq, Bool.and_eq_true]
    refine ⟨⟨?_, ?_⟩, ?_⟩
    · rw [← List.take_append_drop nA fa, List.all_append, a1, b1]; rfl
    · rw [← List.take_append_drop mA fn, List.all_append, a2, b2]; rfl
    · rw [← List.take_append_drop mA fn, List.map_append, List.map_append, a3, b3]
  show ((He.obsD fa fn (KK g), _), tbB (KK g) && He.tabsB g tfs (KK g)) = ((He.valD fn, _), true)
  rw [h1, hD]
  rfl
noncomputable abbrev endS (w : World) (os : OsState) := HandSHeadRun.endF (HandSHeadRun.stepQ (HandSHeadRun.denQ HandSHeadRun.tabQ) Rr.prog w) 100000 Rr.prog w os
theorem run0 (w : World) : HandSHeadRun.RunEq Rr (PySem.W.view Rr.prog [33]) hk0 ob0 100000 looseN w := by
  intro os
  kernel_rfl
theorem runA (w : World) (os : OsState) : (endS w os).map (fun s => obsA (HandSHeadRun.getT s)) = some (true, He.valD (fn.take mA)) := by kernel_rfl
theorem runB (w : World) (os : OsState) : (endS w os).map (fun s => obsB (HandSHeadRun.getT s)) = some (He.valD (fn.drop mA)) := by kernel_rfl
theorem run (w : World) : HandSHeadRun.RunEq Rr (PySem.W.view Rr.prog [33]) hk ob 100000 looseN w := by
  intro os
  have h0 := run0 w os
  have hA := runA w os
  have hB := runB w os
  unfold endS at hA hB
  generalize HandSHeadRun.endF (HandSHeadRun.stepQ (HandSHeadRun.denQ HandSHeadRun.tabQ) Rr.prog w) 100000 Rr.prog w os = x at h0 hA hB ⊢
  cases x with
  | none => cases h0
  | some s =>
    rw [Option.map_some, Option.some.injEq] at h0 hA hB ⊢
    rw [Prod.mk.injEq, Prod.mk.injEq] at h0 ⊢
    exact ⟨h0.1, h0.2.1, obs_join hA hB⟩
end JF

/-! ### readings step by step: a rule for each construct, tried by «walk_at "rd"» -/
namespace JF
open PySem PySem.Spec PyProof.Rows L2
section
variable {D : Ends} {σ : L2.St} {H : Hp} {Q : VK} {QB : Bool → Hp → Prop} {QA : List V → Hp → Prop} {t u : TS} {te ta tb tc : TE} {g : TG} {c c' : TT} {v : V} {i : Nat} {K : PySem.W.Frag}
theorem rd_seq (h : t { D with nx := u D } σ H) : tSeq t u D σ H := h
/-- the walk halts ahead of a loop -/
def Halt (p : Prop) : Prop := p
theorem rd_seqF {wi : TI} (h : Halt (tSeq (tFor wi g t) u D σ H)) : tSeq (tFor wi g t) u D σ H := h
theorem rd_seqW (h : Halt (tSeq (tWhile c t) u D σ H)) : tSeq (tWhile c t) u D σ H := h
theorem rd_seqI {t' : TS} (h : Halt (tSeq (tIfS c t t') u D σ H)) : tSeq (tIfS c t t') u D σ H := h
theorem rd_next (h : D.nx σ H) : tNext D σ H := h
theorem rd_asg (h : te σ H fun x H1 => g x σ H1 D.nx) : tAsg te g D σ H := h
theorem rd_gname {R : L2.St → Hp → Prop} (h : R (σ.set i (some v)) H) : gName i v σ H R := h
theorem rd_ret (h : te σ H D.rt) : tRet te D σ H := h
theorem rd_retN (h : D.rt .non H) : tRetN D σ H := h
theorem rd_drop (h : te σ H fun _ H1 => D.nx σ H1) : tDrop te D σ H := h
theorem rd_if (h : c σ H fun b H1 => if b = true then t D σ H1 else u D σ H1) : tIfS c t u D σ H := h
theorem rd_ifE (h : c σ H fun b H1 => if b = true then ta σ H1 Q else tb σ H1 Q) : tIf c ta tb σ H Q := h
theorem rd_brk (h : D.bk σ H) : tBreak D σ H := h
theorem rd_cont (h : D.ct σ H) : tCont D σ H := h
theorem rd_var (h : σ[i]? = some (some v)) (q : Q v H) : tVar i σ H Q := ⟨v, h, q⟩
theorem rd_c (q : Q v H) : tC v σ H Q := q
theorem rd_op {r : R2} (h : ta σ H fun x H1 => tb σ H1 fun y H2 => r x y H2 Q) : tOp r ta tb σ H Q := h
theorem rd_un {r : V → Hp → VK → Prop} (h : ta σ H fun x H1 => r x H1 Q) : tUn r ta σ H Q := h
theorem rd_I0 {f : Int → Int → V} {a b : Int} (q : Q (f a b) H) : rI0 f (.int a) (.int b) H Q := ⟨a, b, rfl, rfl, q⟩
theorem rd_U {f : Int → V} {a : Int} (q : Q (f a) H) : rU f (.int a) H Q := ⟨a, rfl, q⟩
theorem rd_test (h : te σ H fun x H' => ∃ k, x = .bl k ∧ QB k H') : tTest te σ H QB := h
theorem rd_B (h : te σ H fun x H' => ∃ k, x = .bl k ∧ QB k H') : tB te σ H QB := h
theorem rd_bl {b : Bool} {R : Bool → Prop} (q : R b) : ∃ k, V.bl b = .bl k ∧ R k := ⟨b, rfl, q⟩
theorem iteT' {A B : Prop} (h : A) : if true = true then A else B := iteT h
theorem iteF' {A B : Prop} (h : B) : if false = true then A else B := iteF h
theorem iteNT {A B : Prop} (h : B) : if (!true) = true then A else B := iteF h
theorem iteNF {A B : Prop} (h : A) : if (!false) = true then A else B := iteT h
theorem rd_for {wi : TI} (h : wi σ H fun J H1 => ∃ W : Nat → Nat → L2.St → Hp → Prop, (∃ m, W 0 m σ H1) ∧ ∀ i m σ H, W i m σ H →
  (J.stop i H ∧ D.nx σ H) ∨ (J.go i H ∧ ∃ N : L2.St → Hp → Prop, (∀ σ' H', N σ' H' → ∃ m', m' < m ∧ W (i + 1) m' σ' H') ∧ ∀ x H', J.yld i H x H' → g x σ H' fun σ2 H2 => t { D with nx := N, ct := N, bk := D.nx } σ2 H2)) : tFor wi g t D σ H := h
theorem rd_and (h : c σ H fun b H1 => if b = true then c' σ H1 QB else QB false H1) : tAnd c c' σ H QB := h
theorem rd_or (h : c σ H fun b H1 => if b = true then QB true H1 else c' σ H1 QB) : tOr c c' σ H QB := h
theorem rd_not (h : c σ H fun b H1 => QB (!b) H1) : tNot c σ H QB := h
theorem rd_andV (h : ta σ H fun x H1 => ∃ k, x = .bl k ∧ if k = true then tb σ H1 Q else Q (.bl false) H1) : tAndV ta tb σ H Q := h
theorem rd_orV (h : ta σ H fun x H1 => ∃ k, x = .bl k ∧ if k = true then Q (.bl true) H1 else tb σ H1 Q) : tOrV ta tb σ H Q := h
theorem rd_notV (h : ta σ H fun x H1 => ∃ k, x = .bl k ∧ Q (.bl (!k)) H1) : tNotV ta σ H Q := h
theorem rd_eqI {a b : Int} (q : Q (.bl (decide (a = b))) H) : rEq (.int a) (.int b) H Q := ⟨rfl, by
  have e : decide (V.int a = V.int b) = decide (a = b) := by by_cases z : a = b <;> simp [z]
  rw [e]; exact q⟩
theorem rd_neI {a b : Int} (q : Q (.bl (!decide (a = b))) H) : rNe (.int a) (.int b) H Q := ⟨rfl, by
  have e : decide (V.int a = V.int b) = decide (a = b) := by by_cases z : a = b <;> simp [z]
  rw [e]; exact q⟩
theorem rd_eqS {a b : Str} (q : Q (.bl (decide (a = b))) H) : rEq (.str a) (.str b) H Q := ⟨rfl, by
  have e : decide (V.str a = V.str b) = decide (a = b) := by by_cases z : a = b <;> simp [z]
  rw [e]; exact q⟩
theorem rd_neS {a b : Str} (q : Q (.bl (!decide (a = b))) H) : rNe (.str a) (.str b) H Q := ⟨rfl, by
  have e : decide (V.str a = V.str b) = decide (a = b) := by by_cases z : a = b <;> simp [z]
  rw [e]; exact q⟩
theorem rd_nil (q : QA [] H) : tNil σ H QA := q
theorem rd_cons {tr : TA} (h : ta σ H fun x H1 => tr σ H1 fun xs H2 => QA (x :: xs) H2) : tCons ta tr σ H QA := h
theorem rd_call {sp : Sp} {dvs : List V} {E : XK} {tr : TA} (h : tr σ H fun vs H1 => sp (vs ++ dvs) H1 Q E) : tCall sp dvs E tr σ H Q := h
theorem rd_CB {r : List V → Hp → VK → Prop} {tr : TA} (h : tr σ H fun vs H1 => r vs H1 Q) : tCB r tr σ H Q := h
theorem rd_meth {C : Addr} {m : Str} {sp : Sp} {dvs : List V} {E : XK} {tr : TA} (h : ta σ H fun x H1 => ∃ a dx fs, x = .ref a ∧ H1 a = some (.ins C dx fs) ∧ fs.lookup m = none ∧ tr σ H1 fun vs H2 => sp (x :: (vs ++ dvs)) H2 Q E) : tMeth C m sp dvs E ta tr σ H Q := h
theorem rd_methR {a dx : Addr} {fs : List (Str × V)} {C : Addr} {m : Str} {R : Prop} (h1 : H a = some (.ins C dx fs)) (h2 : fs.lookup m = none) (q : R) : ∃ a' dx fs, V.ref a = .ref a' ∧ H a' = some (.ins C dx fs) ∧ fs.lookup m = none ∧ R := ⟨a, dx, fs, rfl, h1, h2, q⟩
theorem rd_fld {f : Str} (h : ta σ H fun x H1 => ∃ a C dx fs v, x = .ref a ∧ H1 a = some (.ins C dx fs) ∧ Cls K C ∧ NoAttr K C f ∧ fs.lookup f = some v ∧ Q v H1) : tFld K ta f σ H Q := h
theorem rd_fldR {a C dx : Addr} {fs : List (Str × V)} {f : Str} {R : V → Prop} (h1 : H a = some (.ins C dx fs)) (h2 : Cls K C) (h3 : NoAttr K C f) (h4 : fs.lookup f = some v) (q : R v) : ∃ a' C dx fs v, V.ref a = .ref a' ∧ H a' = some (.ins C dx fs) ∧ Cls K C ∧ NoAttr K C f ∧ fs.lookup f = some v ∧ R v := ⟨a, C, dx, fs, v, rfl, h1, h2, h3, h4, q⟩
theorem rd_chain {r r' : R2} (h : ta σ H fun x H1 => tb σ H1 fun y H2 => r x y H2 fun z H3 => ∃ k, z = .bl k ∧ (if k = true then tc σ H3 fun w' H4 => r' y w' H4 Q else Q (.bl false) H3)) : tChain r r' ta tb tc σ H Q := h
theorem rd_tup {tr : TA} (h : tr σ H fun xs H1 => xs.length ≤ sizeLine ∧ ∀ p, H1 p = none → Q (.ref p) (upd H1 p (.tup xs))) : tTup tr σ H Q := h
theorem rd_lst {tr : TA} (h : tr σ H fun xs H1 => xs.length ≤ sizeLine ∧ ∀ p, H1 p = none → Q (.ref p) (upd H1 p (.lst xs))) : tLst tr σ H Q := h
theorem rd_new {n : Nat} {R : Addr → Prop} (hn : n ≤ sizeLine := by (first | (show _ ≤ sizeLine; decide) | omega)) (h : ∀ p, H p = none → R p) : n ≤ sizeLine ∧ ∀ p, H p = none → R p := ⟨hn, h⟩
theorem rd_bm {T : String} {r : V → List V → Hp → VK → Prop} {tr : TA} (h : ta σ H fun x H1 => tyV K T x H1 ∧ tr σ H1 fun xs H2 => r x xs H2 Q) : tBM K T r ta tr σ H Q := h
theorem rd_bm0 {T : String} {r : V → List V → Hp → VK → Prop} (h : ta σ H fun x H1 => tyV K T x H1 ∧ r x [] H1 Q) : tBM0 K T r ta σ H Q := h
theorem rd_ixL {p : Addr} {xs : List V} {k : Int} (h1 : SqL K H p xs) (h2 : atI xs k = some v) (q : Q v H) : rIxL K (.ref p) (.int k) H Q := ⟨p, xs, k, v, rfl, rfl, h1, h2, q⟩
theorem rd_ixT {p : Addr} {xs : List V} {k : Int} (h1 : SqT K H p xs) (h2 : atI xs k = some v) (q : Q v H) : rIxT K (.ref p) (.int k) H Q := ⟨p, xs, k, v, rfl, rfl, h1, h2, q⟩
theorem rd_tyL {l : Addr} {xs : List V} {R : Prop} (h1 : H l = some (.lst xs)) (q : R) : tyV K "list" (.ref l) H ∧ R := ⟨Or.inl ⟨rfl, _, Or.inl (Or.inl h1)⟩, q⟩
theorem rd_append {l : Addr} {xs : List V} {y : V} (h1 : H l = some (.lst xs)) (h2 : xs.length < sizeLine) (q : Q .non (upd H l (.lst (xs ++ [y])))) : rAppend (.ref l) [y] H Q :=
  ⟨l, xs, y, rfl, rfl, h1, h2, q⟩
theorem rd_dget {td ty : TE} (h : td σ H fun x H1 => ty σ H1 fun y H2 => ∃ a v, x = .ref a ∧ DGet H2 a y (some v) ∧ Q v H2) : tDGet td ty σ H Q := h
theorem rd_din {td ty : TE} (h : ty σ H fun y H1 => td σ H1 fun x H2 => ∃ a o, x = .ref a ∧ DGet H2 a y o ∧ Q (.bl o.isSome) H2) : tDIn ty td σ H Q := h
theorem rd_dput {td ty tv : TE} (h : tv σ H fun v H1 => td σ H1 fun x H2 => ty σ H2 fun y H3 => ∃ a H4, x = .ref a ∧ DPut H3 a y v H4 ∧ D.nx σ H4) : sDPut td ty tv D σ H := h
theorem rd_2I {a b : Int} {R : Int → Int → Prop} (h : R a b) : ∃ i j, [V.int a, V.int b] = [V.int i, V.int j] ∧ R i j := ⟨a, b, rfl, h⟩
theorem rd_I {C : Int → Int → Prop} {f : Int → Int → V} {a b : Int} (hc : C a b) (q : Q (f a b) H) : rI C f (.int a) (.int b) H Q := ⟨a, b, rfl, rfl, hc, q⟩
theorem rd_mod {f : Int → Int → V} {a b : Int} (hc : 0 < b) (q : Q (f a b) H) : rI (fun _ j => 0 < j) f (.int a) (.int b) H Q := ⟨a, b, rfl, rfl, hc, q⟩
theorem rd_fdiv {f : Int → Int → V} {a b : Int} (h1 : 0 < b) (h2 : b < 2 ^ 100) (q : Q (f a b) H) : rI CDivW f (.int a) (.int b) H Q :=
  ⟨a, b, rfl, rfl, wide_div h1 (b := 100) (by have h3 : (b.natAbs : Int) = b := by omega
                                              have h4 : (b.natAbs : Int) < ((2 ^ 100 : Nat) : Int) := by rw [h3]; exact h2
                                              exact Int.ofNat_lt.mp h4) (by decide) (by decide), q⟩
theorem mulW_of {a b : Int} (h1 : -(2 ^ 2000) < a) (h2 : a < 2 ^ 2000) (h3 : -(2 ^ 2000) < b) (h4 : b < 2 ^ 2000) : CMulW a b := by
  have e : ∀ x : Int, -(2 ^ 2000) < x → x < 2 ^ 2000 → x.natAbs < 2 ^ 2000 := fun x p q => by
    have e1 : ((2 ^ 2000 : Nat) : Int) = (2 : Int) ^ 2000 := by norm_cast
    have h : (x.natAbs : Int) < ((2 ^ 2000 : Nat) : Int) := by rw [e1]; omega
    exact Int.ofNat_lt.mp h
  exact wide_mul (e a h1 h2) (e b h3 h4) (by decide) (by decide) (by decide)
theorem rd_nn {R : Prop} (h : R) : V.non = V.non ∧ R := ⟨rfl, h⟩
theorem rd_len {p : Addr} {ys : List V} {R : List V → Prop} (h : SqL K H p ys) (q : R ys) : ∃ p' ys, [V.ref p] = [V.ref p'] ∧ (SqL K H p' ys ∨ SqT K H p' ys) ∧ R ys := ⟨p, ys, rfl, .inl h, q⟩
theorem rd_lenT {p : Addr} {ys : List V} {R : List V → Prop} (h : SqT K H p ys) (q : R ys) : ∃ p' ys, [V.ref p] = [V.ref p'] ∧ (SqL K H p' ys ∨ SqT K H p' ys) ∧ R ys := ⟨p, ys, rfl, .inr h, q⟩
theorem rd_iE {tr : TA} {R : It → Hp → Prop} (h : tr σ H fun vs H1 => ∃ a xs, vs = [.ref a] ∧ SqL K H1 a xs ∧ R (Ite K a) H1) : iEnum K tr σ H R := h
theorem rd_iL {R : It → Hp → Prop} (h : te σ H fun x H1 => ∃ a, x = .ref a ∧ (∃ xs, SqL K H1 a xs) ∧ R (Itl K a) H1) : iList K te σ H R := h
theorem rd_iT {R : It → Hp → Prop} (h : te σ H fun x H1 => ∃ a, x = .ref a ∧ (∃ xs, SqT K H1 a xs) ∧ R (Itt K a) H1) : iTup K te σ H R := h
theorem rd_iR1 {tr : TA} {R : It → Hp → Prop} (h : tr σ H fun vs H1 => ∃ j : Int, vs = [.int j] ∧ -(2 ^ 62) ≤ j ∧ j < 2 ^ 62 ∧ R (Itr 0 j.toNat) H1) : iRng1 tr σ H R := h
theorem rd_iR2 {tr : TA} {R : It → Hp → Prop} (h : tr σ H fun vs H1 => ∃ i j : Int, vs = [.int i, .int j] ∧ (-(2 ^ 62) ≤ i ∧ i < 2 ^ 62 ∧ -(2 ^ 62) ≤ j ∧ j < 2 ^ 62) ∧ R (Itr i (j - i).toNat) H1) : iRng2 tr σ H R := h
theorem rd_iR3 {tr : TA} {R : It → Hp → Prop} (h : tr σ H fun vs H1 => ∃ (i j c : Int) (n : Nat), vs = [.int i, .int j, .int c] ∧ RgC i j c n ∧ R (Itc i c n) H1) : iRng3 tr σ H R := h
theorem rd_iS {R : It → Hp → Prop} (h : te σ H fun v H1 => ∃ x, v = .str x ∧ R (Its x) H1) : iStr te σ H R := h
theorem rd_iZ {tr : TA} {R : It → Hp → Prop} (h : tr σ H fun vs H1 => ∃ a b xs ys, vs = [.ref a, .ref b] ∧ SqL K H1 a xs ∧ SqL K H1 b ys ∧ R (Itz K a b) H1) : iZip K tr σ H R := h
theorem rd_sl {r : V → Option Int → Option Int → Hp → VK → Prop} {tl th : TO} (h : te σ H fun x H1 => tl σ H1 fun l H2 => th σ H2 fun u H3 => r x l u H3 Q) : tSl r te tl th σ H Q := h
theorem rd_np {R : Option Int → Hp → Prop} (h : R none H) : tNoPart σ H R := h
theorem rd_pt {R : Option Int → Hp → Prop} (h : te σ H fun x H1 => ∃ i, x = .int i ∧ R (some i) H1) : tPart te σ H R := h
theorem rd_int {a : Int} {R : Int → Prop} (h : R a) : ∃ i, V.int a = .int i ∧ R i := ⟨a, rfl, h⟩
theorem rd_gtup {n : Nat} {tt : TGs} {a : Addr} {xs : List V} {R : L2.St → Hp → Prop} (h1 : SqT K H a xs) (h2 : xs.length = n) (q : tt xs σ H R) : gTup K n tt (.ref a) σ H R := ⟨a, xs, rfl, h1, h2, q⟩
theorem rd_gcons {tt : TGs} {r : List V} {R : L2.St → Hp → Prop} (q : g v σ H fun σ' H' => tt r σ' H' R) : gCons g tt (v :: r) σ H R := ⟨v, r, rfl, q⟩
theorem rd_gsub {to ti : TE} {ts : TSet} {R : L2.St → Hp → Prop} (h : to σ H fun o H1 => ti σ H1 fun i H2 => ts o i v H2 fun H3 => R σ H3) : gSub to ti ts v σ H R := h
theorem rd_gnil {R : L2.St → Hp → Prop} (q : R σ H) : gNil [] σ H R := ⟨rfl, q⟩
theorem rd_lc {wi : TI} {vs : List Nat} (h : wi σ H fun J H1 => ∀ D, H1 D = none → ∃ W : Nat → Nat → Hp → Prop, (∃ m, W 0 m (upd H1 D (.lst []))) ∧ ∀ i m H, W i m H →
  (J.stop i H ∧ Q (.ref D) H) ∨ (J.go i H ∧ ∃ Nx : Hp → Prop, (∀ H', Nx H' → ∃ m', m' < m ∧ W (i + 1) m' H') ∧ ∀ x H', J.yld i H x H' → g x (wipe σ vs) H' fun σ2 H2 => wipe σ2 vs = wipe σ vs ∧ c σ2 H2 fun b H3 =>
    if b = true then te σ2 H3 fun y H4 => ∃ acc, H4 D = some (.lst acc) ∧ acc.length < sizeLine ∧ Nx (upd H4 D (.lst (acc ++ [y]))) else Nx H3)) : tLc wi g c te vs σ H Q := h
theorem rd_yes (h : QB true H) : tYes σ H QB := h
theorem rd_dsetd {td ty tx : TE} (h : td σ H fun x H1 => ∃ a, x = .ref a ∧ IsD H1 a ∧ ty σ H1 fun y H2 => tx σ H2 fun z H3 => ∃ (kvs : List (Key × V)) (k : Key), H3 a = some (.dK kvs) ∧ y = kV k ∧ kvs.length < sizeLine ∧
  (∀ v, valV kvs k = some v → Q v H3) ∧ (valV kvs k = none → Q z (upd H3 a (.dK (putK kvs k z))))) : tDSetd td ty tx σ H Q := h
theorem rd_isD {a : Addr} {kvs : List (Key × V)} {R : Addr → Prop} (h : H a = some (.dK kvs)) (q : R a) : ∃ b, V.ref a = .ref b ∧ IsD H b ∧ R b := ⟨a, rfl, .inl ⟨kvs, .inl h⟩, q⟩
theorem rd_fldS {ta tv : TE} {f : Str} (h : tv σ H fun y H1 => ta σ H1 fun x H2 => ∃ a C dx fs, x = .ref a ∧ H2 a = some (.ins C dx fs) ∧ Cls K C ∧ NoAttr K C f ∧ fs.length < 1000 ∧ D.nx σ (upd H2 a (.ins C dx (putF f y fs)))) : sFld K ta tv f D σ H := h
theorem rd_newK {R : Addr → Prop} (h : ∀ p, H p = none → R p) : ∀ p, H p = none → R p := h
theorem dp_ints {ns : List Int} : DpAll K H (ns.map V.int) (ns.map PyData.int) := by
  induction ns with
  | nil => exact .nil
  | cons n r ih => exact .cons (.int n) ih
theorem rd_eqDI {p p' : Addr} {ns ms : List Int} (h1 : SqL K H p (ns.map V.int)) (h2 : SqL K H p' (ms.map V.int)) (s1 : SeqAt.shaped (.list (ns.map PyData.int)) = true) (s2 : SeqAt.shaped (.list (ms.map PyData.int)) = true)
    (q : Q (.bl (PyData.eqv (.list (ns.map PyData.int)) (.list (ms.map PyData.int)))) H) : rEqD K (.ref p) (.ref p') H Q := ⟨_, _, .lst h1 dp_ints, .lst h2 dp_ints, s1, s2, q⟩
theorem rd_neDI {p p' : Addr} {ns ms : List Int} (h1 : SqL K H p (ns.map V.int)) (h2 : SqL K H p' (ms.map V.int)) (s1 : SeqAt.shaped (.list (ns.map PyData.int)) = true) (s2 : SeqAt.shaped (.list (ms.map PyData.int)) = true)
    (q : Q (.bl (!PyData.eqv (.list (ns.map PyData.int)) (.list (ms.map PyData.int)))) H) : rNeD K (.ref p) (.ref p') H Q := ⟨_, _, .lst h1 dp_ints, .lst h2 dp_ints, s1, s2, q⟩
theorem rd_rep {l : Addr} {k : Int} {xs : List V} (h1 : H l = some (.lst xs)) (h2 : -(2 ^ 63) ≤ k) (h3 : k < 2 ^ 63) (h4 : xs.length * k.toNat ≤ sizeLine) (q : ∀ p, H p = none → Q (.ref p) (upd H p (.lst (List.replicate k.toNat xs).flatten))) : rRep (.ref l) (.int k) H Q :=
  ⟨l, k, xs, rfl, rfl, h1, h2, h3, h4, q⟩
theorem ite_d {p : Prop} [Decidable p] {A B : Prop} (h1 : p → A) (h2 : ¬ p → B) : if decide p = true then A else B := by
  by_cases h : p
  · rw [decide_eq_true h, if_pos rfl]; exact h1 h
  · rw [decide_eq_false h, if_neg Bool.false_ne_true]; exact h2 h
theorem ite_nd {p : Prop} [Decidable p] {A B : Prop} (h1 : ¬ p → A) (h2 : p → B) : if (!decide p) = true then A else B := by
  by_cases h : p
  · rw [decide_eq_true h]; exact iteF (h2 h)
  · rw [decide_eq_false h]; exact iteT (h1 h)
theorem ite_b {b : Bool} {A B : Prop} (h1 : b = true → A) (h2 : b = false → B) : if b = true then A else B := by
  cases b
  · exact iteF (h2 rfl)
  · exact iteT (h1 rfl)
theorem ite_nb {b : Bool} {A B : Prop} (h1 : b = false → A) (h2 : b = true → B) : if (!b) = true then A else B := by
  cases b
  · exact iteT (h1 rfl)
  · exact iteF (h2 rfl)
end
end JF

local macro_rules | `(tactic| walk_at "rs1") => `(tactic| first
  | with_reducible refine JF.rd_seq ?_ | with_reducible refine JF.rd_asg ?_ | with_reducible refine JF.rd_gname ?_
  | with_reducible refine JF.rd_var rfl ?_ | with_reducible refine JF.rd_c ?_ | with_reducible refine JF.rd_op ?_ | with_reducible refine JF.rd_I0 ?_
  | with_reducible refine JF.rd_if ?_ | with_reducible refine JF.rd_test ?_ | with_reducible refine JF.rd_bl ?_
  | with_reducible refine JF.rd_eqI ?_ | with_reducible refine JF.rd_neI ?_ | with_reducible refine JF.rd_eqS ?_ | with_reducible refine JF.rd_neS ?_
  | with_reducible refine JF.rd_cons ?_ | with_reducible refine JF.rd_nil ?_ | with_reducible refine JF.rd_call ?_ | with_reducible refine JF.rd_meth ?_ | with_reducible refine JF.rd_fld ?_ | with_reducible refine JF.rd_CB ?_
  | with_reducible refine JF.rd_ret ?_ | with_reducible refine JF.rd_drop ?_ | with_reducible refine JF.rd_next ?_ | with_reducible refine JF.rd_and ?_ | with_reducible refine JF.rd_or ?_ | with_reducible refine JF.rd_not ?_
  | with_reducible refine JF.rd_andV ?_ | with_reducible refine JF.rd_orV ?_ | with_reducible refine JF.rd_notV ?_ | with_reducible refine JF.rd_B ?_ | with_reducible refine JF.rd_un ?_ | with_reducible refine JF.rd_U ?_
  | with_reducible refine JF.rd_chain ?_ | with_reducible refine JF.rd_tup ?_ | with_reducible refine JF.rd_lst ?_ | with_reducible refine JF.rd_bm ?_ | with_reducible refine JF.rd_bm0 ?_
  | with_reducible refine JF.rd_dget ?_ | with_reducible refine JF.rd_din ?_ | with_reducible refine JF.rd_dput ?_ | with_reducible refine JF.rd_ifE ?_ | with_reducible refine JF.rd_retN ?_ | with_reducible refine JF.rd_brk ?_ | with_reducible refine JF.rd_cont ?_
  | with_reducible refine JF.iteT' ?_ | with_reducible refine JF.iteF' ?_ | with_reducible refine JF.iteNT ?_ | with_reducible refine JF.iteNF ?_ | ((with_reducible refine' JF.rd_fldR ?h1 ?h2 ?h3 ?h4 ?q); (case h1 => assumption); (case h2 => assumption); (case h3 => assumption); (case h4 => exact rfl))
  | with_reducible refine JF.rd_dsetd ?_ | with_reducible refine JF.rd_fldS ?_
  | with_reducible refine JF.rd_yes ?_ | with_reducible refine JF.rd_iE ?_ | with_reducible refine JF.rd_iL ?_ | with_reducible refine JF.rd_iT ?_ | with_reducible refine JF.rd_iR1 ?_ | with_reducible refine JF.rd_iR2 ?_ | with_reducible refine JF.rd_iR3 ?_ | with_reducible refine JF.rd_iS ?_ | with_reducible refine JF.rd_iZ ?_ | with_reducible refine JF.rd_sl ?_ | with_reducible refine JF.rd_np ?_ | with_reducible refine JF.rd_pt ?_ | with_reducible refine JF.rd_int ?_
  | ((with_reducible refine' JF.rd_gtup ?h1 ?h2 ?q); (case h1 => exact L2.SqT.of (by assumption)); (case h2 => exact rfl)) | with_reducible refine JF.rd_gcons ?_ | with_reducible refine JF.rd_gnil ?_ | with_reducible refine JF.rd_gsub ?_
  | with_reducible refine JF.rd_2I ?_ | ((with_reducible refine' JF.rd_ixT ?h1 ?h2 ?q); (case h1 => exact L2.SqT.of (by assumption)); (case h2 => exact rfl)) | ((with_reducible refine JF.rd_mod ?_ ?_); · decide) | ((with_reducible refine JF.rd_fdiv ?h1 ?h2 ?_); (case h1 => decide); (case h2 => decide)) | with_reducible refine JF.rd_nn ?_)
local macro_rules | `(tactic| walk_at "rd1") => `(tactic| first | walk_at "rs1" | with_reducible refine JF.rd_for ?_ | with_reducible refine JF.rd_lc ?_)
local macro_rules | `(tactic| walk_at "rh") => `(tactic| repeat (first | with_reducible refine JF.rd_seqF ?_ | with_reducible refine JF.rd_seqW ?_ | walk_at "rs1"))
local macro_rules | `(tactic| walk_at "rhi") => `(tactic| repeat (first | with_reducible refine JF.rd_seqF ?_ | with_reducible refine JF.rd_seqW ?_ | with_reducible refine JF.rd_seqI ?_ | walk_at "rs1"))
local macro_rules | `(tactic| walk_at "rs") => `(tactic| repeat walk_at "rs1")
local macro_rules | `(tactic| walk_at "rd") => `(tactic| repeat walk_at "rd1")
local macro_rules | `(tactic| walk_at "ne") => `(tactic| first | assumption | (apply Ne.symm; assumption))
local macro_rules | `(tactic| walk_at "hp") => `(tactic| first | assumption | exact L2.upd_same | ((with_reducible refine (L2.upd_ne ?h1).trans ?h2); (case h1 => walk_at "ne"); (case h2 => walk_at "hp")))

/-! ### readings are monotone in what is wanted; a cut between two statements -/
namespace JF
open PySem PySem.Spec PyProof.Rows L2
def MonE (t : TE) : Prop := ∀ σ H (Q Q' : VK), (∀ v H, Q v H → Q' v H) → t σ H Q → t σ H Q'
def MonT (t : TT) : Prop := ∀ σ H (Q Q' : Bool → Hp → Prop), (∀ v H, Q v H → Q' v H) → t σ H Q → t σ H Q'
def MonA (t : TA) : Prop := ∀ σ H (Q Q' : List V → Hp → Prop), (∀ v H, Q v H → Q' v H) → t σ H Q → t σ H Q'
def MonO (t : TO) : Prop := ∀ σ H (Q Q' : Option Int → Hp → Prop), (∀ v H, Q v H → Q' v H) → t σ H Q → t σ H Q'
def MonR (r : R2) : Prop := ∀ x y H (Q Q' : VK), (∀ v H, Q v H → Q' v H) → r x y H Q → r x y H Q'
def MonU (r : V → Hp → VK → Prop) : Prop := ∀ x H (Q Q' : VK), (∀ v H, Q v H → Q' v H) → r x H Q → r x H Q'
def MonC (r : List V → Hp → VK → Prop) : Prop := ∀ x H (Q Q' : VK), (∀ v H, Q v H → Q' v H) → r x H Q → r x H Q'
def MonM (r : V → List V → Hp → VK → Prop) : Prop := ∀ x y H (Q Q' : VK), (∀ v H, Q v H → Q' v H) → r x y H Q → r x y H Q'
def MonL (r : V → Option Int → Option Int → Hp → VK → Prop) : Prop := ∀ x y z H (Q Q' : VK), (∀ v H, Q v H → Q' v H) → r x y z H Q → r x y z H Q'
def MonG (g : TG) : Prop := ∀ v σ H (Q Q' : L2.St → Hp → Prop), (∀ σ H, Q σ H → Q' σ H) → g v σ H Q → g v σ H Q'
def MonGs (g : TGs) : Prop := ∀ v σ H (Q Q' : L2.St → Hp → Prop), (∀ σ H, Q σ H → Q' σ H) → g v σ H Q → g v σ H Q'
def MonI (t : TI) : Prop := ∀ σ H (Q Q' : It → Hp → Prop), (∀ v H, Q v H → Q' v H) → t σ H Q → t σ H Q'
def MonP (sp : Sp) : Prop := ∀ vs H (Q Q' : VK) E, (∀ v H, Q v H → Q' v H) → sp vs H Q E → sp vs H Q' E
def EndsLe (D D' : Ends) : Prop := (∀ σ H, D.nx σ H → D'.nx σ H) ∧ (∀ v H, D.rt v H → D'.rt v H) ∧ (∀ σ H, D.bk σ H → D'.bk σ H) ∧ (∀ σ H, D.ct σ H → D'.ct σ H)
def MonS (t : TS) : Prop := ∀ D D' σ H, EndsLe D D' → t D σ H → t D' σ H
section
variable {t u : TS} {te ta tb tc : TE} {c c' : TT} {g : TG} {gs : TGs} {tr : TA} {r r' : R2} {wi : TI}
/-- THE CUT: P holds between both -/
theorem rd_cut {D : Ends} {σ : L2.St} {H : Hp} (P : L2.St → Hp → Prop) (m : MonS t) (h1 : t { D with nx := P } σ H) (h2 : ∀ σ H, P σ H → u D σ H) : tSeq t u D σ H :=
  m { D with nx := P } { D with nx := u D } σ H ⟨h2, fun _ _ h => h, fun _ _ h => h, fun _ _ h => h⟩ h1
theorem rd_cutE {σ : L2.St} {H : Hp} {Q : VK} (P : VK) (m : MonE te) (h1 : te σ H P) (h2 : ∀ v H, P v H → Q v H) : te σ H Q := m _ _ _ _ h2 h1
theorem me_var {i : Nat} : MonE (tVar i) := fun σ H Q Q' h ⟨v, e, q⟩ => ⟨v, e, h _ _ q⟩
theorem me_c {v : V} : MonE (tC v) := fun σ H Q Q' h q => h _ _ q
theorem me_op (m : MonR r) (a : MonE ta) (b : MonE tb) : MonE (tOp r ta tb) := fun σ H Q Q' h q => a _ _ _ _ (fun _ _ z => b _ _ _ _ (fun _ _ z' => m _ _ _ _ _ h z') z) q
theorem me_un {r : V → Hp → VK → Prop} (m : MonU r) (a : MonE ta) : MonE (tUn r ta) := fun σ H Q Q' h q => a _ _ _ _ (fun _ _ z => m _ _ _ _ h z) q
theorem me_fld {K : PySem.W.Frag} {f : Str} (a : MonE ta) : MonE (tFld K ta f) := fun σ H Q Q' h q => a _ _ _ _ (fun _ _ ⟨x, C, dx, fs, v, e1, e2, e3, e4, e5, z⟩ => ⟨x, C, dx, fs, v, e1, e2, e3, e4, e5, h _ _ z⟩) q
theorem me_tup (a : MonA tr) : MonE (tTup tr) := fun σ H Q Q' h q => a _ _ _ _ (fun _ _ ⟨l, z⟩ => ⟨l, fun p hp => h _ _ (z p hp)⟩) q
theorem me_lst (a : MonA tr) : MonE (tLst tr) := fun σ H Q Q' h q => a _ _ _ _ (fun _ _ ⟨l, z⟩ => ⟨l, fun p hp => h _ _ (z p hp)⟩) q
theorem me_call {sp : Sp} {dvs : List V} {E : XK} (m : MonP sp) (a : MonA tr) : MonE (tCall sp dvs E tr) := fun σ H Q Q' h q => a _ _ _ _ (fun _ _ z => m _ _ _ _ _ h z) q
theorem me_meth {C : Addr} {n : Str} {sp : Sp} {dvs : List V} {E : XK} (m : MonP sp) (a : MonE ta) (b : MonA tr) : MonE (tMeth C n sp dvs E ta tr) := fun σ H Q Q' h q => a _ _ _ _ (fun _ _ ⟨x, dx, fs, e1, e2, e3, z⟩ => ⟨x, dx, fs, e1, e2, e3, b _ _ _ _ (fun _ _ y => m _ _ _ _ _ h y) z⟩) q
theorem me_cb {r : List V → Hp → VK → Prop} (m : MonC r) (a : MonA tr) : MonE (tCB r tr) := fun σ H Q Q' h q => a _ _ _ _ (fun _ _ z => m _ _ _ _ h z) q
theorem me_bm {K : PySem.W.Frag} {T : String} {r : V → List V → Hp → VK → Prop} (m : MonM r) (a : MonE ta) (b : MonA tr) : MonE (tBM K T r ta tr) := fun σ H Q Q' h q => a _ _ _ _ (fun _ _ ⟨y, z⟩ => ⟨y, b _ _ _ _ (fun _ _ z' => m _ _ _ _ _ h z') z⟩) q
theorem me_bm0 {K : PySem.W.Frag} {T : String} {r : V → List V → Hp → VK → Prop} (m : MonM r) (a : MonE ta) : MonE (tBM0 K T r ta) := fun σ H Q Q' h q => a _ _ _ _ (fun _ _ ⟨y, z⟩ => ⟨y, m _ _ _ _ _ h z⟩) q
theorem me_andV (a : MonE ta) (b : MonE tb) : MonE (tAndV ta tb) := fun σ H Q Q' h q => a _ _ _ _ (fun _ _ ⟨k, e, z⟩ => ⟨k, e, by cases k; exact h _ _ z; exact b _ _ _ _ h z⟩) q
theorem me_orV (a : MonE ta) (b : MonE tb) : MonE (tOrV ta tb) := fun σ H Q Q' h q => a _ _ _ _ (fun _ _ ⟨k, e, z⟩ => ⟨k, e, by cases k; exact b _ _ _ _ h z; exact h _ _ z⟩) q
theorem me_notV (a : MonE ta) : MonE (tNotV ta) := fun σ H Q Q' h q => a _ _ _ _ (fun _ _ ⟨k, e, z⟩ => ⟨k, e, h _ _ z⟩) q
theorem me_if (m : MonT c) (a : MonE ta) (b : MonE tb) : MonE (tIf c ta tb) := fun σ H Q Q' h q => m _ _ _ _ (fun k _ z => by cases k; exact b _ _ _ _ h z; exact a _ _ _ _ h z) q
theorem me_chain (m : MonR r) (m' : MonR r') (a : MonE ta) (b : MonE tb) (d : MonE tc) : MonE (tChain r r' ta tb tc) := fun σ H Q Q' h q =>
  a _ _ _ _ (fun _ _ z => b _ _ _ _ (fun _ _ z' => m _ _ _ _ _ (fun _ _ ⟨k, e, y⟩ => ⟨k, e, by cases k; exact h _ _ y; exact d _ _ _ _ (fun _ _ y' => m' _ _ _ _ _ h y') y⟩) z') z) q
theorem me_sl {rl : V → Option Int → Option Int → Hp → VK → Prop} {tl th : TO} (m : MonL rl) (a : MonE te) (b : MonO tl) (d : MonO th) : MonE (tSl rl te tl th) := fun σ H Q Q' h q => a _ _ _ _ (fun _ _ z => b _ _ _ _ (fun _ _ z => d _ _ _ _ (fun _ _ z => m _ _ _ _ _ _ h z) z) z) q
theorem me_dget {td ty : TE} (a : MonE td) (b : MonE ty) : MonE (tDGet td ty) := fun σ H Q Q' h q => a _ _ _ _ (fun _ _ z => b _ _ _ _ (fun _ _ ⟨x, v, e1, e2, z⟩ => ⟨x, v, e1, e2, h _ _ z⟩) z) q
theorem me_dget2 {td ty tx : TE} (a : MonE td) (b : MonE ty) (d : MonE tx) : MonE (tDGet2 td ty tx) := fun σ H Q Q' h q => a _ _ _ _ (fun _ _ ⟨x, e1, e2, z⟩ => ⟨x, e1, e2, b _ _ _ _ (fun _ _ z => d _ _ _ _ (fun _ _ ⟨o, e3, z⟩ => ⟨o, e3, h _ _ z⟩) z) z⟩) q
theorem me_din {td ty : TE} (a : MonE td) (b : MonE ty) : MonE (tDIn ty td) := fun σ H Q Q' h q => b _ _ _ _ (fun _ _ z => a _ _ _ _ (fun _ _ ⟨x, v, e1, e2, z⟩ => ⟨x, v, e1, e2, h _ _ z⟩) z) q
theorem me_dnotin {td ty : TE} (a : MonE td) (b : MonE ty) : MonE (tDNotIn ty td) := fun σ H Q Q' h q => b _ _ _ _ (fun _ _ z => a _ _ _ _ (fun _ _ ⟨x, v, e1, e2, z⟩ => ⟨x, v, e1, e2, h _ _ z⟩) z) q
theorem me_dsetd {td ty tx : TE} (a : MonE td) (b : MonE ty) (d : MonE tx) : MonE (tDSetd td ty tx) := fun σ H Q Q' h q =>
  a _ _ _ _ (fun _ _ ⟨x, e1, e2, z⟩ => ⟨x, e1, e2, b _ _ _ _ (fun _ _ z => d _ _ _ _ (fun _ _ ⟨kvs, k, e3, e4, e5, z1, z2⟩ => ⟨kvs, k, e3, e4, e5, fun v hv => h _ _ (z1 v hv), fun hv => h _ _ (z2 hv)⟩) z) z⟩) q
theorem mt_test' (a : MonE te) : MonT (tTest te) := fun σ H Q Q' h q => a _ _ _ _ (fun _ _ ⟨k, e, z⟩ => ⟨k, e, h _ _ z⟩) q
theorem mt_B (a : MonE te) : MonT (tB te) := fun σ H Q Q' h q => a _ _ _ _ (fun _ _ ⟨k, e, z⟩ => ⟨k, e, h _ _ z⟩) q
theorem mt_and (a : MonT c) (b : MonT c') : MonT (tAnd c c') := fun σ H Q Q' h q => a _ _ _ _ (fun k _ z => by cases k; exact h _ _ z; exact b _ _ _ _ h z) q
theorem mt_or (a : MonT c) (b : MonT c') : MonT (tOr c c') := fun σ H Q Q' h q => a _ _ _ _ (fun k _ z => by cases k; exact b _ _ _ _ h z; exact h _ _ z) q
theorem mt_not (a : MonT c) : MonT (tNot c) := fun σ H Q Q' h q => a _ _ _ _ (fun k _ z => h _ _ z) q
theorem ma_nil : MonA tNil := fun σ H Q Q' h q => h _ _ q
theorem ma_cons (a : MonE ta) (b : MonA tr) : MonA (tCons ta tr) := fun σ H Q Q' h q => a _ _ _ _ (fun _ _ z => b _ _ _ _ (fun _ _ y => h _ _ y) z) q
theorem mo_none : MonO tNoPart := fun σ H Q Q' h q => h _ _ q
theorem mo_some (a : MonE te) : MonO (tPart te) := fun σ H Q Q' h q => a _ _ _ _ (fun _ _ ⟨i, e, z⟩ => ⟨i, e, h _ _ z⟩) q
theorem mr_I0 {f : Int → Int → V} : MonR (rI0 f) := fun x y H Q Q' h ⟨i, j, a, b, q⟩ => ⟨i, j, a, b, h _ _ q⟩
theorem mr_I {C : Int → Int → Prop} {f : Int → Int → V} : MonR (rI C f) := fun x y H Q Q' h ⟨i, j, a, b, d, q⟩ => ⟨i, j, a, b, d, h _ _ q⟩
theorem mr_eq : MonR rEq := fun x y H Q Q' h ⟨a, q⟩ => ⟨a, h _ _ q⟩
theorem mr_ne : MonR rNe := fun x y H Q Q' h ⟨a, q⟩ => ⟨a, h _ _ q⟩
theorem mr_ixL {K : PySem.W.Frag} : MonR (rIxL K) := fun x y H Q Q' h ⟨p, xs, i, v, a, b, c, d, q⟩ => ⟨p, xs, i, v, a, b, c, d, h _ _ q⟩
theorem mr_ixT {K : PySem.W.Frag} : MonR (rIxT K) := fun x y H Q Q' h ⟨p, xs, i, v, a, b, c, d, q⟩ => ⟨p, xs, i, v, a, b, c, d, h _ _ q⟩
theorem mr_ixS : MonR rIxS := fun x y H Q Q' h ⟨p, xs, i, a, b, c, d, q⟩ => ⟨p, xs, i, a, b, c, d, h _ _ q⟩
theorem mr_cat : MonR rCat := fun x y H Q Q' h ⟨l, b, xs, zs, e1, e2, e3, e4, e5, q⟩ => ⟨l, b, xs, zs, e1, e2, e3, e4, e5, fun p hp => h _ _ (q p hp)⟩
theorem mr_in {K : PySem.W.Frag} {neg : Bool} : MonR (rIn K neg) := fun x y H Q Q' h ⟨p, xs, e1, e2, e3, e4, q⟩ => ⟨p, xs, e1, e2, e3, e4, h _ _ q⟩
theorem mr_isN : MonR (fun x y H Q => y = V.non ∧ Q (.bl (decide (x = .non))) H) := fun x y H Q Q' h ⟨a, q⟩ => ⟨a, h _ _ q⟩
theorem mr_notN : MonR (fun x y H Q => y = V.non ∧ Q (.bl (!decide (x = .non))) H) := fun x y H Q Q' h ⟨a, q⟩ => ⟨a, h _ _ q⟩
theorem mu_U {f : Int → V} : MonU (rU f) := fun x H Q Q' h ⟨i, a, q⟩ => ⟨i, a, h _ _ q⟩
theorem mc_len {K : PySem.W.Frag} : MonC (rLenS K) := fun x H Q Q' h ⟨p, ys, a, b, q⟩ => ⟨p, ys, a, b, h _ _ q⟩
theorem mc_isi {K : PySem.W.Frag} : MonC (rIsi K) := fun x H Q Q' h ⟨x', c, t, u, b, a1, a2, a3, a4, q⟩ => ⟨x', c, t, u, b, a1, a2, a3, a4, h _ _ q⟩
theorem mm_append : MonM rAppend := fun x y H Q Q' h ⟨l, xs, z, a, b, c, d, q⟩ => ⟨l, xs, z, a, b, c, d, h _ _ q⟩
theorem mg_name {i : Nat} : MonG (gName i) := fun v σ H Q Q' h q => h _ _ q
theorem mg_tup {K : PySem.W.Frag} {n : Nat} (m : MonGs gs) : MonG (gTup K n gs) := fun v σ H Q Q' h ⟨a, xs, e1, e2, e3, q⟩ => ⟨a, xs, e1, e2, e3, m _ _ _ _ _ h q⟩
theorem mgs_nil : MonGs gNil := fun v σ H Q Q' h ⟨e, q⟩ => ⟨e, h _ _ q⟩
theorem mgs_cons (a : MonG g) (b : MonGs gs) : MonGs (gCons g gs) := fun v σ H Q Q' h ⟨x, r, e, q⟩ => ⟨x, r, e, a _ _ _ _ _ (fun _ _ z => b _ _ _ _ _ h z) q⟩
theorem mi_L {K : PySem.W.Frag} (a : MonE te) : MonI (iList K te) := fun σ H Q Q' h q => a _ _ _ _ (fun _ _ ⟨x, e1, e2, z⟩ => ⟨x, e1, e2, h _ _ z⟩) q
theorem mi_T {K : PySem.W.Frag} (a : MonE te) : MonI (iTup K te) := fun σ H Q Q' h q => a _ _ _ _ (fun _ _ ⟨x, e1, e2, z⟩ => ⟨x, e1, e2, h _ _ z⟩) q
theorem mi_R1 (a : MonA tr) : MonI (iRng1 tr) := fun σ H Q Q' h q => a _ _ _ _ (fun _ _ ⟨j, e1, e2, e3, z⟩ => ⟨j, e1, e2, e3, h _ _ z⟩) q
theorem mi_R2 (a : MonA tr) : MonI (iRng2 tr) := fun σ H Q Q' h q => a _ _ _ _ (fun _ _ ⟨i, j, e1, e2, z⟩ => ⟨i, j, e1, e2, h _ _ z⟩) q
theorem mi_R3 (a : MonA tr) : MonI (iRng3 tr) := fun σ H Q Q' h q => a _ _ _ _ (fun _ _ ⟨i, j, c, n, e1, e2, z⟩ => ⟨i, j, c, n, e1, e2, h _ _ z⟩) q
theorem mi_E {K : PySem.W.Frag} (a : MonA tr) : MonI (iEnum K tr) := fun σ H Q Q' h q => a _ _ _ _ (fun _ _ ⟨x, xs, e1, e2, z⟩ => ⟨x, xs, e1, e2, h _ _ z⟩) q
theorem mi_S (a : MonE te) : MonI (iStr te) := fun σ H Q Q' h q => a _ _ _ _ (fun _ _ ⟨x, e1, z⟩ => ⟨x, e1, h _ _ z⟩) q
theorem mi_Z {K : PySem.W.Frag} (a : MonA tr) : MonI (iZip K tr) := fun σ H Q Q' h q => a _ _ _ _ (fun _ _ ⟨x, y, xs, ys, e1, e2, e3, z⟩ => ⟨x, y, xs, ys, e1, e2, e3, h _ _ z⟩) q
theorem EndsLe.seq {D D' : Ends} (h : EndsLe D D') {P P' : L2.St → Hp → Prop} (hp : ∀ σ H, P σ H → P' σ H) : EndsLe { D with nx := P } { D' with nx := P' } := ⟨hp, h.2.1, h.2.2.1, h.2.2.2⟩
theorem ms_next : MonS tNext := fun D D' σ H h q => h.1 _ _ q
theorem ms_seq (a : MonS t) (b : MonS u) : MonS (tSeq t u) := fun D D' σ H h q => a _ _ _ _ (h.seq fun _ _ z => b _ _ _ _ h z) q
theorem ms_asg (a : MonE te) (b : MonG g) : MonS (tAsg te g) := fun D D' σ H h q => a _ _ _ _ (fun _ _ z => b _ _ _ _ _ h.1 z) q
theorem ms_drop (a : MonE te) : MonS (tDrop te) := fun D D' σ H h q => a _ _ _ _ (fun _ _ z => h.1 _ _ z) q
theorem ms_ret (a : MonE te) : MonS (tRet te) := fun D D' σ H h q => a _ _ _ _ h.2.1 q
theorem ms_retN : MonS tRetN := fun D D' σ H h q => h.2.1 _ _ q
theorem ms_if (a : MonT c) (b : MonS t) (d : MonS u) : MonS (tIfS c t u) := fun D D' σ H h q => a _ _ _ _ (fun k _ z => by cases k; exact d _ _ _ _ h z; exact b _ _ _ _ h z) q
theorem ms_brk : MonS tBreak := fun D D' σ H h q => h.2.2.1 _ _ q
theorem ms_cont : MonS tCont := fun D D' σ H h q => h.2.2.2 _ _ q
theorem ms_never : MonS tNever := fun D D' σ H h q => q
theorem ms_dput {td ty tv : TE} (a : MonE td) (b : MonE ty) (d : MonE tv) : MonS (sDPut td ty tv) := fun D D' σ H h q => d _ _ _ _ (fun _ _ z => a _ _ _ _ (fun _ _ z => b _ _ _ _ (fun _ _ ⟨x, H4, e1, e2, z⟩ => ⟨x, H4, e1, e2, h.1 _ _ z⟩) z) z) q
theorem ms_fldS {K : PySem.W.Frag} {f : Str} (a : MonE ta) (b : MonE tb) : MonS (sFld K ta tb f) := fun D D' σ H h q => b _ _ _ _ (fun _ _ z => a _ _ _ _ (fun _ _ ⟨x, C, dx, fs, e1, e2, e3, e4, e5, z⟩ => ⟨x, C, dx, fs, e1, e2, e3, e4, e5, h.1 _ _ z⟩) z) q
theorem ms_for (a : MonI wi) (b : MonG g) (d : MonS t) : MonS (tFor wi g t) := fun D D' σ H h q =>
  a _ _ _ _ (fun J H1 ⟨W, w0, z⟩ => ⟨W, w0, fun i m σ H hw => by
    rcases z i m σ H hw with ⟨s, y⟩ | ⟨s, N, hN, y⟩
    · exact .inl ⟨s, h.1 _ _ y⟩
    · exact .inr ⟨s, N, hN, fun x H' hy => b _ _ _ _ _ (fun _ _ y' => d { D with nx := N, ct := N, bk := D.nx } { D' with nx := N, ct := N, bk := D'.nx } _ _ ⟨fun _ _ z => z, h.2.1, h.1, fun _ _ z => z⟩ y') (y x H' hy)⟩⟩) q
theorem ms_while (a : MonT c) (b : MonS t) : MonS (tWhile c t) := fun D D' σ H h ⟨W, w0, z⟩ => ⟨W, w0, fun m σ H hw => a _ _ _ _ (fun k H1 y => by
  cases k
  · exact h.1 _ _ y
  · obtain ⟨N, hN, y⟩ := y
    exact ⟨N, hN, b { D with nx := N, ct := N, bk := D.nx } { D' with nx := N, ct := N, bk := D'.nx } _ _ ⟨fun _ _ z => z, h.2.1, h.1, fun _ _ z => z⟩ y⟩) (z m σ H hw)⟩
theorem me_lc {te' : TE} {tt' : TT} {g' : TG} {vs : List Nat} (a : MonI wi) : MonE (tLc wi g' tt' te' vs) := fun σ H Q Q' h q => a _ _ _ _ (fun J H1 z D hD => by
  obtain ⟨W, w0, z⟩ := z D hD
  exact ⟨W, w0, fun i m H hw => (z i m H hw).imp (fun ⟨s, y⟩ => ⟨s, h _ _ y⟩) id⟩) q
theorem me_m1 {rm : V → List V → Hp → VK → Prop} (m : MonM rm) (a : MonE ta) (b : MonE tb) : MonE (tM1 rm ta tb) := fun σ H Q Q' h q => a _ _ _ _ (fun _ _ ⟨e, z⟩ => ⟨e, b _ _ _ _ (fun _ _ z' => m _ _ _ _ _ h z') z⟩) q
theorem mm_split : MonM (fun x xs H Q => ∃ a b, x = .str a ∧ xs = [.str b] ∧ (b.length == 0) = false ∧ a.length + 2 ≤ sizeLine ∧ rNewStrs (Txt.split a b) H Q) := fun x y H Q Q' h ⟨a, b, e1, e2, e3, e4, q⟩ => ⟨a, b, e1, e2, e3, e4, fun p hp => h _ _ (q p hp)⟩
end
end JF

local macro_rules | `(tactic| walk_at "mono1") => `(tactic| first | assumption | (with_reducible apply JF.me_var) | (with_reducible apply JF.me_c) | (with_reducible apply JF.me_op) | (with_reducible apply JF.me_un) | (with_reducible apply JF.me_fld) | (with_reducible apply JF.me_tup) | (with_reducible apply JF.me_lst) | (with_reducible apply JF.me_call) | (with_reducible apply JF.me_meth) | (with_reducible apply JF.me_cb) | (with_reducible apply JF.me_bm) | (with_reducible apply JF.me_bm0) | (with_reducible apply JF.me_andV) | (with_reducible apply JF.me_orV) | (with_reducible apply JF.me_notV) | (with_reducible apply JF.me_if) | (with_reducible apply JF.me_chain) | (with_reducible apply JF.me_sl) | (with_reducible apply JF.me_dget) | (with_reducible apply JF.me_dget2) | (with_reducible apply JF.me_din) | (with_reducible apply JF.me_dnotin) | (with_reducible apply JF.me_dsetd) | (with_reducible apply JF.me_lc) | (with_reducible apply JF.me_m1) | (with_reducible exact JF.mm_split) | (with_reducible apply JF.mt_test') | (with_reducible apply JF.mt_B) | (with_reducible apply JF.mt_and) | (with_reducible apply JF.mt_or) | (with_reducible apply JF.mt_not) | (with_reducible apply JF.ma_nil) | (with_reducible apply JF.ma_cons) | (with_reducible apply JF.mo_none) | (with_reducible apply JF.mo_some) | (with_reducible apply JF.mr_I0) | (with_reducible apply JF.mr_I) | (with_reducible apply JF.mr_eq) | (with_reducible apply JF.mr_ne) | (with_reducible apply JF.mr_ixL) | (with_reducible apply JF.mr_ixT) | (with_reducible apply JF.mr_ixS) | (with_reducible apply JF.mr_cat) | (with_reducible apply JF.mr_in) | (with_reducible apply JF.mr_isN) | (with_reducible apply JF.mr_notN) | (with_reducible apply JF.mu_U) | (with_reducible apply JF.mc_len) | (with_reducible apply JF.mc_isi) | (with_reducible apply JF.mm_append) | (with_reducible apply JF.mg_name) | (with_reducible apply JF.mg_tup) | (with_reducible apply JF.mgs_nil) | (with_reducible apply JF.mgs_cons) | (with_reducible apply JF.mi_L) | (with_reducible apply JF.mi_T) | (with_reducible apply JF.mi_R1) | (with_reducible apply JF.mi_R2) | (with_reducible apply JF.mi_R3) | (with_reducible apply JF.mi_E) | (with_reducible apply JF.mi_S) | (with_reducible apply JF.mi_Z) | (with_reducible apply JF.ms_next) | (with_reducible apply JF.ms_seq) | (with_reducible apply JF.ms_asg) | (with_reducible apply JF.ms_drop) | (with_reducible apply JF.ms_ret) | (with_reducible apply JF.ms_retN) | (with_reducible apply JF.ms_if) | (with_reducible apply JF.ms_brk) | (with_reducible apply JF.ms_cont) | (with_reducible apply JF.ms_never) | (with_reducible apply JF.ms_dput) | (with_reducible apply JF.ms_fldS) | (with_reducible apply JF.ms_for) | (with_reducible apply JF.ms_while))
local macro_rules | `(tactic| walk_at "mono") => `(tactic| repeat' walk_at "mono1")
/-! ### a grove in the heap -/
namespace JF
open PySem PySem.Spec PyProof.Rows L2
theorem nodup_sub_len {α : Type} [DecidableEq α] : ∀ (l m : List α), l.Nodup → (∀ x ∈ l, x ∈ m) → l.length ≤ m.length
  | [], m, _, _ => Nat.zero_le _
  | x :: l, m, h, hs => by
    rw [List.nodup_cons] at h
    have hx : x ∈ m := hs x List.mem_cons_self
    have ih := nodup_sub_len l (m.erase x) h.2 fun y hy => (List.mem_erase_of_ne (fun e => h.1 (by rw [← e]; exact hy))).mpr (hs y (List.mem_cons_of_mem _ hy))
    rw [List.length_erase_of_mem hx] at ih
    have : 0 < m.length := List.length_pos_of_mem hx
    show l.length + 1 ≤ m.length
    omega
theorem states_len {l : List Int} (h : l.Nodup) (hs : ∀ x ∈ l, 0 ≤ x ∧ x ≤ 7) : l.length ≤ 8 :=
  nodup_sub_len l [0, 1, 2, 3, 4, 5, 6, 7] h fun x hx => by
    have := hs x hx
    simp only [List.mem_cons, List.not_mem_nil, or_false]
    omega
structure GA where
  g : Addr
  dx : Addr
  dn : Addr
  dm : Addr
  dl : Addr
  dv : Addr
  ds : Addr
  dp : Addr
def GA.flds (a : GA) : List (Str × V) := [("numbers", .ref a.dn), ("made", .ref a.dm), ("levels", .ref a.dl), ("lives", .ref a.dv), ("spans", .ref a.ds), ("plain", .ref a.dp)]
def GA.m5 (a : GA) : List Addr := [a.dn, a.dm, a.dl, a.dv, a.ds]
def GA.muts (a : GA) (rows : List (Int × Addr)) : List Addr := a.m5 ++ a.dp :: rows.map (·.2)
/-- a span as a value -/
def SpanV (H : Hp) (v : V) : Option Box → Prop
  | none => v = .non
  | some b => ∃ p, v = .ref p ∧ H p = some (.tup [.int b.1, .int b.2.1, .int b.2.2.1, .int b.2.2.2])
theorem SpanV.keep {H H' : Hp} {v : V} {o : Option Box} (h : SpanV H v o) (k : ∀ b xs, H b = some (.tup xs) → H' b = some (.tup xs)) : SpanV H' v o := by
  cases o with
  | none => exact h
  | some b =>
    obtain ⟨p, e, hp⟩ := h
    exact ⟨p, e, k _ _ hp⟩
/-- what the lists of a grove hold -/
structure GData (H : Hp) (a : GA) (q : List Sq) (tups : List Addr) (mk : List (List Int)) (spt : List V) : Prop where
  hn : H a.dn = some (.dT (kvsOf mk 0))
  hm : H a.dm = some (.lst (tups.map V.ref))
  hl : H a.dl = some (.lst (q.map fun S => V.int (S.level : Int)))
  hv : H a.dv = some (.lst (q.map fun S => V.int S.lives))
  hs : H a.ds = some (.lst spt)
  lt : tups.length = q.length
  lm : mk.length = q.length
  ls : spt.length = q.length
  tu : ∀ (i : Nat) t m, tups[i]? = some t → mk[i]? = some m → H t = some (.tup (m.map V.int))
  sp : ∀ (i : Nat) v S, spt[i]? = some v → q[i]? = some S → SpanV H v S.span
  md : ∀ (i : Nat) m S, mk[i]? = some m → q[i]? = some S → Made q S m
structure GAt (C : Addr) (H : Hp) (a : GA) (rows : List (Int × Addr)) (q : List Sq) : Prop where
  ob : H a.g = some (.ins C a.dx a.flds)
  da : ∃ tups mk spt, GData H a q tups mk spt
  wf : ∀ S ∈ q, S.wf
  qn : q.Nodup
  pl : H a.dp = some (.dK (rows.map fun sa => ((Sum.inl sa.1 : Key), V.ref sa.2)))
  nd : (a.g :: a.muts rows).Nodup
  rn : (rows.map (·.1)).Nodup
  rs : ∀ s ∈ rows.map (·.1), 0 ≤ s ∧ s ≤ 7
  ro : ∀ s b, (s, b) ∈ rows → ∃ ns : List Nat, H b = some (.lst (ns.map fun (n : Nat) => V.int (n : Int))) ∧ ∀ (i : Nat) n, ns[i]? = some n → q[n]? = some (Sq.even i s)
/-- all but what stands at these addresses is as it was -/
def Fr (S : List Addr) (H H' : Hp) : Prop := ∀ b o, H b = some o → b ∉ S → H' b = some o
theorem Fr.refl (S : List Addr) (H : Hp) : Fr S H H := fun _ _ h _ => h
theorem Fr.trans {S : List Addr} {H H1 H2 : Hp} (x : Fr S H H1) (y : Fr S H1 H2) : Fr S H H2 := fun b o h n => y b o (x b o h n) n
theorem Fr.mono {S S' : List Addr} {H H' : Hp} (x : Fr S H H') (h : ∀ b ∈ S, b ∈ S') : Fr S' H H' := fun b o e n => x b o e fun z => n (h b z)
theorem fr_of {S : List Addr} {H H' : Hp} (x : Same H H') : Fr S H H' := fun b o e _ => x b o e
def HO.still : HO → Prop
  | .tup _ | .ins _ _ _ | .own _ => True
  | _ => False
/-- a grove stands where its own lists, the tuples and the instances are kept -/
theorem GAt.keep {C : Addr} {H H' : Hp} {a : GA} {rows : List (Int × Addr)} {q : List Sq} (G : GAt C H a rows q) (k : ∀ b o, H b = some o → HO.still o ∨ b ∈ a.muts rows → H' b = some o) : GAt C H' a rows q := by
  obtain ⟨tups, mk, spt, D⟩ := G.da
  have mem : ∀ b, b ∈ a.m5 → b ∈ a.muts rows := fun b h => List.mem_append_left _ h
  refine ⟨k _ _ G.ob (.inl trivial), ⟨tups, mk, spt, k _ _ D.hn (.inr (mem _ (by simp [GA.m5]))), k _ _ D.hm (.inr (mem _ (by simp [GA.m5]))), k _ _ D.hl (.inr (mem _ (by simp [GA.m5]))), k _ _ D.hv (.inr (mem _ (by simp [GA.m5]))), k _ _ D.hs (.inr (mem _ (by simp [GA.m5]))), D.lt, D.lm, D.ls,
    fun i t m h1 h2 => k _ _ (D.tu i t m h1 h2) (.inl trivial), fun i v S h1 h2 => (D.sp i v S h1 h2).keep fun b xs e => k _ _ e (.inl trivial), D.md⟩, G.wf, G.qn, k _ _ G.pl (.inr (by simp [GA.muts])), G.nd, G.rn, G.rs, fun s b h => ?_⟩
  obtain ⟨ns, h1, h2⟩ := G.ro s b h
  refine ⟨ns, k _ _ h1 (.inr ?_), h2⟩
  unfold GA.muts
  exact List.mem_append_right _ (List.mem_cons_of_mem _ (List.mem_map_of_mem (f := fun sa : Int × Addr => sa.2) h))
theorem GAt.same {C : Addr} {H H' : Hp} {a : GA} {rows : List (Int × Addr)} {q : List Sq} (G : GAt C H a rows q) (s : Same H H') : GAt C H' a rows q := G.keep fun b o e _ => s b o e
/-- a new object is laid -/
theorem same_upd {H : Hp} {p : Addr} {o : HO} (h : H p = none) : Same H (upd H p o) := fun b u e => by rw [upd_ne (ne_of_none e h)]; exact e
/-- a list, a dict of the asker's own is changed -/
theorem GAt.upd {C : Addr} {H : Hp} {a : GA} {rows : List (Int × Addr)} {q : List Sq} {p : Addr} {o : HO} (G : GAt C H a rows q) (hp : ∀ u, H p = some u → ¬ HO.still u) (hn : p ∉ a.muts rows) : GAt C (upd H p o) a rows q :=
  G.keep fun b u e h => by
    rw [upd_ne]
    · exact e
    · rintro rfl
      rcases h with h | h
      · exact hp u e h
      · exact hn h
/-- a grove goes on: what was is as it was, squares were added -/
structure GStep (C : Addr) (H : Hp) (a : GA) (rows : List (Int × Addr)) (q : List Sq) (H' : Hp) (rows' : List (Int × Addr)) (q' : List Sq) : Prop where
  gat : GAt C H' a rows' q'
  pre : q <+: q'
  fr : Fr (a.muts rows) H H'
  new : ∀ b ∈ a.muts rows', b ∈ a.muts rows ∨ H b = none
theorem GStep.refl {C : Addr} {H : Hp} {a : GA} {rows : List (Int × Addr)} {q : List Sq} (G : GAt C H a rows q) : GStep C H a rows q H rows q := ⟨G, List.prefix_refl _, Fr.refl _ _, fun _ h => .inl h⟩
theorem GStep.trans {C : Addr} {H H1 H2 : Hp} {a : GA} {rows r1 r2 : List (Int × Addr)} {q q1 q2 : List Sq} (x : GStep C H a rows q H1 r1 q1) (y : GStep C H1 a r1 q1 H2 r2 q2) : GStep C H a rows q H2 r2 q2 := by
  refine ⟨y.gat, x.pre.trans y.pre, fun b o e n => ?_, fun b h => ?_⟩
  · refine y.fr b o (x.fr b o e n) fun z => ?_
    rcases x.new b z with z | z
    · exact n z
    · rw [e] at z; cases z
  · rcases y.new b h with z | z
    · exact x.new b z
    · by_cases hb : b ∈ a.muts rows
      · exact .inl hb
      · right
        cases q : H b with
        | none => rfl
        | some o =>
          rw [x.fr b o q hb] at z
          cases z
/-- the asker's own things are kept, and stay the asker's own -/
theorem GStep.own {C : Addr} {H H1 : Hp} {a : GA} {rows r1 : List (Int × Addr)} {q q1 : List Sq} (x : GStep C H a rows q H1 r1 q1) {b : Addr} {o : HO} (h : H b = some o) (n : b ∉ a.muts rows) : H1 b = some o ∧ b ∉ a.muts r1 :=
  ⟨x.fr b o h n, fun z => (x.new b z).elim n fun z => by rw [h] at z; cases z⟩
theorem pre_get {q q' : List Sq} (h : q <+: q') {n : Nat} {S : Sq} (e : q[n]? = some S) : q'[n]? = some S := by
  obtain ⟨t, rfl⟩ := h
  exact getElem?_app e t
theorem ne_app {H : Hp} {b : Addr} {o : HO} {S : List Addr} (h : H b = some o) (hs : ∀ c ∈ S, ∀ u, H c = some u → o ≠ u) (hn : ∀ c ∈ S, ∃ u, H c = some u) : b ∉ S := fun z => by
  obtain ⟨u, e⟩ := hn b z
  refine hs b z u e ?_
  rw [h] at e
  exact Option.some.inj e
/-- a tuple is none of a grove's own lists -/
theorem GAt.tup_out {C : Addr} {H : Hp} {a : GA} {rows : List (Int × Addr)} {q : List Sq} (G : GAt C H a rows q) {b : Addr} {xs : List V} (h : H b = some (.tup xs)) : b ∉ a.muts rows := by
  obtain ⟨tups, mk, spt, D⟩ := G.da
  intro z
  unfold GA.muts GA.m5 at z
  simp only [List.cons_append, List.nil_append, List.mem_cons, List.mem_map] at z
  rcases z with rfl | rfl | rfl | rfl | rfl | rfl | ⟨sa, hm, rfl⟩
  · rw [D.hn] at h; cases h
  · rw [D.hm] at h; cases h
  · rw [D.hl] at h; cases h
  · rw [D.hv] at h; cases h
  · rw [D.hs] at h; cases h
  · rw [G.pl] at h; cases h
  · obtain ⟨ns, e, _⟩ := G.ro sa.1 sa.2 hm
    rw [e] at h; cases h
/-- what is new is none of them -/
theorem GAt.new_out {C : Addr} {H : Hp} {a : GA} {rows : List (Int × Addr)} {q : List Sq} (G : GAt C H a rows q) {b : Addr} (h : H b = none) : b ∉ a.muts rows := by
  obtain ⟨tups, mk, spt, D⟩ := G.da
  intro z
  unfold GA.muts GA.m5 at z
  simp only [List.cons_append, List.nil_append, List.mem_cons, List.mem_map] at z
  rcases z with rfl | rfl | rfl | rfl | rfl | rfl | ⟨sa, hm, rfl⟩
  · rw [D.hn] at h; cases h
  · rw [D.hm] at h; cases h
  · rw [D.hl] at h; cases h
  · rw [D.hv] at h; cases h
  · rw [D.hs] at h; cases h
  · rw [G.pl] at h; cases h
  · obtain ⟨ns, e, _⟩ := G.ro sa.1 sa.2 hm
    rw [e] at h; cases h
end JF

/-! ### the grove's small defs -/
namespace JF
open PySem PySem.Spec PyProof.Rows L2
section
variable {P : Program} {w : World} {K : PySem.W.Frag} {mg : Str → Option Value} {base : Heap}
/-- is_whole of a whole number, a truth, a text, None -/
def wholeV : V → Bool
  | .int _ => true
  | _ => false
def sp_is_whole : Sp := fun vs H Q _ => ∃ x : V, vs = [x] ∧ ((∃ i, x = .int i) ∨ (∃ b, x = .bl b) ∨ (∃ z, x = .str z) ∨ x = .non) ∧ Q (.bl (wholeV x)) H
theorem isi_ty {H : Hp} {Q : VK} {x : V} {a b : String} {r : Bool} (h : TyX K H x (.type a)) (k : kitB a b = some r) (q : Q (.bl r) H) : rIsi K [x, .ty b] H Q :=
  ⟨x, .ty b, _, _, r, rfl, .ty b, h, kit_ty k, q⟩
theorem ok_is_whole (T : Env fa fn K mg) : Good P w K mg base CX0 1 ("is_whole", none) ["thing"] sp_is_whole := by
  refine good_mk T 0 (d := d_is_whole) (N := ["thing"]) (ps := ["thing"]) rfl rfl sc_is_whole (fun _ _ _ _ _ _ us hl => match us, hl with | [_], _ => rfl) (fun vs H Q E h => ?_) (fun f cdv A outer s H vs Q E hr h => ?_)
  · obtain ⟨x, rfl, _⟩ := h; rfl
  · obtain ⟨x, rfl, hx, k⟩ := h
    refine ⟨_, (pss_one (ps_ret (pe_and (pe_callB (call_isiK K rfl) (by rfl) (T.free 1) (by decide +kernel) (pa_cons (pv 0) (pa_cons (pe_bltn (v := V.ty "int") rfl (T.free 2) (by decide +kernel) rfl) pa_nil))) (pe_one (pe_not (pe_callB (call_isiK K rfl) (by rfl) (T.free 1) (by decide +kernel) (pa_cons (pv 0) (pa_cons (pe_bltn (v := V.ty "bool") rfl (T.free 0) (by decide +kernel) rfl) pa_nil)))))))), ?_⟩
    walk_at "rd"
    rcases hx with ⟨i, rfl⟩ | ⟨b, rfl⟩ | ⟨z, rfl⟩ | rfl
    · refine isi_ty (.base (.int i)) (by decide +kernel : kitB "int" "int" = some true) ?_
      walk_at "rd"
      refine isi_ty (.base (.int i)) (by decide +kernel : kitB "int" "bool" = some false) ?_
      walk_at "rd"
      exact k
    · refine isi_ty (.base (.bl b)) (by decide +kernel : kitB "bool" "int" = some true) ?_
      walk_at "rd"
      refine isi_ty (.base (.bl b)) (by decide +kernel : kitB "bool" "bool" = some true) ?_
      walk_at "rd"
      exact k
    · refine isi_ty (.base (.str z)) (by decide +kernel : kitB "str" "int" = some false) ?_
      walk_at "rd"
      exact k
    · refine isi_ty (.base .non) (by decide +kernel : kitB "NoneType" "int" = some false) ?_
      walk_at "rd"
      exact k
/-! ### a state -/
def stateV : V → Bool
  | .int i => decide (0 ≤ i) && decide (i ≤ 7)
  | _ => false
theorem stateV_ok {s : Int} (h0 : 0 ≤ s) (h7 : s ≤ 7) : stateV (.int s) = true := by show (decide (0 ≤ s) && decide (s ≤ 7)) = true; rw [decide_eq_true h0, decide_eq_true h7]; rfl
def sp_is_state : Sp := fun vs H Q _ => ∃ x : V, vs = [x] ∧ ((∃ i, x = .int i) ∨ (∃ b, x = .bl b) ∨ (∃ z, x = .str z) ∨ x = .non) ∧ Q (.bl (stateV x)) H
theorem ok_is_state (T : Env fa fn K mg) : Good P w K mg base CX0 2 ("is_state", none) ["thing"] sp_is_state := by
  have G_is_whole := ok_is_whole (P := P) (w := w) (base := base) T
  refine good_mk T 3 (d := d_is_state) (N := ["thing"]) (ps := ["thing"]) rfl rfl sc_is_state (fun _ _ _ _ _ _ us hl => match us, hl with | [_], _ => rfl) (fun vs H Q E h => ?_) (fun f cdv A outer s H vs Q E hr h => ?_)
  · obtain ⟨x, rfl, _⟩ := h; rfl
  · obtain ⟨x, rfl, hx, k⟩ := h
    refine ⟨_, (pss_one (ps_ret (pe_and (pe_cgK K rfl G_is_whole (hr.mono (by decide)) (T.glo 7) (pa_cons (pv 0) pa_nil)) (pe_one (pe_chain op_le op_le pe_int (pv 0) pe_int))))), ?_⟩
    walk_at "rd"
    refine ⟨x, rfl, hx, ?_⟩
    walk_at "rd"
    rcases hx with ⟨i, rfl⟩ | ⟨b, rfl⟩ | ⟨z, rfl⟩ | rfl
    · refine iteT ?_
      walk_at "rd"
      have k' : Q (.bl (decide (0 ≤ i) && decide (i ≤ 7))) H := k
      by_cases h0 : 0 ≤ i
      · rw [decide_eq_true h0] at k' ⊢
        walk_at "rd"
        exact k'
      · rw [decide_eq_false h0] at k' ⊢
        walk_at "rd"
        exact k'
    · refine iteF ?_
      exact k
    · refine iteF ?_
      exact k
    · refine iteF ?_
      exact k
/-! ### boxes -/
def sp_round_both : Sp := fun vs H Q _ => ∃ (v : V) (o : Option Box) (p : Addr) (b : Box), vs = [v, .ref p] ∧ SpanV H v o ∧ SpanV H (.ref p) (some b) ∧ ∀ H' u, Same H H' → SpanV H' u (some (rb o b)) → Q u H'
theorem min_if (a b : Int) : (if b < a then b else a) = min a b := by rw [Int.min_def]; split <;> split <;> omega
theorem max_if (a b : Int) : (if b > a then b else a) = max a b := by rw [Int.max_def]; split <;> split <;> omega
theorem ok_round_both (T : Env fa fn K mg) : Good P w K mg base CX0 1 ("round_both", none) ["one", "other"] sp_round_both := by
  refine good_mk T 1 (d := d_round_both) (N := ["one", "other", "left", "top", "right", "low"]) (ps := ["one", "other"]) rfl rfl sc_round_both (fun _ _ _ _ _ _ us hl => match us, hl with | [_, _], _ => rfl) (fun vs H Q E h => ?_) (fun f cdv A outer s H vs Q E hr h => ?_)
  · obtain ⟨v, o, p, b, rfl, _⟩ := h; rfl
  · obtain ⟨v, o, p, b, rfl, hv, ⟨p', e, hp⟩, k⟩ := h
    cases e
    refine ⟨_, (pss_cons (ps_if (pt_cmpR op_isN (pv 0) pe_non (nomark _)) (pss_one (ps_ret (pv 1))) pss_nil)
      (pss_cons (ps_set (i := 2) sc_round_both.nd rfl (Or.inl rfl) (pe_callB (call_min2 rfl) (by rfl) (T.free 3) (by decide +kernel) (pa_cons (pe_ix (ix_tupK K rfl) (pv 0) pe_int (fun _ _ => rfl)) (pa_cons (pe_ix (ix_tupK K rfl) (pv 1) pe_int (fun _ _ => rfl)) pa_nil))))
      (pss_cons (ps_set (i := 3) sc_round_both.nd rfl (Or.inl rfl) (pe_callB (call_min2 rfl) (by rfl) (T.free 3) (by decide +kernel) (pa_cons (pe_ix (ix_tupK K rfl) (pv 0) pe_int (fun _ _ => rfl)) (pa_cons (pe_ix (ix_tupK K rfl) (pv 1) pe_int (fun _ _ => rfl)) pa_nil))))
      (pss_cons (ps_set (i := 4) sc_round_both.nd rfl (Or.inl rfl) (pe_callB (call_max2 rfl) (by rfl) (T.free 4) (by decide +kernel) (pa_cons (pe_op op_add (pe_ix (ix_tupK K rfl) (pv 0) pe_int (fun _ _ => rfl)) (pe_ix (ix_tupK K rfl) (pv 0) pe_int (fun _ _ => rfl))) (pa_cons (pe_op op_add (pe_ix (ix_tupK K rfl) (pv 1) pe_int (fun _ _ => rfl)) (pe_ix (ix_tupK K rfl) (pv 1) pe_int (fun _ _ => rfl))) pa_nil))))
      (pss_cons (ps_set (i := 5) sc_round_both.nd rfl (Or.inl rfl) (pe_callB (call_max2 rfl) (by rfl) (T.free 4) (by decide +kernel) (pa_cons (pe_op op_add (pe_ix (ix_tupK K rfl) (pv 0) pe_int (fun _ _ => rfl)) (pe_ix (ix_tupK K rfl) (pv 0) pe_int (fun _ _ => rfl))) (pa_cons (pe_op op_add (pe_ix (ix_tupK K rfl) (pv 1) pe_int (fun _ _ => rfl)) (pe_ix (ix_tupK K rfl) (pv 1) pe_int (fun _ _ => rfl))) pa_nil))))
      (pss_one (ps_ret (pe_tup (pa_cons (pv 2) (pa_cons (pv 3) (pa_cons (pe_op op_sub (pv 4) (pv 2)) (pa_cons (pe_op op_sub (pv 5) (pv 3)) pa_nil)))))))))))), ?_⟩
    walk_at "rd"
    cases o with
    | none =>
      have e : v = .non := hv
      subst e
      refine iteT ?_
      walk_at "rd"
      exact k H _ (Same.refl H) ⟨p, rfl, hp⟩
    | some a =>
      obtain ⟨q, rfl, hq⟩ := hv
      refine iteF ?_
      walk_at "rd"
      refine rd_new (hn := by show 4 ≤ sizeLine; decide) fun t ht => ?_
      walk_at "rd"
      refine k _ _ (fun b o e => by rw [upd_ne (ne_of_none e ht)]; exact e) ⟨t, rfl, ?_⟩
      rw [upd_same]
      simp only [rb, min_if, max_if]
/-! ### the span of four -/
def acc4 (half : Int) (os : List (Option Box)) : Nat → Option Box
  | 0 => none
  | k + 1 => r4step half (k : Int) (acc4 half os k) (os.getD k none)
def sp_round_four : Sp := fun vs H Q _ => ∃ (p : Addr) (us : List V) (os : List (Option Box)) (half : Int), vs = [.ref p, .int half] ∧ H p = some (.lst us) ∧ us.length = 4 ∧ os.length = 4 ∧ (∀ (i : Nat) v o, us[i]? = some v → os[i]? = some o → SpanV H v o) ∧
  0 ≤ half ∧ half < 2 ^ 64 ∧ ∀ H' u, Same H H' → SpanV H' u (acc4 half os 4) → Q u H'
theorem half_ok {h x : Int} (h0 : 0 ≤ h) (h1 : h < 2 ^ 64) (x0 : 0 ≤ x) (x1 : x < 4) : CMulW h x := by
  have e1 : (2 : Int) ^ 64 ≤ 2 ^ 2000 := by decide +kernel
  have e2 : (4 : Int) ≤ 2 ^ 2000 := by decide +kernel
  exact mulW_of (by omega) (by omega) (by omega) (by omega)
theorem ok_round_four (T : Env fa fn K mg) : Good P w K mg base CX0 2 ("round_four", none) ["spans", "half"] sp_round_four := by
  have G_round_both := ok_round_both (P := P) (w := w) (base := base) T
  refine good_mk T 2 (d := d_round_four) (N := ["spans", "half", "found", "at", "span", "left", "top"]) (ps := ["spans", "half"]) rfl rfl sc_round_four (fun _ _ _ _ _ _ us hl => match us, hl with | [_, _], _ => rfl) (fun vs H Q E h => ?_) (fun f cdv A outer s H vs Q E hr h => ?_)
  · obtain ⟨p, us, os, half, rfl, _⟩ := h; rfl
  · obtain ⟨p, us, os, half, rfl, hp, hu, ho, hs, h0, h1, k⟩ := h
    refine ⟨_, (pss_cons (ps_set (i := 2) sc_round_four.nd rfl (Or.inl rfl) pe_non)
      (pss_cons (ps_for PassesOwn.never rfl (pi_enum (by rfl) (T.free 5) (pa_cons (pv 0) pa_nil)) (pg_tup rfl (pgs_cons (pg_name (i := 3) sc_round_four.nd rfl (Or.inl rfl)) (pgs_cons (pg_name (i := 4) sc_round_four.nd rfl (Or.inl rfl)) pgs_nil))) (pss_one (ps_if (pt_cmpR op_notN (pv 4) pe_non (nomark _)) (pss_cons (ps_set (i := 5) sc_round_four.nd rfl (Or.inl rfl) (pe_op op_add (pe_ix (ix_tupK K rfl) (pv 4) pe_int (fun _ _ => rfl)) (pe_op op_mulW (pv 1) (pe_op op_mod (pv 3) pe_int))))
      (pss_cons (ps_set (i := 6) sc_round_four.nd rfl (Or.inl rfl) (pe_op op_add (pe_ix (ix_tupK K rfl) (pv 4) pe_int (fun _ _ => rfl)) (pe_op op_mulW (pv 1) (pe_op op_fdivW (pv 3) pe_int))))
      (pss_one (ps_set (i := 2) sc_round_four.nd rfl (Or.inl rfl) (pe_cgK K rfl G_round_both (hr.mono (by decide)) (T.glo 6) (pa_cons (pv 2) (pa_cons (pe_tup (pa_cons (pv 5) (pa_cons (pv 6) (pa_cons (pe_ix (ix_tupK K rfl) (pv 4) pe_int (fun _ _ => rfl)) (pa_cons (pe_ix (ix_tupK K rfl) (pv 4) pe_int (fun _ _ => rfl)) pa_nil))))) pa_nil))))))) pss_nil)))
      (pss_one (ps_ret (pv 2))))), ?_⟩
    walk_at "rd"
    refine ⟨p, us, rfl, SqL.of hp, ?_⟩
    refine for_it (walk_enum (xs := us)) (fun i σ H' => ∃ f x1 x2 x3 x4, σ = [some (.ref p), some (.int half), some f, x1, x2, x3, x4] ∧ Same H H' ∧ SpanV H' f (acc4 half os i)) ?_ ?_ ?_ ?_
    · exact ⟨.non, none, none, none, none, rfl, Same.refl H, rfl⟩
    · rintro i σ H' _ ⟨_, _, _, _, _, _, s1, _⟩
      exact SqL.of (s1 _ _ hp)
    · rintro i x σ H1 H2 hi ⟨f, x1, x2, x3, x4, rfl, s1, hf⟩ ⟨t, x, y, rfl, ht, rfl, ex, ey⟩
      cases ex
      have hu2 : us[i]? = some y := ey
      have s2 : Same H1 (upd H1 t (.tup [V.int (i : Nat), y])) := fun b o e => by rw [upd_ne (ne_of_none e ht)]; exact e
      have hT : (upd H1 t (.tup [V.int (i : Nat), y])) t = some (.tup [V.int (i : Nat), y]) := upd_same
      walk_at "rd"
      have hi4 : i < 4 := by omega
      obtain ⟨o, ho2⟩ : ∃ o, os[i]? = some o := ⟨os[i], by simp [ho, hi4]⟩
      have eo : os.getD i none = o := by simp [List.getD, ho2]
      have hy := hs i y o hu2 ho2
      cases o with
      | none =>
        have e : y = .non := hy
        subst e
        refine iteF ?_
        walk_at "rd"
        refine ⟨f, _, _, x3, x4, rfl, s1.trans s2, ?_⟩
        show SpanV _ f (r4step half (i : Int) (acc4 half os i) (os.getD i none))
        rw [eo]
        exact hf.keep fun b xs e => s2 _ _ e
      | some b =>
        obtain ⟨q, rfl, hq⟩ := hy
        have hq2 := s2 _ _ (s1 _ _ hq)
        refine iteT ?_
        walk_at "rd"
        refine rd_I (half_ok h0 h1 (by omega) (by omega)) ?_
        walk_at "rd"
        refine rd_I (half_ok h0 h1 (by omega) (by omega)) ?_
        walk_at "rd"
        refine rd_new (hn := by show 4 ≤ sizeLine; decide) fun t2 ht2 => ?_
        have s3 : ∀ o, Same (upd H1 t (.tup [V.int (i : Nat), .ref q])) (upd (upd H1 t (.tup [V.int (i : Nat), .ref q])) t2 o) := fun o b' o' e => by rw [upd_ne (ne_of_none e ht2)]; exact e
        walk_at "rd"
        refine ⟨f, acc4 half os i, t2, (b.1 + half * ((i : Int) % 2), b.2.1 + half * ((i : Int) / 2), b.2.2.1, b.2.2.2), rfl, (hf.keep fun b xs e => s3 _ _ _ (s2 _ _ e)), ⟨t2, rfl, upd_same⟩, fun H3 u s4 hu3 => ?_⟩
        walk_at "rd"
        refine ⟨u, _, _, _, _, rfl, (s1.trans s2).trans ((s3 _).trans s4), ?_⟩
        show SpanV _ u (r4step half (i : Int) (acc4 half os i) (os.getD i none))
        rw [eo]
        exact hu3
    · rintro σ H' ⟨f, x1, x2, x3, x4, rfl, s1, hf⟩
      rw [hu] at hf
      walk_at "rd"
      exact k _ _ s1 hf
end
end JF

/-! ### the grove's methods: kept, cell, knit -/
namespace JF
open PySem PySem.Spec PyProof.Rows L2
/-- the class stands at -/
abbrev CG (K : PySem.W.Frag) : Addr := He.ga K "Grove"
theorem nd_of {a : GA} {rows : List (Int × Addr)} (h : (a.g :: a.muts rows).Nodup) :
    (a.g ≠ a.dn ∧ a.g ≠ a.dm ∧ a.g ≠ a.dl ∧ a.g ≠ a.dv ∧ a.g ≠ a.ds ∧ a.g ≠ a.dp) ∧ (a.dn ≠ a.dm ∧ a.dn ≠ a.dl ∧ a.dn ≠ a.dv ∧ a.dn ≠ a.ds ∧ a.dn ≠ a.dp) ∧ (a.dm ≠ a.dl ∧ a.dm ≠ a.dv ∧ a.dm ≠ a.ds ∧ a.dm ≠ a.dp) ∧ (a.dl ≠ a.dv ∧ a.dl ≠ a.ds ∧ a.dl ≠ a.dp) ∧ (a.dv ≠ a.ds ∧ a.dv ≠ a.dp) ∧ a.ds ≠ a.dp ∧
      ∀ s b, (s, b) ∈ rows → b ≠ a.g ∧ b ≠ a.dn ∧ b ≠ a.dm ∧ b ≠ a.dl ∧ b ≠ a.dv ∧ b ≠ a.ds ∧ b ≠ a.dp := by
  simp only [GA.muts, GA.m5, List.cons_append, List.nil_append, List.nodup_cons, List.mem_cons, not_or] at h
  obtain ⟨⟨g1, g2, g3, g4, g5, g6, g7⟩, ⟨n1, n2, n3, n4, n5, n6⟩, ⟨m1, m2, m3, m4, m5⟩, ⟨l1, l2, l3, l4⟩, ⟨v1, v2, v3⟩, ⟨s1, s2⟩, p1, _⟩ := h
  refine ⟨⟨g1, g2, g3, g4, g5, g6⟩, ⟨n1, n2, n3, n4, n5⟩, ⟨m1, m2, m3, m4⟩, ⟨l1, l2, l3⟩, ⟨v1, v2⟩, s1, fun s b hb => ?_⟩
  have hm : b ∈ rows.map (·.2) := List.mem_map_of_mem (f := fun sa : Int × Addr => sa.2) hb
  exact ⟨fun z => g7 (z ▸ hm), fun z => n6 (z ▸ hm), fun z => m5 (z ▸ hm), fun z => l4 (z ▸ hm), fun z => v3 (z ▸ hm), fun z => s2 (z ▸ hm), fun z => p1 (z ▸ hm)⟩
theorem inl_kV (m : List Int) : (m.map (Sum.inl : Int → Key)).map kV = m.map V.int := by
  rw [List.map_map]; rfl
theorem snoc_get {α β : Type} {l : List α} {x : α} {l' : List β} {y : β} (hl : l.length = l'.length) {i : Nat} {u : α} {v : β} (h1 : (l ++ [x])[i]? = some u) (h2 : (l' ++ [y])[i]? = some v) : (l[i]? = some u ∧ l'[i]? = some v) ∨ (i = l.length ∧ u = x ∧ v = y) := by
  by_cases h : i < l.length
  · rw [List.getElem?_append_left h] at h1
    rw [List.getElem?_append_left (by omega)] at h2
    exact .inl ⟨h1, h2⟩
  · have hi : i < (l ++ [x]).length := (List.getElem?_eq_some_iff.mp h1).1
    have e : i = l.length := by simp at hi; omega
    subst e
    simp at h1
    rw [hl] at h2
    simp at h2
    exact .inr ⟨rfl, h1.symm, h2.symm⟩
/-- a square that is there stands in the dict by its own number; one that is not there does not -/
theorem look_of {q : List Sq} {mk : List (List Int)} (qn : q.Nodup) (lm : mk.length = q.length) (md : ∀ (i : Nat) m S, mk[i]? = some m → q[i]? = some S → Made q S m) {S : Sq} {m : List Int} (hm : Made q S m) :
    (∀ n, lookI mk m 0 = some n → q[n]? = some S) ∧ (lookI mk m 0 = none → S ∉ q) := by
  constructor
  · intro n h
    obtain ⟨_, h2⟩ := lookI_some h
    simp only [Nat.sub_zero] at h2
    have hn : n < q.length := by rw [← lm]; exact (List.getElem?_eq_some_iff.mp h2).1
    have e : q[n]? = some q[n] := by simp [hn]
    rw [e]
    exact congrArg some (made_same (md n m _ h2 e) hm)
  · intro h hS
    obtain ⟨n, hn, e⟩ := List.mem_iff_getElem.mp hS
    have hn' : n < mk.length := by omega
    have e1 : mk[n]? = some mk[n] := by simp [hn']
    have e2 : q[n]? = some S := by simp [hn, e]
    refine lookI_none h ?_
    rw [made_inj qn hm (md n _ S e1 e2)]
    exact List.getElem_mem hn'
theorem noats {K : PySem.W.Frag} {mg : Str → Option Value} (T : Env fa fn K mg) : NoAttr K (CG K) "numbers" ∧ NoAttr K (CG K) "made" ∧ NoAttr K (CG K) "levels" ∧ NoAttr K (CG K) "lives" ∧ NoAttr K (CG K) "spans" ∧ NoAttr K (CG K) "plain" :=
  ⟨T.noat 58, T.noat 57, T.noat 55, T.noat 56, T.noat 60, T.noat 59⟩
/-- the heap behind kept -/
theorem gat_kept {C : Addr} {H H' : Hp} {a : GA} {rows : List (Int × Addr)} {q : List Sq} {tups : List Addr} {mk : List (List Int)} {spt : List V} {S : Sq} {t : Addr} {m : List Int} {v : V} (G : GAt C H a rows q) (D : GData H a q tups mk spt)
    (ht : H t = some (.tup (m.map V.int))) (hm : Made q S m) (hw : S.wf) (hS : S ∉ q) (hv : SpanV H v S.span)
    (h1 : H' a.dn = some (.dT (kvsOf (mk ++ [m]) 0))) (h2 : H' a.dm = some (.lst ((tups ++ [t]).map V.ref))) (h3 : H' a.dl = some (.lst ((q ++ [S]).map fun S => V.int (S.level : Int)))) (h4 : H' a.dv = some (.lst ((q ++ [S]).map fun S => V.int S.lives))) (h5 : H' a.ds = some (.lst (spt ++ [v])))
    (fr : Fr a.m5 H H') : GAt C H' a rows (q ++ [S]) := by
  obtain ⟨⟨g1, g2, g3, g4, g5, g6⟩, ⟨n1, n2, n3, n4, n5⟩, ⟨m1, m2, m3, m4⟩, ⟨l1, l2, l3⟩, ⟨v1, v2⟩, s1, hr⟩ := nd_of G.nd
  have out : ∀ b xs, H b = some (.tup xs) → H' b = some (.tup xs) := fun b xs e => fr b _ e fun z => G.tup_out e (List.mem_append_left _ z)
  refine ⟨fr _ _ G.ob (by simp [GA.m5, g1, g2, g3, g4, g5]), ⟨tups ++ [t], mk ++ [m], spt ++ [v], h1, h2, h3, h4, h5, by simp [D.lt], by simp [D.lm], by simp [D.ls], fun i t' m' e1 e2 => ?_, fun i v' S' e1 e2 => ?_, fun i m' S' e1 e2 => ?_⟩, fun S' h => ?_, ?_, fr _ _ G.pl (by simp [GA.m5, Ne.symm n5, Ne.symm m4, Ne.symm l3, Ne.symm v2, Ne.symm s1]), G.nd, G.rn, G.rs, fun s b hb => ?_⟩
  · rcases snoc_get (by rw [D.lt, D.lm]) e1 e2 with ⟨e1, e2⟩ | ⟨_, rfl, rfl⟩
    · exact out _ _ (D.tu i t' m' e1 e2)
    · exact out _ _ ht
  · rcases snoc_get D.ls e1 e2 with ⟨e1, e2⟩ | ⟨_, rfl, rfl⟩
    · exact (D.sp i v' S' e1 e2).keep out
    · exact hv.keep out
  · rcases snoc_get D.lm e1 e2 with ⟨e1, e2⟩ | ⟨_, rfl, rfl⟩
    · exact (D.md i m' S' e1 e2).app _
    · exact hm.app _
  · rcases List.mem_append.mp h with h | h
    · exact G.wf S' h
    · simp only [List.mem_singleton] at h; subst h; exact hw
  · rw [List.nodup_append]
    refine ⟨G.qn, by simp, fun x hx y hy e => ?_⟩
    simp only [List.mem_singleton] at hy
    subst hy
    exact hS (e ▸ hx)
  · obtain ⟨ns, e, k⟩ := G.ro s b hb
    obtain ⟨_, b1, b2, b3, b4, b5, _⟩ := hr s b hb
    refine ⟨ns, fr _ _ e (by simp [GA.m5, b1, b2, b3, b4, b5]), fun i n hn => getElem?_app (k i n hn) _⟩
section
variable {P : Program} {w : World} {K : PySem.W.Frag} {mg : Str → Option Value} {base : Heap}
def sp_kept (C : Addr) : Sp := fun vs H Q _ => ∃ (a : GA) (rows : List (Int × Addr)) (q : List Sq) (S : Sq) (t : Addr) (m : List Int) (v : V), vs = [.ref a.g, .ref t, .int (S.level : Int), .int S.lives, v] ∧ GAt C H a rows q ∧ H t = some (.tup (m.map V.int)) ∧ Made q S m ∧ S.wf ∧ S ∉ q ∧ SpanV H v S.span ∧ q.length < 16000000 ∧
  ∀ H', GAt C H' a rows (q ++ [S]) → Fr a.m5 H H' → Q (.int (q.length : Int)) H'
theorem sizeBig : 16000000 < sizeLine := by decide
theorem ok_kept (T : Env fa fn K mg) : Good P w K mg base CX0 1 ("Grove", some "kept") ["self", "made", "level", "lives", "span"] (sp_kept (CG K)) := by
  refine good_mk T 5 (d := d_Grove_kept) (N := ["self", "made", "level", "lives", "span", "number"]) (ps := ["self", "made", "level", "lives", "span"]) rfl rfl sc_Grove_kept (fun _ _ _ _ _ _ us hl => match us, hl with | [_, _, _, _, _], _ => rfl) (fun vs H Q E h => ?_) (fun f cdv A outer s H vs Q E hr h => ?_)
  · obtain ⟨a, rows, q, S, t, m, v, rfl, _⟩ := h; rfl
  · obtain ⟨a, rows, q, S, t, m, v, rfl, G, ht, hm, hw, hS, hv, hlen, k⟩ := h
    have hu := hu_of hr
    have cl : Cls K (CG K) := T.cls 9
    have hsz := sizeBig
    obtain ⟨tups, mk, spt, D⟩ := id G.da
    obtain ⟨⟨g1, g2, g3, g4, g5, g6⟩, ⟨n1, n2, n3, n4, n5⟩, ⟨m1, m2, m3, m4⟩, ⟨l1, l2, l3⟩, ⟨v1, v2⟩, s1, _⟩ := nd_of G.nd
    have hob := G.ob
    have hn := D.hn
    have hm' := D.hm
    have hl := D.hl
    have hv' := D.hv
    have hs := D.hs
    have ne : ∀ b o, H b = some o → (∀ xs, o ≠ .tup xs) → b ≠ t := fun b o e h => ne_of e ht (h _)
    refine ⟨_, (pss_cons (ps_set (i := 5) sc_Grove_kept.nd rfl (Or.inl rfl) (pe_callB (call_lenK K rfl) (by rfl) (T.free 8) (by decide +kernel) (pa_cons (pe_fldK K rfl (pv 0) rfl) pa_nil)))
      (pss_cons (ps_dput hu (pe_fldK K rfl (pv 0) rfl) (pv 1) (pv 5) rfl)
      (pss_cons (ps_expr (pe_bm PySem.F.plainAttrs_list PySem.F.slot_list_append PySem.F.type_list_append mt_append (pe_fldK K rfl (pv 0) rfl) (pa_cons (pv 1) pa_nil)))
      (pss_cons (ps_expr (pe_bm PySem.F.plainAttrs_list PySem.F.slot_list_append PySem.F.type_list_append mt_append (pe_fldK K rfl (pv 0) rfl) (pa_cons (pv 2) pa_nil)))
      (pss_cons (ps_expr (pe_bm PySem.F.plainAttrs_list PySem.F.slot_list_append PySem.F.type_list_append mt_append (pe_fldK K rfl (pv 0) rfl) (pa_cons (pv 3) pa_nil)))
      (pss_cons (ps_expr (pe_bm PySem.F.plainAttrs_list PySem.F.slot_list_append PySem.F.type_list_append mt_append (pe_fldK K rfl (pv 0) rfl) (pa_cons (pv 4) pa_nil)))
      (pss_one (ps_ret (pv 5))))))))), ?_⟩
    walk_at "rd"
    refine rd_fldR hob cl (T.noat 57) (by rfl) ?_
    walk_at "rd"
    refine rd_len (SqL.of hm') ?_
    walk_at "rd"
    refine rd_fldR hob cl (T.noat 58) (by rfl) ?_
    walk_at "rd"
    refine ⟨a.dn, _, rfl, DPut.t (k := m.map Sum.inl) hn (by rw [inl_kV]; exact ht) (by rw [kvsOf_len, D.lm]; omega), ?_⟩
    have hnone : valV (kvsOf mk 0) (m.map Sum.inl) = none := by
      rw [valV_kvsOf]
      cases e : lookI mk m 0 with
      | none => rfl
      | some n => exact (hS (List.mem_of_getElem? ((look_of G.qn D.lm D.md hm).1 n e))).elim
    rw [putK_new _ hnone]
    have e1 : kvsOf mk 0 ++ [(m.map Sum.inl, V.int (((tups.map V.ref).length : Nat) : Int))] = kvsOf (mk ++ [m]) 0 := by
      rw [kvsOf_app, Nat.zero_add, D.lm, List.length_map, D.lt]
    rw [e1]
    walk_at "rd"
    refine rd_fldR (by walk_at "hp") cl (T.noat 57) (by rfl) ?_
    refine rd_tyL (by walk_at "hp") ?_
    walk_at "rd"
    refine rd_append (xs := tups.map V.ref) (by walk_at "hp") (by rw [List.length_map, D.lt]; omega) ?_
    walk_at "rd"
    refine rd_fldR (by walk_at "hp") cl (T.noat 55) (by rfl) ?_
    refine rd_tyL (xs := q.map fun S => V.int (S.level : Int)) (by walk_at "hp") ?_
    walk_at "rd"
    refine rd_append (xs := q.map fun S => V.int (S.level : Int)) (by walk_at "hp") (by rw [List.length_map]; omega) ?_
    walk_at "rd"
    refine rd_fldR (by walk_at "hp") cl (T.noat 56) (by rfl) ?_
    refine rd_tyL (xs := q.map fun S => V.int S.lives) (by walk_at "hp") ?_
    walk_at "rd"
    refine rd_append (xs := q.map fun S => V.int S.lives) (by walk_at "hp") (by rw [List.length_map]; omega) ?_
    walk_at "rd"
    refine rd_fldR (by walk_at "hp") cl (T.noat 60) (by rfl) ?_
    refine rd_tyL (xs := spt) (by walk_at "hp") ?_
    walk_at "rd"
    refine rd_append (xs := spt) (by walk_at "hp") (by rw [D.ls]; omega) ?_
    walk_at "rd"
    rw [List.length_map, D.lt]
    refine k _ (gat_kept G D ht hm hw hS hv (by walk_at "hp") ((by walk_at "hp" : _ = some (HO.lst (tups.map V.ref ++ [V.ref t]))).trans (by simp)) ((by walk_at "hp" : _ = some (HO.lst ((q.map fun S => V.int (S.level : Int)) ++ [V.int (S.level : Int)]))).trans (by simp)) ((by walk_at "hp" : _ = some (HO.lst ((q.map fun S => V.int S.lives) ++ [V.int S.lives]))).trans (by simp)) (by walk_at "hp") ?fr) ?fr
    case fr =>
      intro b o e hb
      simp only [GA.m5, List.mem_cons, List.not_mem_nil, or_false, not_or] at hb
      obtain ⟨b1, b2, b3, b4, b5⟩ := hb
      walk_at "hp"
/-! ### cell and knit -/
theorem take_snoc {α : Type} {l : List α} {i : Nat} {v : α} (h : l[i]? = some v) : l.take (i + 1) = l.take i ++ [v] := by
  rw [List.take_add_one, h]; rfl
def sp_cell (C : Addr) : Sp := fun vs H Q _ => ∃ (a : GA) (rows : List (Int × Addr)) (q : List Sq) (s : Int), vs = [.ref a.g, .int s] ∧ GAt C H a rows q ∧ 0 ≤ s ∧ s ≤ 7 ∧ q.length < 16000000 ∧
  ∀ H' q' (n : Nat), GAt C H' a rows q' → q <+: q' → q'.length ≤ q.length + 1 → q'[n]? = some (.leaf s) → Fr a.m5 H H' → Q (.int (n : Int)) H'
theorem ok_cell (T : Env fa fn K mg) : Good P w K mg base CX0 2 ("Grove", some "cell") ["self", "state"] (sp_cell (CG K)) := by
  have G_Grove_kept := ok_kept (P := P) (w := w) (base := base) T
  refine good_mk T 6 (d := d_Grove_cell) (N := ["self", "state", "made"]) (ps := ["self", "state"]) rfl rfl sc_Grove_cell (fun _ _ _ _ _ _ us hl => match us, hl with | [_, _], _ => rfl) (fun vs H Q E h => ?_) (fun f cdv A outer s H vs Q E hr h => ?_)
  · obtain ⟨a, rows, q, s, rfl, _⟩ := h; rfl
  · obtain ⟨a, rows, q, s, rfl, G, h0, h7, hlen, k⟩ := h
    have hu := hu_of hr
    have cl : Cls K (CG K) := T.cls 9
    obtain ⟨na1, na2, na3, na4, na5, na6⟩ := noats T
    refine ⟨_, (pss_cons (ps_set (i := 2) sc_Grove_cell.nd rfl (Or.inl rfl) (pe_tup (pa_cons (pv 1) pa_nil)))
      (pss_cons (ps_if (pt_cmp (pc_din hu (pv 2) (pe_fldK K rfl (pv 0) rfl))) (pss_one (ps_ret (pe_dget hu (pe_fldK K rfl (pv 0) rfl) (pv 2) (fun _ _ => rfl)))) pss_nil)
      (pss_cons (ps_if (pt_cmpR op_eq (pv 1) pe_int (nomark _)) (pss_one (ps_ret (pe_mgK K rfl (pv 0) (T.cls 9) (T.meth 10) G_Grove_kept (hr.mono (by decide)) (pa_cons (pv 2) (pa_cons pe_int (pa_cons pe_int (pa_cons pe_non pa_nil))))))) pss_nil)
      (pss_one (ps_ret (pe_mgK K rfl (pv 0) (T.cls 9) (T.meth 10) G_Grove_kept (hr.mono (by decide)) (pa_cons (pv 2) (pa_cons pe_int (pa_cons pe_int (pa_cons (pe_tup (pa_cons pe_int (pa_cons pe_int (pa_cons pe_int (pa_cons pe_int pa_nil))))) pa_nil)))))))))), ?_⟩
    walk_at "rd"
    refine rd_new (hn := by show 1 ≤ sizeLine; decide) fun t ht => ?_
    walk_at "rd"
    have sm := same_upd (o := HO.tup [V.int s]) ht
    have G1 := G.same sm
    have ob1 := G1.ob
    obtain ⟨tups, mk, spt, D⟩ := G1.da
    have hT : (upd H t (HO.tup [V.int s])) t = some (.tup ([s].map V.int)) := upd_same
    have hT' : (upd H t (HO.tup [V.int s])) t = some (.tup (([s].map (Sum.inl : Int → Key)).map kV)) := upd_same
    walk_at "rd"
    refine ⟨a.dn, _, rfl, DGet.t (k := [s].map Sum.inl) D.hn hT', ?_⟩
    rw [valV_kvsOf]
    obtain ⟨L1, L2⟩ := look_of G.qn D.lm D.md (S := .leaf s) (m := [s]) rfl
    cases e : lookI mk [s] 0 with
    | some n =>
      walk_at "rd"
      refine iteT ?_
      walk_at "rd"
      refine ⟨a.dn, .int (n : Int), rfl, ?_, ?_⟩
      · have z := DGet.t (k := [s].map Sum.inl) D.hn hT'
        rw [valV_kvsOf, e] at z
        exact z
      · exact k _ q n G1 (List.prefix_refl _) (by omega) (L1 n e) (fr_of sm)
    | none =>
      walk_at "rd"
      refine iteF ?_
      walk_at "rd"
      have hS := L2 e
      have fin : ∀ H', GAt (CG K) H' a rows (q ++ [Sq.leaf s]) → Fr a.m5 (upd H t (HO.tup [V.int s])) H' → Q (.int (q.length : Int)) H' := fun H' g fr =>
        k H' _ q.length g (List.prefix_append _ _) (by simp) (by simp) ((fr_of sm).trans fr)
      refine ite_d (fun hs => ?_) (fun hs => ?_)
      · walk_at "rd"
        refine rd_methR G1.ob (by rfl) ?_
        walk_at "rd"
        exact ⟨a, rows, q, .leaf s, t, [s], .non, by simp [Sq.level, Sq.lives, hs], G1, hT, rfl, ⟨h0, h7⟩, hS, by simp [Sq.span, hs, SpanV], hlen, fin⟩
      · walk_at "rd"
        refine rd_methR G1.ob (by rfl) ?_
        walk_at "rd"
        refine rd_new (hn := by show 4 ≤ sizeLine; decide) fun t2 ht2 => ?_
        walk_at "rd"
        have sm2 := same_upd (o := HO.tup [V.int 0, V.int 0, V.int 1, V.int 1]) ht2
        exact ⟨a, rows, q, .leaf s, t, [s], .ref t2, by simp [Sq.level, Sq.lives, hs], G1.same sm2, sm2 _ _ hT, rfl, ⟨h0, h7⟩, hS, by simp only [Sq.span, hs, if_false]; exact ⟨t2, rfl, upd_same⟩, hlen, fun H' g fr => fin H' g ((fr_of sm2).trans fr)⟩
def sp_knit (C : Addr) : Sp := fun vs H Q _ => ∃ (a : GA) (rows : List (Int × Addr)) (q : List Sq) (A B C' D : Sq) (na nb nc nd : Nat), vs = [.ref a.g, .int (na : Int), .int (nb : Int), .int (nc : Int), .int (nd : Int)] ∧ GAt C H a rows q ∧
  q[na]? = some A ∧ q[nb]? = some B ∧ q[nc]? = some C' ∧ q[nd]? = some D ∧ (Sq.node A B C' D).wf ∧ A.level ≤ 60 ∧ q.length < 16000000 ∧
  ∀ H' q' (n : Nat), GAt C H' a rows q' → q <+: q' → q'.length ≤ q.length + 1 → q'[n]? = some (.node A B C' D) → Fr a.m5 H H' → Q (.int (n : Int)) H'
theorem map_get {α β : Type} {l : List α} {n : Nat} {x : α} (f : α → β) (h : l[n]? = some x) : (l.map f)[n]? = some (f x) := by
  rw [List.getElem?_map, h]; rfl
theorem acc4_r4 (half : Int) (a b c d : Option Box) : acc4 half [a, b, c, d] 4 = r4 half a b c d := rfl
theorem ok_knit (T : Env fa fn K mg) : Good P w K mg base CX0 3 ("Grove", some "knit") ["self", "a", "b", "c", "d"] (sp_knit (CG K)) := by
  have G_Grove_kept := ok_kept (P := P) (w := w) (base := base) T
  have G_round_four := ok_round_four (P := P) (w := w) (base := base) T
  refine good_mk T 7 (d := d_Grove_knit) (N := ["self", "a", "b", "c", "d", "made", "level", "lives", "span", "one"]) (ps := ["self", "a", "b", "c", "d"]) rfl rfl sc_Grove_knit (fun _ _ _ _ _ _ us hl => match us, hl with | [_, _, _, _, _], _ => rfl) (fun vs H Q E h => ?_) (fun f cdv A outer s H vs Q E hr h => ?_)
  · obtain ⟨a, rows, q, A, B, C', D, na, nb, nc, nd, rfl, _⟩ := h; rfl
  · obtain ⟨a, rows, q, A, B, C', D, na, nb, nc, nd, rfl, G, ha, hb, hc, hd, hwf, hlv, hlen, k⟩ := h
    have hu := hu_of hr
    have cl : Cls K (CG K) := T.cls 9
    obtain ⟨na1, na2, na3, na4, na5, na6⟩ := noats T
    refine ⟨_, (pss_cons (ps_set (i := 5) sc_Grove_knit.nd rfl (Or.inl rfl) (pe_tup (pa_cons (pv 1) (pa_cons (pv 2) (pa_cons (pv 3) (pa_cons (pv 4) pa_nil))))))
      (pss_cons (ps_if (pt_cmp (pc_din hu (pv 5) (pe_fldK K rfl (pv 0) rfl))) (pss_one (ps_ret (pe_dget hu (pe_fldK K rfl (pv 0) rfl) (pv 5) (fun _ _ => rfl)))) pss_nil)
      (pss_cons (ps_set (i := 6) sc_Grove_knit.nd rfl (Or.inl rfl) (pe_ix (ix_listK K rfl) (pe_fldK K rfl (pv 0) rfl) (pv 1) (fun _ _ => rfl)))
      (pss_cons (ps_set (i := 7) sc_Grove_knit.nd rfl (Or.inl rfl) (pe_op op_add (pe_op op_add (pe_op op_add (pe_ix (ix_listK K rfl) (pe_fldK K rfl (pv 0) rfl) (pv 1) (fun _ _ => rfl)) (pe_ix (ix_listK K rfl) (pe_fldK K rfl (pv 0) rfl) (pv 2) (fun _ _ => rfl))) (pe_ix (ix_listK K rfl) (pe_fldK K rfl (pv 0) rfl) (pv 3) (fun _ _ => rfl))) (pe_ix (ix_listK K rfl) (pe_fldK K rfl (pv 0) rfl) (pv 4) (fun _ _ => rfl))))
      (pss_cons (ps_set (i := 8) sc_Grove_knit.nd rfl (Or.inl rfl) (pe_cgK K rfl G_round_four (hr.mono (by decide)) (T.glo 11) (pa_cons (pe_lc (own := [("one", 9)]) (tt := tYes) rfl sc_Grove_knit.nd (pi_tupK K rfl (pv 5)) (blkOk_by (own := [("one", 9)]) (N := ["self", "a", "b", "c", "d", "made", "level", "lives", "span", "one"]) (sc := defScope st_Grove_knit) (by decide +kernel)) (fun _ _ _ _ _ => by exact (pg_name (i := 9) sc_Grove_knit.nd rfl (Or.inl rfl))) (fun _ _ _ _ _ => by exact pts_nil) (fun _ _ _ _ _ => by exact (pe_ix (ix_listK K rfl) (pe_fldK K rfl (pv 0) rfl) (pv 9) (fun _ _ => rfl)))) (pa_cons (pe_op op_shl pe_int (pv 6)) pa_nil))))
      (pss_one (ps_ret (pe_mgK K rfl (pv 0) (T.cls 9) (T.meth 10) G_Grove_kept (hr.mono (by decide)) (pa_cons (pv 5) (pa_cons (pe_op op_add (pv 6) pe_int) (pa_cons (pv 7) (pa_cons (pv 8) pa_nil)))))))))))), ?_⟩
    walk_at "rd"
    refine rd_new (hn := by show 4 ≤ sizeLine; decide) fun t ht => ?_
    walk_at "rd"
    have sm := same_upd (o := HO.tup [V.int (na : Int), V.int (nb : Int), V.int (nc : Int), V.int (nd : Int)]) ht
    have G1 := G.same sm
    have ob1 := G1.ob
    have hT : (upd H t (HO.tup [V.int (na : Int), V.int (nb : Int), V.int (nc : Int), V.int (nd : Int)])) t = some (.tup [V.int (na : Int), V.int (nb : Int), V.int (nc : Int), V.int (nd : Int)]) := upd_same
    generalize hH1 : upd H t (HO.tup [V.int (na : Int), V.int (nb : Int), V.int (nc : Int), V.int (nd : Int)]) = H1 at sm G1 ob1 hT ⊢
    obtain ⟨tups, mk, spt, Dt⟩ := G1.da
    have hT' : H1 t = some (.tup (([(na : Int), (nb : Int), (nc : Int), (nd : Int)].map (Sum.inl : Int → Key)).map kV)) := hT
    walk_at "rd"
    refine ⟨a.dn, _, rfl, DGet.t (k := [(na : Int), (nb : Int), (nc : Int), (nd : Int)].map Sum.inl) Dt.hn hT', ?_⟩
    rw [valV_kvsOf]
    have hM : Made q (.node A B C' D) [(na : Int), (nb : Int), (nc : Int), (nd : Int)] := ⟨na, nb, nc, nd, rfl, ha, hb, hc, hd⟩
    obtain ⟨L1, L2⟩ := look_of G.qn Dt.lm Dt.md hM
    cases e : lookI mk [(na : Int), (nb : Int), (nc : Int), (nd : Int)] 0 with
    | some n =>
      walk_at "rd"
      refine iteT ?_
      walk_at "rd"
      refine ⟨a.dn, .int (n : Int), rfl, ?_, ?_⟩
      · have z := DGet.t (k := [(na : Int), (nb : Int), (nc : Int), (nd : Int)].map Sum.inl) Dt.hn hT'
        rw [valV_kvsOf, e] at z
        exact z
      · exact k _ q n G1 (List.prefix_refl _) (by omega) (L1 n e) (fr_of sm)
    | none =>
      walk_at "rd"
      refine iteF ?_
      walk_at "rd"
      have hS := L2 e
      obtain ⟨wa, wb, wc, wd, l1, l2, l3⟩ := id hwf
      walk_at "rd"
      refine rd_ixL (SqL.of Dt.hl) (atI_nat (map_get (fun S : Sq => V.int (S.level : Int)) ha)) ?_
      walk_at "rd"
      refine rd_ixL (SqL.of Dt.hv) (atI_nat (map_get (fun S : Sq => V.int S.lives) ha)) ?_
      walk_at "rd"
      refine rd_ixL (SqL.of Dt.hv) (atI_nat (map_get (fun S : Sq => V.int S.lives) hb)) ?_
      walk_at "rd"
      refine rd_ixL (SqL.of Dt.hv) (atI_nat (map_get (fun S : Sq => V.int S.lives) hc)) ?_
      walk_at "rd"
      refine rd_ixL (SqL.of Dt.hv) (atI_nat (map_get (fun S : Sq => V.int S.lives) hd)) ?_
      walk_at "rd"
      have sv : ∀ (n : Nat) S, q[n]? = some S → ∃ v, spt[n]? = some v ∧ SpanV H1 v S.span := fun n S h => by
        have hn : n < spt.length := by rw [Dt.ls]; exact (List.getElem?_eq_some_iff.mp h).1
        exact ⟨spt[n], by simp [hn], Dt.sp n _ S (by simp [hn]) h⟩
      obtain ⟨va, ea, pa⟩ := sv _ _ ha
      obtain ⟨vb, eb, pb⟩ := sv _ _ hb
      obtain ⟨vc, ec, pc⟩ := sv _ _ hc
      obtain ⟨vd, ed, pd⟩ := sv _ _ hd
      refine ⟨t, rfl, ⟨_, SqT.of hT⟩, fun dl hdl => ?_⟩
      have ndl : ∀ b o, H1 b = some o → b ≠ dl := fun b o e => ne_of_none e hdl
      refine lc_tup (K := K) (xs := [V.int (na : Int), V.int (nb : Int), V.int (nc : Int), V.int (nd : Int)]) (fun i H' => H' = upd H1 dl (.lst ([va, vb, vc, vd].take i))) rfl (fun i H' _ e => SqT.of (by rw [e, upd_ne (ndl _ _ hT)]; exact hT)) ?_ ?_
      · rintro i x H' hx rfl
        obtain ⟨n, v, rfl, e1, e2⟩ : ∃ (n : Nat) (v : V), x = .int (n : Int) ∧ spt[n]? = some v ∧ [va, vb, vc, vd][i]? = some v := by
          match i, hx with
          | 0, hx => exact ⟨na, va, (Option.some.inj hx).symm, ea, rfl⟩
          | 1, hx => exact ⟨nb, vb, (Option.some.inj hx).symm, eb, rfl⟩
          | 2, hx => exact ⟨nc, vc, (Option.some.inj hx).symm, ec, rfl⟩
          | 3, hx => exact ⟨nd, vd, (Option.some.inj hx).symm, ed, rfl⟩
        walk_at "rd"
        refine ⟨rfl, ?_⟩
        walk_at "rd"
        refine rd_fldR (by rw [upd_ne (ndl _ _ G1.ob)]; exact G1.ob) cl na5 (by rfl) ?_
        walk_at "rd"
        refine rd_ixL (SqL.of (by rw [upd_ne (ndl _ _ Dt.hs)]; exact Dt.hs)) (atI_nat e1) ?_
        refine ⟨_, upd_same, ?_, ?_⟩
        · have : (([va, vb, vc, vd] : List V).take i).length ≤ 4 := by rw [List.length_take]; exact Nat.min_le_right _ _
          exact small1000 (by omega)
        · rw [upd_upd, take_snoc e2]
      · rintro H' rfl
        have s2 := same_upd (o := HO.lst [va, vb, vc, vd]) hdl
        walk_at "rd"
        refine rd_I (by refine ⟨by omega, by omega, by decide⟩) ?_
        walk_at "rd"
        have eh : (1 : Int) * 2 ^ ((A.level : Int)).toNat = 2 ^ A.level := by rw [Int.one_mul, Int.toNat_natCast]
        refine ⟨dl, [va, vb, vc, vd], [A.span, B.span, C'.span, D.span], _, rfl, upd_same, rfl, rfl, ?_, ?_, ?_, fun H2 u s3 hu2 => ?_⟩
        · intro i v o h1 h2
          match i, h1, h2 with
          | 0, h1, h2 => cases h1; cases h2; exact pa.keep fun b xs e => s2 _ _ e
          | 1, h1, h2 => cases h1; cases h2; exact pb.keep fun b xs e => s2 _ _ e
          | 2, h1, h2 => cases h1; cases h2; exact pc.keep fun b xs e => s2 _ _ e
          | 3, h1, h2 => cases h1; cases h2; exact pd.keep fun b xs e => s2 _ _ e
        · have e2 : (0 : Int) < 2 ^ A.level := Int.pow_pos (by decide)
          rw [eh]; omega
        · have e2 : 2 ^ A.level < 2 ^ 64 := Nat.pow_lt_pow_right (by decide) (by omega)
          rw [eh]
          exact_mod_cast e2
        · rw [eh, acc4_r4] at hu2
          have s13 : Same H1 H2 := fun b o e => s3 b o (by rw [upd_ne (ndl _ _ e)]; exact e)
          walk_at "rd"
          refine rd_methR (s13 _ _ G1.ob) (by rfl) ?_
          walk_at "rd"
          refine ⟨a, rows, q, .node A B C' D, t, [(na : Int), (nb : Int), (nc : Int), (nd : Int)], u, ?_, G1.same s13, s13 _ _ hT, hM, hwf, hS, ?_, hlen, fun H' g fr => k H' _ q.length g (List.prefix_append _ _) (by simp) (by simp) (((fr_of sm).trans (fr_of s13)).trans fr)⟩
          · have e1 : (V.int ((A.level : Int) + 1)) = V.int (((Sq.node A B C' D).level : Nat) : Int) := rfl
            rw [← e1]; rfl
          · exact hu2
theorem mp_kept {C : Addr} : MonP (sp_kept C) := fun vs H Q Q' E h ⟨a, rows, q, S, t, m, v, x1, x2, x3, x4, x5, x6, x7, x8, k⟩ => ⟨a, rows, q, S, t, m, v, x1, x2, x3, x4, x5, x6, x7, x8, fun H' g f => h _ _ (k H' g f)⟩
theorem mp_cell {C : Addr} : MonP (sp_cell C) := fun vs H Q Q' E h ⟨a, rows, q, s, x1, x2, x3, x4, x5, k⟩ => ⟨a, rows, q, s, x1, x2, x3, x4, x5, fun H' q' n g p l e f => h _ _ (k H' q' n g p l e f)⟩
theorem mp_knit {C : Addr} : MonP (sp_knit C) := fun vs H Q Q' E h ⟨a, rows, q, A, B, C', D, na, nb, nc, nd, x1, x2, x3, x4, x5, x6, x7, x8, x9, k⟩ => ⟨a, rows, q, A, B, C', D, na, nb, nc, nd, x1, x2, x3, x4, x5, x6, x7, x8, x9, fun H' q' n g p l e f => h _ _ (k H' q' n g p l e f)⟩
end
end JF

/-! ### the grove's methods: __init__, even -/
namespace JF
open PySem PySem.Spec PyProof.Rows L2
section
variable {P : Program} {w : World} {K : PySem.W.Frag} {mg : Str → Option Value} {base : Heap}
def sp_ginit (C : Addr) : Sp := fun vs H Q _ => ∃ (p dx : Addr), vs = [.ref p] ∧ H p = some (.ins C dx []) ∧ ∀ (a : GA) (H' : Hp), a.g = p → GAt C H' a [] [] → (∀ b ∈ a.muts [], H b = none) → (∀ b o, H b = some o → b ≠ p → H' b = some o) → Q .non H'
theorem ok_ginit (T : Env fa fn K mg) : Good P w K mg base CX0 1 ("Grove", some "__init__") ["self"] (sp_ginit (CG K)) := by
  refine good_mk T 4 (d := d_Grove_init) (N := ["self"]) (ps := ["self"]) rfl rfl sc_Grove_init (fun _ _ _ _ _ _ us hl => match us, hl with | [_], _ => rfl) (fun vs H Q E h => ?_) (fun f cdv A outer s H vs Q E hr h => ?_)
  · obtain ⟨p, dx, rfl, _⟩ := h; rfl
  · obtain ⟨p, dx, rfl, hp, k⟩ := h
    have cl : Cls K (CG K) := T.cls 9
    obtain ⟨na1, na2, na3, na4, na5, na6⟩ := noats T
    refine ⟨_, (pss_cons (ps_fld (pv 0) pe_dnewT rfl)
      (pss_cons (ps_fld (pv 0) (pe_lst pa_nil) rfl)
      (pss_cons (ps_fld (pv 0) (pe_lst pa_nil) rfl)
      (pss_cons (ps_fld (pv 0) (pe_lst pa_nil) rfl)
      (pss_cons (ps_fld (pv 0) (pe_lst pa_nil) rfl)
      (pss_one (ps_fld (pv 0) pe_dnewK rfl))))))), ?_⟩
    walk_at "rd"
    intro dn hdn
    have p1 : p ≠ dn := ne_of_none hp hdn
    walk_at "rd"
    refine ⟨p, CG K, dx, [], rfl, by walk_at "hp", cl, na1, by decide, ?_⟩
    walk_at "rd"
    refine rd_new (hn := by show 0 ≤ sizeLine; decide) fun dm hdm => ?_
    have p2 : p ≠ dm := ne_of_none upd_same hdm
    have e1 : dn ≠ dm := ne_of_none (by rw [upd_ne p1.symm, upd_same]) hdm
    walk_at "rd"
    refine ⟨p, CG K, dx, _, rfl, by walk_at "hp", cl, na2, (by show 1 < 1000; decide), ?_⟩
    walk_at "rd"
    refine rd_new (hn := by show 0 ≤ sizeLine; decide) fun dl hdl => ?_
    have p3 : p ≠ dl := ne_of_none upd_same hdl
    have e2 : dn ≠ dl := ne_of_none (o := .dT []) (by walk_at "hp") hdl
    have e3 : dm ≠ dl := ne_of_none (o := .lst []) (by walk_at "hp") hdl
    walk_at "rd"
    refine ⟨p, CG K, dx, _, rfl, by walk_at "hp", cl, na3, (by show 2 < 1000; decide), ?_⟩
    walk_at "rd"
    refine rd_new (hn := by show 0 ≤ sizeLine; decide) fun dv hdv => ?_
    have p4 : p ≠ dv := ne_of_none upd_same hdv
    have f1 : dn ≠ dv := ne_of_none (o := .dT []) (by walk_at "hp") hdv
    have f2 : dm ≠ dv := ne_of_none (o := .lst []) (by walk_at "hp") hdv
    have f3 : dl ≠ dv := ne_of_none (o := .lst []) (by walk_at "hp") hdv
    walk_at "rd"
    refine ⟨p, CG K, dx, _, rfl, by walk_at "hp", cl, na4, (by show 3 < 1000; decide), ?_⟩
    walk_at "rd"
    refine rd_new (hn := by show 0 ≤ sizeLine; decide) fun ds hds => ?_
    have p5 : p ≠ ds := ne_of_none upd_same hds
    have g1 : dn ≠ ds := ne_of_none (o := .dT []) (by walk_at "hp") hds
    have g2 : dm ≠ ds := ne_of_none (o := .lst []) (by walk_at "hp") hds
    have g3 : dl ≠ ds := ne_of_none (o := .lst []) (by walk_at "hp") hds
    have g4 : dv ≠ ds := ne_of_none (o := .lst []) (by walk_at "hp") hds
    walk_at "rd"
    refine ⟨p, CG K, dx, _, rfl, by walk_at "hp", cl, na5, (by show 4 < 1000; decide), ?_⟩
    walk_at "rd"
    intro dp hdp
    have p6 : p ≠ dp := ne_of_none upd_same hdp
    have h1 : dn ≠ dp := ne_of_none (o := .dT []) (by walk_at "hp") hdp
    have h2 : dm ≠ dp := ne_of_none (o := .lst []) (by walk_at "hp") hdp
    have h3 : dl ≠ dp := ne_of_none (o := .lst []) (by walk_at "hp") hdp
    have h4 : dv ≠ dp := ne_of_none (o := .lst []) (by walk_at "hp") hdp
    have h5 : ds ≠ dp := ne_of_none (o := .lst []) (by walk_at "hp") hdp
    walk_at "rd"
    refine ⟨p, CG K, dx, _, rfl, by walk_at "hp", cl, na6, (by show 5 < 1000; decide), ?_⟩
    have emp : ∀ (i : Nat) {α : Type} (x : α), ([] : List α)[i]? = some x → False := fun i α x e => by simp at e
    have out : ∀ (b u : Addr) (Hx : Hp) (o : HO), upd Hx u o b = none → Hx b = none := fun b u Hx o e => by
      by_cases z : b = u
      · subst z; rw [upd_same] at e; cases e
      · rw [upd_ne z] at e; exact e
    refine k ⟨p, dx, dn, dm, dl, dv, ds, dp⟩ _ rfl ⟨upd_same, ⟨[], [], [], by walk_at "hp", by walk_at "hp", by walk_at "hp", by walk_at "hp", by walk_at "hp", rfl, rfl, rfl, fun i t m e => (emp i _ e).elim, fun i t m e => (emp i _ e).elim, fun i t m e => (emp i _ e).elim⟩, by simp, by simp, by walk_at "hp", by simp [GA.muts, GA.m5, *], by simp, by simp, by simp⟩ ?_ ?_
    · intro b hb
      simp only [GA.muts, GA.m5, List.cons_append, List.nil_append, List.mem_cons, List.map_nil, List.not_mem_nil, or_false] at hb
      rcases hb with rfl | rfl | rfl | rfl | rfl | rfl
      · exact hdn
      · exact out _ _ _ _ (out _ _ _ _ hdm)
      · exact out _ _ _ _ (out _ _ _ _ (out _ _ _ _ (out _ _ _ _ hdl)))
      · exact out _ _ _ _ (out _ _ _ _ (out _ _ _ _ (out _ _ _ _ (out _ _ _ _ (out _ _ _ _ hdv)))))
      · exact out _ _ _ _ (out _ _ _ _ (out _ _ _ _ (out _ _ _ _ (out _ _ _ _ (out _ _ _ _ (out _ _ _ _ (out _ _ _ _ hds)))))))
      · exact out _ _ _ _ (out _ _ _ _ (out _ _ _ _ (out _ _ _ _ (out _ _ _ _ (out _ _ _ _ (out _ _ _ _ (out _ _ _ _ (out _ _ _ _ (out _ _ _ _ hdp)))))))))
    · intro b o e hb
      have b1 : b ≠ dn := ne_of_none e hdn
      have b2 : b ≠ dm := ne_of_none e (out _ _ _ _ (out _ _ _ _ hdm))
      have b3 : b ≠ dl := ne_of_none e (out _ _ _ _ (out _ _ _ _ (out _ _ _ _ (out _ _ _ _ hdl))))
      have b4 : b ≠ dv := ne_of_none e (out _ _ _ _ (out _ _ _ _ (out _ _ _ _ (out _ _ _ _ (out _ _ _ _ (out _ _ _ _ hdv))))))
      have b5 : b ≠ ds := ne_of_none e (out _ _ _ _ (out _ _ _ _ (out _ _ _ _ (out _ _ _ _ (out _ _ _ _ (out _ _ _ _ (out _ _ _ _ (out _ _ _ _ hds))))))))
      have b6 : b ≠ dp := ne_of_none e (out _ _ _ _ (out _ _ _ _ (out _ _ _ _ (out _ _ _ _ (out _ _ _ _ (out _ _ _ _ (out _ _ _ _ (out _ _ _ _ (out _ _ _ _ (out _ _ _ _ hdp))))))))))
      walk_at "hp"
end
end JF

/-! ### even, and the asking methods -/
namespace JF
open PySem PySem.Spec PyProof.Rows L2
/-- a row of plain squares grows -/
theorem GAt.row {C : Addr} {H : Hp} {a : GA} {rows : List (Int × Addr)} {q : List Sq} {s : Int} {b : Addr} {ns : List Nat} (G : GAt C H a rows q) (h : (s, b) ∈ rows) (hv : ∀ (i : Nat) n, ns[i]? = some n → q[n]? = some (Sq.even i s)) :
    GAt C (L2.upd H b (.lst (ns.map fun (n : Nat) => V.int (n : Int)))) a rows q := by
  obtain ⟨tups, mk, spt, D⟩ := G.da
  obtain ⟨⟨g1, g2, g3, g4, g5, g6⟩, _, _, _, _, _, hr⟩ := nd_of G.nd
  obtain ⟨r1, r2, r3, r4', r5, r6, r7⟩ := hr s b h
  obtain ⟨ns0, hb0, _⟩ := G.ro s b h
  have out : ∀ c xs, H c = some (.tup xs) → L2.upd H b (.lst (ns.map fun (n : Nat) => V.int (n : Int))) c = some (.tup xs) := fun c xs e => by
    rw [upd_ne (by rintro rfl; rw [hb0] at e; cases e)]; exact e
  refine ⟨by rw [upd_ne r1.symm]; exact G.ob, ⟨tups, mk, spt, by rw [upd_ne r2.symm]; exact D.hn, by rw [upd_ne r3.symm]; exact D.hm, by rw [upd_ne r4'.symm]; exact D.hl, by rw [upd_ne r5.symm]; exact D.hv, by rw [upd_ne r6.symm]; exact D.hs, D.lt, D.lm, D.ls,
    fun i t m h1 h2 => out _ _ (D.tu i t m h1 h2), fun i v S h1 h2 => (D.sp i v S h1 h2).keep out, D.md⟩, G.wf, G.qn, by rw [upd_ne r7.symm]; exact G.pl, G.nd, G.rn, G.rs, fun s' b' h' => ?_⟩
  by_cases e : b' = b
  · subst e
    have hs : s' = s := by
      have nd2 : (rows.map (·.2)).Nodup := by
        have z := (List.nodup_cons.mp G.nd).2
        unfold GA.muts at z
        exact (List.nodup_cons.mp (List.nodup_append.mp z).2.1).2
      obtain ⟨i, hi, e1⟩ := List.mem_iff_getElem.mp h
      obtain ⟨j, hj, e2⟩ := List.mem_iff_getElem.mp h'
      have e3 : i = j := (List.getElem_inj (xs := rows.map (·.2)) (h₀ := by simpa using hi) (h₁ := by simpa using hj) nd2).mp (by simp [e1, e2])
      subst e3
      rw [e1] at e2
      exact (congrArg Prod.fst e2).symm
    subst hs
    exact ⟨ns, upd_same, hv⟩
  · obtain ⟨ns', e1, e2⟩ := G.ro s' b' h'
    exact ⟨ns', by rw [upd_ne e]; exact e1, e2⟩
theorem rows_look {rows : List (Int × Addr)} {s : Int} : (∀ v, valV (rows.map fun sa => ((Sum.inl sa.1 : Key), V.ref sa.2)) (Sum.inl s) = some v → ∃ b, (s, b) ∈ rows ∧ v = .ref b) ∧ (valV (rows.map fun sa => ((Sum.inl sa.1 : Key), V.ref sa.2)) (Sum.inl s) = none → s ∉ rows.map (·.1)) := by
  induction rows with
  | nil => exact ⟨fun v h => (by cases h), fun _ => by simp⟩
  | cons x r ih =>
    by_cases e : x.1 = s
    · constructor
      · intro v h
        have h' : some (V.ref x.2) = some v := by rw [← h]; simp [valV, e]
        exact ⟨x.2, by rw [← e]; exact List.mem_cons_self, (Option.some.inj h').symm⟩
      · intro h
        have h' : valV (((x :: r).map fun sa => ((Sum.inl sa.1 : Key), V.ref sa.2))) (Sum.inl s) = some (V.ref x.2) := by simp [valV, e]
        rw [h'] at h; cases h
    · have e' : ¬ ((Sum.inl x.1 : Key) = Sum.inl s) := fun z => e (Sum.inl.inj z)
      have eq : valV (((x :: r).map fun sa => ((Sum.inl sa.1 : Key), V.ref sa.2))) (Sum.inl s) = valV ((r.map fun sa => ((Sum.inl sa.1 : Key), V.ref sa.2))) (Sum.inl s) := by
        simp [valV, e]
      rw [eq]
      refine ⟨fun v h => ?_, fun h => ?_⟩
      · obtain ⟨b, h1, h2⟩ := ih.1 v h
        exact ⟨b, List.mem_cons_of_mem _ h1, h2⟩
      · simp only [List.map_cons, List.mem_cons, not_or]
        exact ⟨fun z => e z.symm, ih.2 h⟩
/-- a new row -/
theorem GAt.addrow {C : Addr} {H : Hp} {a : GA} {rows : List (Int × Addr)} {q : List Sq} {s : Int} {p : Addr} (G : GAt C H a rows q) (hp : H p = none) (hs : s ∉ rows.map (·.1)) (h0 : 0 ≤ s) (h7 : s ≤ 7) :
    GAt C (L2.upd (L2.upd H p (.lst [])) a.dp (.dK ((rows.map fun sa => ((Sum.inl sa.1 : Key), V.ref sa.2)) ++ [((Sum.inl s : Key), V.ref p)]))) a (rows ++ [(s, p)]) q := by
  have G1 := G.same (same_upd (o := .lst []) hp)
  obtain ⟨tups, mk, spt, D⟩ := G1.da
  obtain ⟨⟨g1, g2, g3, g4, g5, g6⟩, ⟨n1, n2, n3, n4, n5⟩, ⟨m1, m2, m3, m4⟩, ⟨l1, l2, l3⟩, ⟨v1, v2⟩, s1, hr⟩ := nd_of G.nd
  have hdp : ∀ xs, L2.upd H p (.lst []) a.dp ≠ some (.tup xs) := fun xs e => by rw [G1.pl] at e; cases e
  have out : ∀ c xs o, L2.upd H p (.lst []) c = some (.tup xs) → L2.upd (L2.upd H p (.lst [])) a.dp o c = some (.tup xs) := fun c xs o e => by
    rw [upd_ne (by rintro rfl; exact hdp _ e)]; exact e
  refine ⟨by rw [upd_ne g6]; exact G1.ob, ⟨tups, mk, spt, by rw [upd_ne n5]; exact D.hn, by rw [upd_ne m4]; exact D.hm, by rw [upd_ne l3]; exact D.hl, by rw [upd_ne v2]; exact D.hv, by rw [upd_ne s1]; exact D.hs, D.lt, D.lm, D.ls,
    fun i t m h1 h2 => out _ _ _ (D.tu i t m h1 h2), fun i v S h1 h2 => (D.sp i v S h1 h2).keep fun b xs e => out _ _ _ e, D.md⟩, G1.wf, G1.qn, by rw [upd_same, List.map_append]; rfl, ?_, ?_, fun s' h' => ?_, fun s' b' h' => ?_⟩
  · have hout := G.new_out hp
    have hg : a.g ≠ p := ne_of_none G.ob hp
    have z := G.nd
    rw [List.nodup_cons] at z ⊢
    have em : a.muts (rows ++ [(s, p)]) = a.muts rows ++ [p] := by simp [GA.muts]
    rw [em]
    refine ⟨fun h => ?_, ?_⟩
    · rcases List.mem_append.mp h with h | h
      · exact z.1 h
      · simp only [List.mem_singleton] at h; exact hg h
    · rw [List.nodup_append]
      refine ⟨z.2, by simp, fun x hx y hy e => ?_⟩
      simp only [List.mem_singleton] at hy
      subst hy
      exact hout (e ▸ hx)
  · rw [List.map_append, List.nodup_append]
    refine ⟨G.rn, by simp, fun x hx y hy e => ?_⟩
    simp only [List.map_cons, List.map_nil, List.mem_singleton] at hy
    subst hy
    exact hs (e ▸ hx)
  · rw [List.map_append] at h'
    rcases List.mem_append.mp h' with h' | h'
    · exact G.rs s' h'
    · simp only [List.map_cons, List.map_nil, List.mem_singleton] at h'
      subst h'; exact ⟨h0, h7⟩
  · rcases List.mem_append.mp h' with h' | h'
    · obtain ⟨ns, e1, e2⟩ := G1.ro s' b' h'
      obtain ⟨_, _, _, _, _, _, r7⟩ := hr s' b' h'
      exact ⟨ns, by rw [upd_ne r7]; exact e1, e2⟩
    · simp only [List.mem_singleton, Prod.mk.injEq] at h'
      obtain ⟨rfl, rfl⟩ := h'
      have : b' ≠ a.dp := (ne_of_none G.pl hp).symm
      exact ⟨[], by rw [upd_ne this, upd_same]; rfl, fun i n h => by simp at h⟩
theorem fr_muts {a : GA} {rows : List (Int × Addr)} {H H' : Hp} (h : Fr a.m5 H H') : Fr (a.muts rows) H H' := h.mono fun b hb => List.mem_append_left _ hb
theorem row_mem {a : GA} {rows : List (Int × Addr)} {s : Int} {b : Addr} (h : (s, b) ∈ rows) : b ∈ a.muts rows :=
  List.mem_append_right _ (List.mem_cons_of_mem _ (List.mem_map_of_mem (f := fun sa : Int × Addr => sa.2) h))
/-- knit's and cell's way: the rows stay -/
theorem GStep.m5 {C : Addr} {H H1 H2 : Hp} {a : GA} {rows r1 : List (Int × Addr)} {q q1 q2 : List Sq} (x : GStep C H a rows q H1 r1 q1) (G : GAt C H2 a r1 q2) (p : q1 <+: q2) (f : Fr a.m5 H1 H2) : GStep C H a rows q H2 r1 q2 :=
  x.trans ⟨G, p, fr_muts f, fun _ h => .inl h⟩
theorem GStep.row {C : Addr} {H H1 : Hp} {a : GA} {rows r1 : List (Int × Addr)} {q q1 : List Sq} {s : Int} {b : Addr} {ns : List Nat} (x : GStep C H a rows q H1 r1 q1) (h : (s, b) ∈ r1) (hv : ∀ (i : Nat) n, ns[i]? = some n → q1[n]? = some (Sq.even i s)) :
    GStep C H a rows q (L2.upd H1 b (.lst (ns.map fun (n : Nat) => V.int (n : Int)))) r1 q1 :=
  x.trans ⟨x.gat.row h hv, List.prefix_refl _, fun c o e n => by rw [upd_ne (by rintro rfl; exact n (row_mem h))]; exact e, fun _ h => .inl h⟩
theorem GStep.same {C : Addr} {H H1 H2 : Hp} {a : GA} {rows r1 : List (Int × Addr)} {q q1 : List Sq} (x : GStep C H a rows q H1 r1 q1) (s : Same H1 H2) : GStep C H a rows q H2 r1 q1 :=
  x.trans ⟨x.gat.same s, List.prefix_refl _, fr_of s, fun _ h => .inl h⟩
theorem row_not5 {C : Addr} {H : Hp} {a : GA} {rows : List (Int × Addr)} {q : List Sq} {s : Int} {b : Addr} (G : GAt C H a rows q) (h : (s, b) ∈ rows) : b ∉ a.m5 := by
  obtain ⟨_, _, _, _, _, _, hr⟩ := nd_of G.nd
  obtain ⟨r1, r2, r3, r4', r5, r6, r7⟩ := hr s b h
  simp [GA.m5, r2, r3, r4', r5, r6]
theorem map_int_len (ns : List Nat) : (ns.map fun (n : Nat) => V.int (n : Int)).length = ns.length := List.length_map _
section
variable {P : Program} {w : World} {K : PySem.W.Frag} {mg : Str → Option Value} {base : Heap}
def sp_even (C : Addr) : Sp := fun vs H Q _ => ∃ (a : GA) (rows : List (Int × Addr)) (q : List Sq) (l : Nat) (s : Int), vs = [.ref a.g, .int (l : Int), .int s] ∧ GAt C H a rows q ∧ l ≤ 60 ∧ 0 ≤ s ∧ s ≤ 7 ∧ q.length + 100 < 16000000 ∧
  ∀ H' rows' q' (n : Nat), GStep C H a rows q H' rows' q' → q'.length ≤ q.length + l + 1 → q'[n]? = some (Sq.even l s) → Q (.int (n : Int)) H'
theorem ok_even (T : Env fa fn K mg) : Good P w K mg base CX0 4 ("Grove", some "even") ["self", "level", "state"] (sp_even (CG K)) := by
  have G_Grove_cell := ok_cell (P := P) (w := w) (base := base) T
  have G_Grove_knit := ok_knit (P := P) (w := w) (base := base) T
  refine good_mk T 8 (d := d_Grove_even) (N := ["self", "level", "state", "row", "one"]) (ps := ["self", "level", "state"]) rfl rfl sc_Grove_even (fun _ _ _ _ _ _ us hl => match us, hl with | [_, _, _], _ => rfl) (fun vs H Q E h => ?_) (fun f cdv A outer σ0 H vs Q E hr h => ?_)
  · obtain ⟨a, rows, q, l, s, rfl, _⟩ := h; rfl
  · obtain ⟨a, rows, q, l, s, rfl, G, hl, h0, h7, hlen, k⟩ := h
    have hu := hu_of hr
    have cl : Cls K (CG K) := T.cls 9
    obtain ⟨na1, na2, na3, na4, na5, na6⟩ := noats T
    have ob := G.ob
    have hsz := sizeBig
    have mp1 := mp_cell (C := CG K)
    have mp2 := mp_knit (C := CG K)
    refine ⟨_, (pss_cons (ps_set (i := 3) sc_Grove_even.nd rfl (Or.inl rfl) (pe_dsetd (pe_fldK K rfl (pv 0) rfl) (pv 2) (pe_lst pa_nil) ⟨rfl, rfl, rfl, rfl⟩))
      (pss_cons (ps_if (pt_cmpR op_eq (pe_callB (call_lenK K rfl) (by rfl) (T.free 8) (by decide +kernel) (pa_cons (pv 3) pa_nil)) pe_int (nomark _)) (pss_one (ps_expr (pe_bm PySem.F.plainAttrs_list PySem.F.slot_list_append PySem.F.type_list_append mt_append (pv 3) (pa_cons (pe_mgK K rfl (pv 0) (T.cls 9) (T.meth 12) G_Grove_cell (hr.mono (by decide)) (pa_cons (pv 2) pa_nil)) pa_nil)))) pss_nil)
      (pss_cons (ps_while PassesOwn.never (pt_cmpR op_le (pe_callB (call_lenK K rfl) (by rfl) (T.free 8) (by decide +kernel) (pa_cons (pv 3) pa_nil)) (pv 1) (nomark _)) (pss_cons (ps_set (i := 4) sc_Grove_even.nd rfl (Or.inl rfl) (pe_ix (ix_listK K rfl) (pv 3) (pe_un un_neg pe_int) (fun _ _ => rfl)))
      (pss_one (ps_expr (pe_bm PySem.F.plainAttrs_list PySem.F.slot_list_append PySem.F.type_list_append mt_append (pv 3) (pa_cons (pe_mgK K rfl (pv 0) (T.cls 9) (T.meth 13) G_Grove_knit (hr.mono (by decide)) (pa_cons (pv 4) (pa_cons (pv 4) (pa_cons (pv 4) (pa_cons (pv 4) pa_nil))))) pa_nil))))))
      (pss_one (ps_ret (pe_ix (ix_listK K rfl) (pv 3) (pv 1) (fun _ _ => rfl))))))), ?_⟩
    -- row = self.plain.setdefault(state, [])
    refine rd_cut (fun σ H1 => ∃ (r1 : List (Int × Addr)) (b : Addr) (ns : List Nat), σ = [some (.ref a.g), some (.int (l : Int)), some (.int s), some (.ref b), none] ∧ GStep (CG K) H a rows q H1 r1 q ∧ (s, b) ∈ r1 ∧
      H1 b = some (.lst (ns.map fun (n : Nat) => V.int (n : Int))) ∧ ∀ (i : Nat) n, ns[i]? = some n → q[n]? = some (Sq.even i s)) (by walk_at "mono") ?_ ?_
    · walk_at "rd"
      refine rd_isD G.pl ?_
      walk_at "rd"
      refine rd_new (hn := by show 0 ≤ sizeLine; decide) fun p hp => ?_
      have sm := same_upd (o := .lst []) hp
      have G1 := G.same sm
      have S1 := (GStep.refl G).same sm
      have rl : rows.length ≤ 8 := by have z := states_len G.rn G.rs; rw [List.length_map] at z; exact z
      refine ⟨_, Sum.inl s, G1.pl, rfl, by rw [List.length_map]; exact small1000 (by omega), fun v hv => ?_, fun hv => ?_⟩
      · obtain ⟨b, hb, rfl⟩ := rows_look.1 v hv
        obtain ⟨ns, e1, e2⟩ := G1.ro s b hb
        walk_at "rd"
        exact ⟨rows, b, ns, rfl, S1, hb, e1, e2⟩
      · rw [putK_new _ hv]
        walk_at "rd"
        have G2 := G.addrow hp (rows_look.2 hv) h0 h7
        refine ⟨_, p, [], rfl, ⟨G2, List.prefix_refl _, fun b o e n => ?_, fun b hb => ?_⟩, List.mem_append_right _ (List.mem_singleton_self _), ?_, fun i n h => by simp at h⟩
        · rw [upd_ne (fun z => n (by rw [z]; simp [GA.muts])), upd_ne (ne_of_none e hp)]; exact e
        · have em : a.muts (rows ++ [(s, p)]) = a.muts rows ++ [p] := by simp [GA.muts]
          rw [em] at hb
          rcases List.mem_append.mp hb with hb | hb
          · exact .inl hb
          · simp only [List.mem_singleton] at hb; subst hb; exact .inr hp
        · rw [upd_ne (ne_of_none G.pl hp).symm, upd_same]; rfl
    rintro σ H1 ⟨r1, b, ns, rfl, S1, hb, e1, e2⟩
    -- if len(row) == 0: row.append(self.cell(state))
    refine rd_cut (fun σ H2 => ∃ (q2 : List Sq) (ns2 : List Nat), σ = [some (.ref a.g), some (.int (l : Int)), some (.int s), some (.ref b), none] ∧ GStep (CG K) H a rows q H2 r1 q2 ∧
      H2 b = some (.lst (ns2.map fun (n : Nat) => V.int (n : Int))) ∧ (∀ (i : Nat) n, ns2[i]? = some n → q2[n]? = some (Sq.even i s)) ∧ 0 < ns2.length ∧ (q2.length ≤ q.length ∨ q2.length ≤ q.length + ns2.length ∧ ns2.length ≤ l + 1)) (by walk_at "mono") ?_ ?_
    · have ob1 := S1.gat.ob
      walk_at "rd"
      refine rd_len (SqL.of e1) ?_
      walk_at "rd"
      rw [map_int_len]
      refine ite_d (fun hz => ?_) (fun hz => ?_)
      · have hns : ns = [] := List.length_eq_zero_iff.mp (by omega)
        subst hns
        walk_at "rd"
        refine rd_tyL e1 ?_
        walk_at "rd"
        refine rd_methR S1.gat.ob (by rfl) ?_
        walk_at "rd"
        refine ⟨a, r1, q, s, rfl, S1.gat, h0, h7, by omega, fun H2 q2 n G2 pre len en fr => ?_⟩
        walk_at "rd"
        have eb : H2 b = some (.lst []) := fr _ _ e1 (row_not5 S1.gat hb)
        refine rd_append eb (by show 0 < sizeLine; decide) ?_
        walk_at "rd"
        have S2 := S1.m5 G2 pre fr
        have hv : ∀ (i : Nat) m, [n][i]? = some m → q2[m]? = some (Sq.even i s) := fun i m h => by
          cases i with
          | zero => cases h; exact en
          | succ i => simp at h
        exact ⟨q2, [n], rfl, S2.row hb hv, upd_same, hv, by simp, .inr ⟨by simp; omega, by simp⟩⟩
      · walk_at "rd"
        exact ⟨q, ns, rfl, S1, e1, e2, by omega, .inl (Nat.le_refl _)⟩
    rintro σ H2 ⟨q2, ns2, rfl, S2, e3, e4, hpos, hcnt⟩
    -- while len(row) <= level
    refine rd_cut (fun σ H3 => ∃ (q3 : List Sq) (ns3 : List Nat) (x : Option V), σ = [some (.ref a.g), some (.int (l : Int)), some (.int s), some (.ref b), x] ∧ GStep (CG K) H a rows q H3 r1 q3 ∧
      H3 b = some (.lst (ns3.map fun (n : Nat) => V.int (n : Int))) ∧ (∀ (i : Nat) n, ns3[i]? = some n → q3[n]? = some (Sq.even i s)) ∧ l < ns3.length ∧ q3.length ≤ q.length + l + 1) (by walk_at "mono") ?_ ?_
    · refine while_by (fun σ H3 => ∃ (q3 : List Sq) (ns3 : List Nat) (x : Option V), σ = [some (.ref a.g), some (.int (l : Int)), some (.int s), some (.ref b), x] ∧ GStep (CG K) H a rows q H3 r1 q3 ∧
        H3 b = some (.lst (ns3.map fun (n : Nat) => V.int (n : Int))) ∧ (∀ (i : Nat) n, ns3[i]? = some n → q3[n]? = some (Sq.even i s)) ∧ 0 < ns3.length ∧ q3.length + ns2.length ≤ q2.length + ns3.length ∧ (ns3.length ≤ ns2.length ∨ ns3.length ≤ l + 1) ∧ ns2.length ≤ ns3.length)
        (fun σ H3 => match H3 b with | some (.lst xs) => l + 1 - xs.length | _ => 0) ?_ ?_ (by
          have z : MonT (tTest (tOp (rI0 fun i j => V.bl (decide (i ≤ j))) (tCB (rLenS K) (tCons (tVar 3) tNil)) (tVar 1))) := by walk_at "mono"
          exact z)
      · exact ⟨q2, ns2, none, rfl, S2, e3, e4, hpos, Nat.le_refl _, .inl (Nat.le_refl _), Nat.le_refl _⟩
      · rintro σ H3 ⟨q3, ns3, x, rfl, S3, f3, f4, pos3, cnt3, le3, ge3⟩
        have ob3 := S3.gat.ob
        walk_at "rd"
        refine rd_len (SqL.of f3) ?_
        walk_at "rd"
        rw [map_int_len]
        refine ite_d (fun hz => ?_) (fun hz => ?_)
        · walk_at "rd"
          obtain ⟨init, last, rfl⟩ : ∃ init last, ns3 = init ++ [last] := ⟨ns3.dropLast, ns3.getLast (by intro z; simp [z] at pos3), (List.dropLast_concat_getLast _).symm⟩
          have hl1 : q3[last]? = some (Sq.even init.length s) := f4 init.length last (by simp)
          refine rd_ixL (SqL.of f3) (by rw [List.map_append]; exact atI_last _ _) ?_
          walk_at "rd"
          refine rd_tyL f3 ?_
          walk_at "rd"
          refine rd_methR S3.gat.ob (by rfl) ?_
          walk_at "rd"
          have hlen3 : init.length + 1 ≤ l := by simp at hz; omega
          refine ⟨a, r1, q3, Sq.even init.length s, Sq.even init.length s, Sq.even init.length s, Sq.even init.length s, last, last, last, last, rfl, S3.gat, hl1, hl1, hl1, hl1, Sq.wf_even h0 h7 (init.length + 1), by rw [Sq.level_even]; omega, ?_, fun H4 q4 n G4 pre len en fr => ?_⟩
          · simp only [List.length_append, List.length_cons, List.length_nil] at cnt3 le3 ge3
            omega
          walk_at "rd"
          have eb : H4 b = some (.lst ((init ++ [last]).map fun (n : Nat) => V.int (n : Int))) := fr _ _ f3 (row_not5 S3.gat hb)
          refine rd_append eb (by rw [map_int_len]; simp; exact small1000 (by omega)) ?_
          walk_at "rd"
          have S4 := S3.m5 G4 pre fr
          have hv : ∀ (i : Nat) m, ((init ++ [last]) ++ [n])[i]? = some m → q4[m]? = some (Sq.even i s) := fun i m h => by
            by_cases hi : i < (init ++ [last]).length
            · rw [List.getElem?_append_left hi] at h
              exact pre_get pre (f4 i m h)
            · have hi2 := (List.getElem?_eq_some_iff.mp h).1
              have e : i = init.length + 1 := by simp at hi hi2; omega
              subst e
              simp at h
              subst h
              exact en
          have S5 := S4.row hb hv
          simp only [List.length_append, List.length_cons, List.length_nil] at cnt3 le3 ge3
          refine ⟨⟨q4, (init ++ [last]) ++ [n], _, rfl, ?_, ?_, hv, by simp, by simp; omega, by simp; omega, by simp; omega⟩, ?_⟩
          · rw [List.map_append] at S5; exact S5
          · rw [upd_same, List.map_append (l₂ := [n])]; rfl
          · have e1' : ∀ (xs : List V), H3 b = some (.lst xs) → (match H3 b with | some (.lst xs) => l + 1 - xs.length | _ => 0) = l + 1 - xs.length := fun xs e => by rw [e]
            rw [e1' _ f3]
            simp only [upd_same]
            simp
            omega
        · refine ⟨q3, ns3, x, rfl, S3, f3, f4, by omega, ?_⟩
          rcases hcnt with h | ⟨h, h'⟩
          · rcases le3 with h2 | h2 <;> omega
          · rcases le3 with h2 | h2 <;> omega
    rintro σ H3 ⟨q3, ns3, x, rfl, S3, f3, f4, hlt, hq⟩
    obtain ⟨n, hn⟩ : ∃ n, ns3[l]? = some n := ⟨ns3[l], by simp [hlt]⟩
    walk_at "rd"
    refine rd_ixL (SqL.of f3) (atI_nat (map_get (fun (n : Nat) => V.int (n : Int)) hn)) ?_
    exact k H3 r1 q3 n S3 hq (f4 l n hn)
end
end JF

/-! ### the asking methods (no refusal) -/
namespace JF
open PySem PySem.Spec PyProof.Rows L2
section
variable {P : Program} {w : World} {K : PySem.W.Frag} {mg : Str → Option Value} {base : Heap}
theorem at_lt {q : List Sq} {n : Nat} {S : Sq} (h : q[n]? = some S) : n < q.length := (List.getElem?_eq_some_iff.mp h).1
def sp_asked (C : Addr) : Sp := fun vs H Q _ => ∃ (a : GA) (rows : List (Int × Addr)) (q : List Sq) (n : Nat) (S : Sq), vs = [.ref a.g, .int (n : Int)] ∧ GAt C H a rows q ∧ q[n]? = some S ∧ q.length ≤ 16000000 ∧ Q (.int (S.level : Int)) H
theorem mp_asked {C : Addr} : MonP (sp_asked C) := fun vs H Q Q' E h ⟨a, rows, q, n, S, x1, x2, x3, x4, k⟩ => ⟨a, rows, q, n, S, x1, x2, x3, x4, h _ _ k⟩
theorem ok_asked (T : Env fa fn K mg) : Good P w K mg base CX0 2 ("Grove", some "asked") ["self", "square"] (sp_asked (CG K)) := by
  have G_is_whole := ok_is_whole (P := P) (w := w) (base := base) T
  refine good_mk T 9 (d := d_Grove_asked) (N := ["self", "square"]) (ps := ["self", "square"]) rfl rfl sc_Grove_asked (fun _ _ _ _ _ _ us hl => match us, hl with | [_, _], _ => rfl) (fun vs H Q E h => ?_) (fun f cdv A outer s H vs Q E hr h => ?_)
  · obtain ⟨a, rows, q, n, S, rfl, _⟩ := h; rfl
  · obtain ⟨a, rows, q, n, S, rfl, G, hn, hlen, k⟩ := h
    have cl : Cls K (CG K) := T.cls 9
    obtain ⟨na1, na2, na3, na4, na5, na6⟩ := noats T
    have ob := G.ob
    have hlt := at_lt hn
    obtain ⟨tups, mk, spt, D⟩ := G.da
    refine ⟨_, (pss_cons (ps_if (PW.pt (pw_or (pt_not (pt_val (pe_cgK K rfl G_is_whole (hr.mono (by decide)) (T.glo 7) (pa_cons (pv 1) pa_nil)))) (pw_or1 (pt_not (pt_chain op_le op_lt pe_int (pv 1) (pe_gint (T.int 14) rfl)))))) pss_never pss_nil)
      (pss_one (ps_ret (pe_ix (ix_listK K rfl) (pe_fldK K rfl (pv 0) rfl) (pv 1) (fun _ _ => rfl))))), ?_⟩
    walk_at "rd"
    refine ⟨_, rfl, .inl ⟨_, rfl⟩, ?_⟩
    walk_at "rd"
    refine iteF ?_
    walk_at "rd"
    rw [decide_eq_true (show (0 : Int) ≤ (n : Int) by omega)]
    walk_at "rd"
    rw [decide_eq_true (show (n : Int) < 1000000000 by omega)]
    walk_at "rd"
    exact rd_ixL (SqL.of D.hl) (atI_nat (map_get (fun S : Sq => V.int (S.level : Int)) hn)) k
/-- what asks one square, and tells a value: the level and so on -/
def sp_level_of (C : Addr) : Sp := sp_asked C
theorem ok_level_of (T : Env fa fn K mg) : Good P w K mg base CX0 3 ("Grove", some "level_of") ["self", "square"] (sp_level_of (CG K)) := by
  have G_Grove_asked := ok_asked (P := P) (w := w) (base := base) T
  refine good_mk T 13 (d := d_Grove_level_of) (N := ["self", "square"]) (ps := ["self", "square"]) rfl rfl sc_Grove_level_of (fun _ _ _ _ _ _ us hl => match us, hl with | [_, _], _ => rfl) (fun vs H Q E h => ?_) (fun f cdv A outer s H vs Q E hr h => ?_)
  · obtain ⟨a, rows, q, n, S, rfl, _⟩ := h; rfl
  · obtain ⟨a, rows, q, n, S, rfl, G, hn, hlen, k⟩ := h
    have cl : Cls K (CG K) := T.cls 9
    refine ⟨_, (pss_one (ps_ret (pe_mgK K rfl (pv 0) (T.cls 9) (T.meth 18) G_Grove_asked (hr.mono (by decide)) (pa_cons (pv 1) pa_nil)))), ?_⟩
    walk_at "rd"
    refine rd_methR G.ob (by rfl) ?_
    walk_at "rd"
    exact ⟨a, rows, q, n, S, rfl, G, hn, hlen, k⟩
def sp_living (C : Addr) : Sp := fun vs H Q _ => ∃ (a : GA) (rows : List (Int × Addr)) (q : List Sq) (n : Nat) (S : Sq), vs = [.ref a.g, .int (n : Int)] ∧ GAt C H a rows q ∧ q[n]? = some S ∧ q.length ≤ 16000000 ∧ Q (.int S.lives) H
theorem mp_living {C : Addr} : MonP (sp_living C) := fun vs H Q Q' E h ⟨a, rows, q, n, S, x1, x2, x3, x4, k⟩ => ⟨a, rows, q, n, S, x1, x2, x3, x4, h _ _ k⟩
theorem ok_living (T : Env fa fn K mg) : Good P w K mg base CX0 3 ("Grove", some "living") ["self", "square"] (sp_living (CG K)) := by
  have G_Grove_asked := ok_asked (P := P) (w := w) (base := base) T
  refine good_mk T 16 (d := d_Grove_living) (N := ["self", "square"]) (ps := ["self", "square"]) rfl rfl sc_Grove_living (fun _ _ _ _ _ _ us hl => match us, hl with | [_, _], _ => rfl) (fun vs H Q E h => ?_) (fun f cdv A outer s H vs Q E hr h => ?_)
  · obtain ⟨a, rows, q, n, S, rfl, _⟩ := h; rfl
  · obtain ⟨a, rows, q, n, S, rfl, G, hn, hlen, k⟩ := h
    have cl : Cls K (CG K) := T.cls 9
    obtain ⟨na1, na2, na3, na4, na5, na6⟩ := noats T
    have ob := G.ob
    obtain ⟨tups, mk, spt, D⟩ := id G.da
    refine ⟨_, (pss_cons (ps_expr (pe_mgK K rfl (pv 0) (T.cls 9) (T.meth 18) G_Grove_asked (hr.mono (by decide)) (pa_cons (pv 1) pa_nil)))
      (pss_one (ps_ret (pe_ix (ix_listK K rfl) (pe_fldK K rfl (pv 0) rfl) (pv 1) (fun _ _ => rfl))))), ?_⟩
    walk_at "rd"
    refine rd_methR G.ob (by rfl) ?_
    walk_at "rd"
    refine ⟨a, rows, q, n, S, rfl, G, hn, hlen, ?_⟩
    walk_at "rd"
    exact rd_ixL (SqL.of D.hv) (atI_nat (map_get (fun S : Sq => V.int S.lives) hn)) k
def sp_span (C : Addr) : Sp := fun vs H Q _ => ∃ (a : GA) (rows : List (Int × Addr)) (q : List Sq) (n : Nat) (S : Sq), vs = [.ref a.g, .int (n : Int)] ∧ GAt C H a rows q ∧ q[n]? = some S ∧ q.length ≤ 16000000 ∧ ∀ v, SpanV H v S.span → Q v H
theorem mp_span {C : Addr} : MonP (sp_span C) := fun vs H Q Q' E h ⟨a, rows, q, n, S, x1, x2, x3, x4, k⟩ => ⟨a, rows, q, n, S, x1, x2, x3, x4, fun v hv => h _ _ (k v hv)⟩
theorem ok_span (T : Env fa fn K mg) : Good P w K mg base CX0 3 ("Grove", some "span") ["self", "square"] (sp_span (CG K)) := by
  have G_Grove_asked := ok_asked (P := P) (w := w) (base := base) T
  refine good_mk T 17 (d := d_Grove_span) (N := ["self", "square"]) (ps := ["self", "square"]) rfl rfl sc_Grove_span (fun _ _ _ _ _ _ us hl => match us, hl with | [_, _], _ => rfl) (fun vs H Q E h => ?_) (fun f cdv A outer s H vs Q E hr h => ?_)
  · obtain ⟨a, rows, q, n, S, rfl, _⟩ := h; rfl
  · obtain ⟨a, rows, q, n, S, rfl, G, hn, hlen, k⟩ := h
    have cl : Cls K (CG K) := T.cls 9
    obtain ⟨na1, na2, na3, na4, na5, na6⟩ := noats T
    have ob := G.ob
    obtain ⟨tups, mk, spt, D⟩ := id G.da
    refine ⟨_, (pss_cons (ps_expr (pe_mgK K rfl (pv 0) (T.cls 9) (T.meth 18) G_Grove_asked (hr.mono (by decide)) (pa_cons (pv 1) pa_nil)))
      (pss_one (ps_ret (pe_ix (ix_listK K rfl) (pe_fldK K rfl (pv 0) rfl) (pv 1) (fun _ _ => rfl))))), ?_⟩
    walk_at "rd"
    refine rd_methR G.ob (by rfl) ?_
    walk_at "rd"
    refine ⟨a, rows, q, n, S, rfl, G, hn, hlen, ?_⟩
    walk_at "rd"
    have hl : n < spt.length := by rw [D.ls]; exact at_lt hn
    exact rd_ixL (SqL.of D.hs) (atI_nat (by simp [hl] : spt[n]? = some spt[n])) (k _ (D.sp n _ S (by simp [hl]) hn))
/-- the quarters, as the tuple that stands there -/
def sp_quarters (C : Addr) : Sp := fun vs H Q _ => ∃ (a : GA) (rows : List (Int × Addr)) (q : List Sq) (n : Nat) (A B C' D : Sq), vs = [.ref a.g, .int (n : Int)] ∧ GAt C H a rows q ∧ q[n]? = some (.node A B C' D) ∧ q.length ≤ 16000000 ∧
  ∀ (t : Addr) (x y z u : Nat), H t = some (.tup [.int (x : Int), .int (y : Int), .int (z : Int), .int (u : Int)]) → q[x]? = some A → q[y]? = some B → q[z]? = some C' → q[u]? = some D → Q (.ref t) H
theorem mp_quarters {C : Addr} : MonP (sp_quarters C) := fun vs H Q Q' E h ⟨a, rows, q, n, A, B, C', D, x1, x2, x3, x4, k⟩ => ⟨a, rows, q, n, A, B, C', D, x1, x2, x3, x4, fun t x y z u e1 e2 e3 e4 e5 => h _ _ (k t x y z u e1 e2 e3 e4 e5)⟩
theorem ok_quarters (T : Env fa fn K mg) : Good P w K mg base CX0 3 ("Grove", some "quarters") ["self", "square"] (sp_quarters (CG K)) := by
  have G_Grove_asked := ok_asked (P := P) (w := w) (base := base) T
  refine good_mk T 14 (d := d_Grove_quarters) (N := ["self", "square"]) (ps := ["self", "square"]) rfl rfl sc_Grove_quarters (fun _ _ _ _ _ _ us hl => match us, hl with | [_, _], _ => rfl) (fun vs H Q E h => ?_) (fun f cdv A outer s H vs Q E hr h => ?_)
  · obtain ⟨a, rows, q, n, A, B, C', D, rfl, _⟩ := h; rfl
  · obtain ⟨a, rows, q, n, S1, S2, S3, S4, rfl, G, hn, hlen, k⟩ := h
    have cl : Cls K (CG K) := T.cls 9
    obtain ⟨na1, na2, na3, na4, na5, na6⟩ := noats T
    have ob := G.ob
    obtain ⟨tups, mk, spt, D⟩ := id G.da
    refine ⟨_, (pss_cons (ps_if (pt_cmpR op_eq (pe_mgK K rfl (pv 0) (T.cls 9) (T.meth 18) G_Grove_asked (hr.mono (by decide)) (pa_cons (pv 1) pa_nil)) pe_int (nomark _)) pss_never pss_nil)
      (pss_one (ps_ret (pe_ix (ix_listK K rfl) (pe_fldK K rfl (pv 0) rfl) (pv 1) (fun _ _ => rfl))))), ?_⟩
    walk_at "rd"
    refine rd_methR G.ob (by rfl) ?_
    walk_at "rd"
    refine ⟨a, rows, q, n, _, rfl, G, hn, hlen, ?_⟩
    walk_at "rd"
    refine ite_d (fun h => ?_) (fun h => ?_)
    · have : (Sq.node S1 S2 S3 S4).level = S1.level + 1 := rfl
      omega
    walk_at "rd"
    have hl : n < tups.length := by rw [D.lt]; exact at_lt hn
    have hm : n < mk.length := by rw [D.lm]; exact at_lt hn
    obtain ⟨x, y, z, u, e, h1, h2, h3, h4⟩ := D.md n mk[n] _ (by simp [hm]) hn
    have ht := D.tu n tups[n] mk[n] (by simp [hl]) (by simp [hm])
    rw [e] at ht
    refine rd_ixL (SqL.of D.hm) (atI_nat (map_get V.ref (by simp [hl] : tups[n]? = some tups[n]))) ?_
    exact k _ x y z u ht h1 h2 h3 h4
def sp_state_of (C : Addr) : Sp := fun vs H Q _ => ∃ (a : GA) (rows : List (Int × Addr)) (q : List Sq) (n : Nat) (s : Int), vs = [.ref a.g, .int (n : Int)] ∧ GAt C H a rows q ∧ q[n]? = some (.leaf s) ∧ q.length ≤ 16000000 ∧ Q (.int s) H
theorem mp_state_of {C : Addr} : MonP (sp_state_of C) := fun vs H Q Q' E h ⟨a, rows, q, n, S, x1, x2, x3, x4, k⟩ => ⟨a, rows, q, n, S, x1, x2, x3, x4, h _ _ k⟩
theorem ok_state_of (T : Env fa fn K mg) : Good P w K mg base CX0 3 ("Grove", some "state_of") ["self", "square"] (sp_state_of (CG K)) := by
  have G_Grove_asked := ok_asked (P := P) (w := w) (base := base) T
  refine good_mk T 15 (d := d_Grove_state_of) (N := ["self", "square"]) (ps := ["self", "square"]) rfl rfl sc_Grove_state_of (fun _ _ _ _ _ _ us hl => match us, hl with | [_, _], _ => rfl) (fun vs H Q E h => ?_) (fun f cdv A outer s H vs Q E hr h => ?_)
  · obtain ⟨a, rows, q, n, s, rfl, _⟩ := h; rfl
  · obtain ⟨a, rows, q, n, s, rfl, G, hn, hlen, k⟩ := h
    have cl : Cls K (CG K) := T.cls 9
    obtain ⟨na1, na2, na3, na4, na5, na6⟩ := noats T
    have ob := G.ob
    obtain ⟨tups, mk, spt, D⟩ := id G.da
    refine ⟨_, (pss_cons (ps_if (pt_cmpR op_gt (pe_mgK K rfl (pv 0) (T.cls 9) (T.meth 18) G_Grove_asked (hr.mono (by decide)) (pa_cons (pv 1) pa_nil)) pe_int (nomark _)) pss_never pss_nil)
      (pss_one (ps_ret (pe_ix (ix_tupK K rfl) (pe_ix (ix_listK K rfl) (pe_fldK K rfl (pv 0) rfl) (pv 1) (fun _ _ => rfl)) pe_int (fun _ _ => rfl))))), ?_⟩
    walk_at "rd"
    refine rd_methR G.ob (by rfl) ?_
    walk_at "rd"
    refine ⟨a, rows, q, n, _, rfl, G, hn, hlen, ?_⟩
    walk_at "rd"
    refine ite_d (fun h => ?_) (fun h => ?_)
    · have : (Sq.leaf s).level = 0 := rfl
      omega
    walk_at "rd"
    have hl : n < tups.length := by rw [D.lt]; exact at_lt hn
    have hm : n < mk.length := by rw [D.lm]; exact at_lt hn
    have e : mk[n] = [s] := D.md n mk[n] _ (by simp [hm]) hn
    have ht := D.tu n tups[n] mk[n] (by simp [hl]) (by simp [hm])
    rw [e] at ht
    refine rd_ixL (SqL.of D.hm) (atI_nat (map_get V.ref (by simp [hl] : tups[n]? = some tups[n]))) ?_
    walk_at "rd"
    exact k
def sp_leaf (C : Addr) : Sp := sp_cell C
theorem ok_leaf (T : Env fa fn K mg) : Good P w K mg base CX0 3 ("Grove", some "leaf") ["self", "state"] (sp_leaf (CG K)) := by
  have G_Grove_cell := ok_cell (P := P) (w := w) (base := base) T
  have G_is_state := ok_is_state (P := P) (w := w) (base := base) T
  refine good_mk T 10 (d := d_Grove_leaf) (N := ["self", "state"]) (ps := ["self", "state"]) rfl rfl sc_Grove_leaf (fun _ _ _ _ _ _ us hl => match us, hl with | [_, _], _ => rfl) (fun vs H Q E h => ?_) (fun f cdv A outer s H vs Q E hr h => ?_)
  · obtain ⟨a, rows, q, s, rfl, _⟩ := h; rfl
  · obtain ⟨a, rows, q, s, rfl, G, h0, h7, hlen, k⟩ := h
    have cl : Cls K (CG K) := T.cls 9
    refine ⟨_, (pss_cons (ps_if (pt_not (pt_val (pe_cgK K rfl G_is_state (hr.mono (by decide)) (T.glo 16) (pa_cons (pv 1) pa_nil)))) pss_never pss_nil)
      (pss_one (ps_ret (pe_mgK K rfl (pv 0) (T.cls 9) (T.meth 12) G_Grove_cell (hr.mono (by decide)) (pa_cons (pv 1) pa_nil))))), ?_⟩
    walk_at "rd"
    refine ⟨_, rfl, .inl ⟨_, rfl⟩, ?_⟩
    walk_at "rd"
    rw [stateV_ok h0 h7]
    walk_at "rd"
    walk_at "rd"
    refine rd_methR G.ob (by rfl) ?_
    walk_at "rd"
    exact ⟨a, rows, q, s, rfl, G, h0, h7, hlen, k⟩
def sp_solid (C : Addr) : Sp := fun vs H Q _ => ∃ (a : GA) (rows : List (Int × Addr)) (q : List Sq) (l : Nat) (s : Int), vs = [.ref a.g, .int (l : Int), .int s] ∧ GAt C H a rows q ∧ l ≤ 48 ∧ 0 ≤ s ∧ s ≤ 7 ∧ q.length + 100 < 16000000 ∧
  ∀ H' rows' q' (n : Nat), GStep C H a rows q H' rows' q' → q'.length ≤ q.length + l + 1 → q'[n]? = some (Sq.even l s) → Q (.int (n : Int)) H'
theorem mp_even {C : Addr} : MonP (sp_even C) := fun vs H Q Q' E h ⟨a, rows, q, l, s, x1, x2, x3, x4, x5, x6, k⟩ => ⟨a, rows, q, l, s, x1, x2, x3, x4, x5, x6, fun H' r' q' n g p l => h _ _ (k H' r' q' n g p l)⟩
theorem mp_solid {C : Addr} : MonP (sp_solid C) := fun vs H Q Q' E h ⟨a, rows, q, l, s, x1, x2, x3, x4, x5, x6, k⟩ => ⟨a, rows, q, l, s, x1, x2, x3, x4, x5, x6, fun H' r' q' n g p l => h _ _ (k H' r' q' n g p l)⟩
theorem ok_solid (T : Env fa fn K mg) : Good P w K mg base CX0 5 ("Grove", some "solid") ["self", "level", "state"] (sp_solid (CG K)) := by
  have G_Grove_even := ok_even (P := P) (w := w) (base := base) T
  have G_is_state := ok_is_state (P := P) (w := w) (base := base) T
  have G_is_whole := ok_is_whole (P := P) (w := w) (base := base) T
  refine good_mk T 12 (d := d_Grove_solid) (N := ["self", "level", "state"]) (ps := ["self", "level", "state"]) rfl rfl sc_Grove_solid (fun _ _ _ _ _ _ us hl => match us, hl with | [_, _, _], _ => rfl) (fun vs H Q E h => ?_) (fun f cdv A outer σ0 H vs Q E hr h => ?_)
  · obtain ⟨a, rows, q, l, s, rfl, _⟩ := h; rfl
  · obtain ⟨a, rows, q, l, s, rfl, G, hl, h0, h7, hlen, k⟩ := h
    have cl : Cls K (CG K) := T.cls 9
    refine ⟨_, (pss_cons (ps_if (PW.pt (pw_or (pt_not (pt_val (pe_cgK K rfl G_is_whole (hr.mono (by decide)) (T.glo 7) (pa_cons (pv 1) pa_nil)))) (pw_or1 (pt_not (pt_chain op_le op_le pe_int (pv 1) (pe_gint (T.int 19) rfl)))))) pss_never pss_nil)
      (pss_cons (ps_if (pt_not (pt_val (pe_cgK K rfl G_is_state (hr.mono (by decide)) (T.glo 16) (pa_cons (pv 2) pa_nil)))) pss_never pss_nil)
      (pss_one (ps_ret (pe_mgK K rfl (pv 0) (T.cls 9) (T.meth 21) G_Grove_even (hr.mono (by decide)) (pa_cons (pv 1) (pa_cons (pv 2) pa_nil))))))), ?_⟩
    walk_at "rd"
    refine ⟨_, rfl, .inl ⟨_, rfl⟩, ?_⟩
    walk_at "rd"
    refine iteF ?_
    walk_at "rd"
    rw [decide_eq_true (show (0 : Int) ≤ (l : Int) by omega)]
    walk_at "rd"
    rw [decide_eq_true (show (l : Int) ≤ 48 by omega)]
    walk_at "rd"
    refine ⟨_, rfl, .inl ⟨_, rfl⟩, ?_⟩
    walk_at "rd"
    rw [stateV_ok h0 h7]
    walk_at "rd"
    walk_at "rd"
    refine rd_methR G.ob (by rfl) ?_
    walk_at "rd"
    exact ⟨a, rows, q, l, s, rfl, G, by omega, h0, h7, hlen, k⟩
/-- four are joined -/
def sp_joined (C : Addr) : Sp := fun vs H Q _ => ∃ (a : GA) (rows : List (Int × Addr)) (q : List Sq) (A B C' D : Sq) (na nb nc nd : Nat), vs = [.ref a.g, .int (na : Int), .int (nb : Int), .int (nc : Int), .int (nd : Int)] ∧ GAt C H a rows q ∧
  q[na]? = some A ∧ q[nb]? = some B ∧ q[nc]? = some C' ∧ q[nd]? = some D ∧ B.level = A.level ∧ C'.level = A.level ∧ D.level = A.level ∧ A.level ≤ 47 ∧ q.length < 16000000 ∧
  ∀ H' q' (n : Nat), GStep C H a rows q H' rows q' → q'.length ≤ q.length + 1 → q'[n]? = some (.node A B C' D) → Fr a.m5 H H' → Q (.int (n : Int)) H'
theorem mp_joined {C : Addr} : MonP (sp_joined C) := fun vs H Q Q' E h ⟨a, rows, q, A, B, C', D, na, nb, nc, nd, x1, x2, x3, x4, x5, x6, x7, x8, x9, y1, y2, k⟩ => ⟨a, rows, q, A, B, C', D, na, nb, nc, nd, x1, x2, x3, x4, x5, x6, x7, x8, x9, y1, y2, fun H' q' n g p l f => h _ _ (k H' q' n g p l f)⟩
theorem ok_joined (T : Env fa fn K mg) : Good P w K mg base CX0 4 ("Grove", some "joined") ["self", "a", "b", "c", "d"] (sp_joined (CG K)) := by
  have G_Grove_asked := ok_asked (P := P) (w := w) (base := base) T
  have G_Grove_knit := ok_knit (P := P) (w := w) (base := base) T
  refine good_mk T 11 (d := d_Grove_joined) (N := ["self", "a", "b", "c", "d", "levels", "one"]) (ps := ["self", "a", "b", "c", "d"]) rfl rfl sc_Grove_joined (fun _ _ _ _ _ _ us hl => match us, hl with | [_, _, _, _, _], _ => rfl) (fun vs H Q E h => ?_) (fun f cdv A outer s H vs Q E hr h => ?_)
  · obtain ⟨a, rows, q, A, B, C', D, na, nb, nc, nd, rfl, _⟩ := h; rfl
  · obtain ⟨a, rows, q, A, B, C', D, na, nb, nc, nd, rfl, G, ha, hb, hc, hd, l1, l2, l3, hlv, hlen, k⟩ := h
    have cl : Cls K (CG K) := T.cls 9
    have mp1 := mp_asked (C := CG K)
    refine ⟨_, (pss_cons (ps_setLc (i := 5) (own := [("one", 6)]) (tt := tYes) rfl sc_Grove_joined.nd rfl rfl (sw_true rfl rfl rfl (by decide +kernel)) (pi_tupK K rfl (pe_tup (pa_cons (pv 1) (pa_cons (pv 2) (pa_cons (pv 3) (pa_cons (pv 4) pa_nil)))))) (blkOk_by (own := [("one", 6)]) (N := ["self", "a", "b", "c", "d", "levels", "one"]) (sc := defScope st_Grove_joined) (by decide +kernel)) (fun _ _ _ _ _ => by exact (pg_name (i := 6) sc_Grove_joined.nd rfl (Or.inl rfl))) (fun _ _ _ _ _ => by exact pts_nil) (fun _ _ _ _ _ => by exact (pe_mgK K rfl (pv 0) (T.cls 9) (T.meth 18) G_Grove_asked (hr.mono (by decide)) (pa_cons (pv 6) pa_nil))))
      (pss_cons (ps_if (PW.pt (pw_or (pt_cmpR (op_neDK K rfl hr.units) (pv 5) (pe_op op_rep (pe_lst (pa_cons (pe_ix (ix_listK K rfl) (pv 5) pe_int (fun _ _ => rfl)) pa_nil)) pe_int) (nomark _)) (pw_or1 (pt_cmpR op_ge (pe_ix (ix_listK K rfl) (pv 5) pe_int (fun _ _ => rfl)) (pe_gint (T.int 19) rfl) (nomark _))))) pss_never pss_nil)
      (pss_one (ps_ret (pe_mgK K rfl (pv 0) (T.cls 9) (T.meth 13) G_Grove_knit (hr.mono (by decide)) (pa_cons (pv 1) (pa_cons (pv 2) (pa_cons (pv 3) (pa_cons (pv 4) pa_nil))))))))), ?_⟩
    walk_at "rd"
    refine rd_new (hn := by show 4 ≤ sizeLine; decide) fun t ht => ?_
    have sm := same_upd (o := HO.tup [V.int (na : Int), V.int (nb : Int), V.int (nc : Int), V.int (nd : Int)]) ht
    have G1 := G.same sm
    have hT : (upd H t (HO.tup [V.int (na : Int), V.int (nb : Int), V.int (nc : Int), V.int (nd : Int)])) t = some (.tup [V.int (na : Int), V.int (nb : Int), V.int (nc : Int), V.int (nd : Int)]) := upd_same
    generalize hH1 : upd H t (HO.tup [V.int (na : Int), V.int (nb : Int), V.int (nc : Int), V.int (nd : Int)]) = H1 at sm G1 hT ⊢
    refine ⟨t, rfl, ⟨_, SqT.of hT⟩, fun dl hdl => ?_⟩
    have ndl : ∀ b o, H1 b = some o → b ≠ dl := fun b o e => ne_of_none e hdl
    have kl : ∀ xs, Same H1 (upd H1 dl (.lst xs)) := fun xs => same_upd hdl
    refine lc_tup (K := K) (xs := [V.int (na : Int), V.int (nb : Int), V.int (nc : Int), V.int (nd : Int)]) (fun i H' => H' = upd H1 dl (.lst (([(A.level : Int), (A.level : Int), (A.level : Int), (A.level : Int)].map V.int).take i))) rfl (fun i H' _ e => SqT.of (by rw [e]; exact kl _ _ _ hT)) ?_ ?_
    · rintro i x H' hx rfl
      obtain ⟨n, S, rfl, e1, e2, e3⟩ : ∃ (n : Nat) (S : Sq), x = .int (n : Int) ∧ q[n]? = some S ∧ ([(A.level : Int), (A.level : Int), (A.level : Int), (A.level : Int)].map V.int)[i]? = some (V.int (S.level : Int)) ∧ i < 4 := by
        match i, hx with
        | 0, hx => exact ⟨na, A, (Option.some.inj hx).symm, ha, rfl, by omega⟩
        | 1, hx => exact ⟨nb, B, (Option.some.inj hx).symm, hb, by rw [l1]; rfl, by omega⟩
        | 2, hx => exact ⟨nc, C', (Option.some.inj hx).symm, hc, by rw [l2]; rfl, by omega⟩
        | 3, hx => exact ⟨nd, D, (Option.some.inj hx).symm, hd, by rw [l3]; rfl, by omega⟩
      walk_at "rd"
      refine ⟨rfl, ?_⟩
      walk_at "rd"
      refine rd_methR (kl _ _ _ G1.ob) (by rfl) ?_
      walk_at "rd"
      refine ⟨a, rows, q, n, S, rfl, G1.same (kl _), e1, by omega, _, upd_same, ?_, ?_⟩
      · rw [List.length_take]; exact small1000 (by omega)
      · rw [upd_upd, take_snoc e2]
    · rintro H' rfl
      have G2 := G1.same (kl [V.int (A.level : Int), V.int (A.level : Int), V.int (A.level : Int), V.int (A.level : Int)])
      have hL : (upd H1 dl (.lst [V.int (A.level : Int), V.int (A.level : Int), V.int (A.level : Int), V.int (A.level : Int)])) dl = some (.lst ([(A.level : Int), (A.level : Int), (A.level : Int), (A.level : Int)].map V.int)) := upd_same
      have sm2 := sm.trans (kl [V.int (A.level : Int), V.int (A.level : Int), V.int (A.level : Int), V.int (A.level : Int)])
      show tSeq _ _ _ _ (upd H1 dl (.lst [V.int (A.level : Int), V.int (A.level : Int), V.int (A.level : Int), V.int (A.level : Int)]))
      generalize hH2 : upd H1 dl (.lst [V.int (A.level : Int), V.int (A.level : Int), V.int (A.level : Int), V.int (A.level : Int)]) = H2 at G2 hL sm2 ⊢
      walk_at "rd"
      refine rd_ixL (SqL.of hL) (v := .int (A.level : Int)) rfl ?_
      walk_at "rd"
      refine rd_new (hn := by show 1 ≤ sizeLine; decide) fun p1 hp1 => ?_
      walk_at "rd"
      refine rd_rep (xs := [V.int (A.level : Int)]) upd_same (by decide) (by decide) (by show 1 * 4 ≤ sizeLine; decide) fun p2 hp2 => ?_
      have kp1 := same_upd (o := .lst [V.int (A.level : Int)]) hp1
      have kp2 := same_upd (o := .lst (List.replicate (Int.toNat 4) [V.int (A.level : Int)]).flatten) hp2
      refine rd_neDI (ns := [(A.level : Int), (A.level : Int), (A.level : Int), (A.level : Int)]) (ms := [(A.level : Int), (A.level : Int), (A.level : Int), (A.level : Int)]) (SqL.of (kp2 _ _ (kp1 _ _ hL))) (SqL.of upd_same) rfl rfl ?_
      rw [SeqAt.eqv_refl _ rfl]
      walk_at "rd"
      refine rd_ixL (SqL.of (kp2 _ _ (kp1 _ _ hL))) (v := .int (A.level : Int)) rfl ?_
      walk_at "rd"
      refine ite_d (fun h => ?_) (fun h => ?_)
      · omega
      walk_at "rd"
      have G3 := (G2.same kp1).same kp2
      have sm3 := (sm2.trans kp1).trans kp2
      refine rd_methR G3.ob (by rfl) ?_
      walk_at "rd"
      refine ⟨a, rows, q, A, B, C', D, na, nb, nc, nd, rfl, G3, ha, hb, hc, hd, ?_, by omega, hlen, fun H' q' n g p l e f => ?_⟩
      · have wf := G.wf
        exact ⟨wf _ (List.mem_of_getElem? ha), wf _ (List.mem_of_getElem? hb), wf _ (List.mem_of_getElem? hc), wf _ (List.mem_of_getElem? hd), l1, l2, l3⟩
      · exact k H' q' n (((GStep.refl G).same sm3).m5 g p f) l e ((fr_of sm3).trans f)
end
end JF

/-! ### helpers of the laws: the script's numbers, lists of tuples of numbers -/
namespace JF
open PySem PySem.Spec PyProof.Rows L2
/-- tuples of whole numbers, one by one -/
def TR (H : Hp) : List Addr → List (List Int) → Prop
  | [], [] => True
  | r :: rs, x :: xs => H r = some (.tup (x.map V.int)) ∧ TR H rs xs
  | _, _ => False
theorem TR.len {H : Hp} : ∀ {rs : List Addr} {xs : List (List Int)}, TR H rs xs → rs.length = xs.length
  | [], [], _ => rfl
  | r :: rs, x :: xs, h => congrArg (· + 1) (TR.len h.2)
  | [], _ :: _, h => h.elim
  | _ :: _, [], h => h.elim
theorem TR.keep {H H' : Hp} (k : ∀ b ys, H b = some (.tup ys) → H' b = some (.tup ys)) : ∀ {rs : List Addr} {xs : List (List Int)}, TR H rs xs → TR H' rs xs
  | [], [], _ => trivial
  | r :: rs, x :: xs, h => ⟨k _ _ h.1, TR.keep k h.2⟩
  | [], _ :: _, h => h.elim
  | _ :: _, [], h => h.elim
theorem TR.app {H : Hp} {r : Addr} {x : List Int} (hr : H r = some (.tup (x.map V.int))) : ∀ {rs : List Addr} {xs : List (List Int)}, TR H rs xs → TR H (rs ++ [r]) (xs ++ [x])
  | [], [], _ => ⟨hr, trivial⟩
  | _ :: _, _ :: _, h => ⟨h.1, TR.app hr h.2⟩
  | [], _ :: _, h => h.elim
  | _ :: _, [], h => h.elim
theorem TR.get {H : Hp} : ∀ {rs : List Addr} {xs : List (List Int)} {i : Nat} {r : Addr}, TR H rs xs → rs[i]? = some r → ∃ x, xs[i]? = some x ∧ H r = some (.tup (x.map V.int))
  | [], [], _, _, _, e => by simp at e
  | r :: rs, x :: xs, 0, _, h, e => by
    simp only [List.getElem?_cons_zero, Option.some.injEq] at e
    subst e
    exact ⟨x, rfl, h.1⟩
  | r :: rs, x :: xs, i + 1, _, h, e => by
    simp only [List.getElem?_cons_succ] at e ⊢
    exact TR.get h.2 e
  | [], _ :: _, _, _, h, _ => h.elim
  | _ :: _, [], _, _, h, _ => h.elim
/-- a list of tuples of whole numbers -/
def TL (H : Hp) (p : Addr) (xs : List (List Int)) : Prop := ∃ rs : List Addr, H p = some (.lst (rs.map V.ref)) ∧ TR H rs xs
theorem at_get {α : Type} {l : List α} {i : Nat} (h : i < l.length) : l[i]? = some l[i] := by simp [h]
section
variable {K : PySem.W.Frag} {σ : L2.St} {H : Hp} {Q : VK}
/-- [x[c] for x in list] of tuples of numbers -/
theorem rd_colT {L i n : Nat} {c : Int} {p : Addr} {xs : List (List Int)} (hi : i < σ.length) (hv : σ[L]? = some (some (.ref p))) (h : TL H p xs) (hx : ∀ x ∈ xs, x.length = n) (hc0 : 0 ≤ c) (hcn : c.toNat < n) (hz : xs.length ≤ sizeLine)
    (hd : ∀ D, H D = none → Q (.ref D) (upd H D (.lst ((xs.map fun x => x.getD c.toNat 0).map V.int)))) : tLc (iList K (tVar L)) (gName i) tYes (tOp (rIxT K) (tVar i) (tC (.int c))) [i] σ H Q := by
  obtain ⟨rs, hp, ht⟩ := h
  refine ⟨_, hv, p, rfl, ⟨_, SqL.of hp⟩, fun D hD => ?_⟩
  have sm : ∀ o, Same H (upd H D o) := fun o => same_upd hD
  refine lc_list (K := K) (xs := rs.map V.ref) (fun i H' => H' = upd H D (.lst (((xs.take i).map fun x => x.getD c.toNat 0).map V.int))) (by simp) (fun i H' _ e => SqL.of (by rw [e]; exact sm _ _ _ hp)) ?_ ?_
  · rintro j x H' hj rfl
    obtain ⟨r, hr, rfl⟩ : ∃ r, rs[j]? = some r ∧ x = .ref r := by
      rw [List.getElem?_map] at hj
      cases e : rs[j]? with
      | none => rw [e] at hj; cases hj
      | some r => rw [e] at hj; exact ⟨r, rfl, (Option.some.inj hj).symm⟩
    obtain ⟨x, hx1, hx2⟩ := ht.get hr
    have hl := hx x (List.mem_of_getElem? hx1)
    have hlt : c.toNat < x.length := by omega
    have hset : (((wipe σ [i]).set i (some (.ref r)))[i]? : Option (Option V)) = some (some (.ref r)) := by
      rw [List.getElem?_set_self (by rw [wipe_length]; exact hi)]
    refine ⟨by simp only [wipe, List.set_set], ?_⟩
    refine rd_yes (iteT' (rd_op (rd_var hset (rd_c ?_))))
    have e1 : atI (x.map V.int) c = some (V.int (x.getD c.toNat 0)) := by
      obtain ⟨m, rfl⟩ : ∃ m : Nat, c = m := ⟨c.toNat, by omega⟩
      refine atI_nat ?_
      rw [Int.toNat_natCast] at hlt ⊢
      rw [List.getElem?_map, at_get hlt]
      simp [List.getD, hlt]
    refine rd_ixT (SqT.of (sm _ _ _ hx2)) e1 ?_
    refine ⟨_, upd_same, ?_, ?_⟩
    · have hj2 : j < xs.length := (List.getElem?_eq_some_iff.mp hx1).1
      simp only [List.length_map, List.length_take]
      omega
    · rw [upd_upd]
      have : xs.take (j + 1) = xs.take j ++ [x] := by rw [List.take_succ, hx1]; rfl
      rw [this, List.map_append, List.map_append]; rfl
  · rintro H' rfl
    have e : xs.take (rs.map V.ref).length = xs := by rw [List.length_map, ht.len, List.take_length]
    rw [e]
    exact hd D hD
/-- min, max, of a list of numbers -/
theorem rd_min {p : Addr} {ns : List Int} (m0 : Int) (h : H p = some (.lst (ns.map V.int))) (hm : m0 ∈ ns) (hle : ∀ y ∈ ns, m0 ≤ y) (q : Q (.int m0) H) : rMin K [.ref p] H Q :=
  ⟨p, ns, rfl, SqL.of h, List.length_pos_of_mem hm, fun m h1 h2 => by
    have e : m = m0 := Int.le_antisymm (h2 m0 hm) (hle m h1)
    rw [e]; exact q⟩
theorem rd_max {p : Addr} {ns : List Int} (m0 : Int) (h : H p = some (.lst (ns.map V.int))) (hm : m0 ∈ ns) (hle : ∀ y ∈ ns, y ≤ m0) (q : Q (.int m0) H) : rMax K [.ref p] H Q :=
  ⟨p, ns, rfl, SqL.of h, List.length_pos_of_mem hm, fun m h1 h2 => by
    have e : m = m0 := Int.le_antisymm (hle m h1) (h2 m0 hm)
    rw [e]; exact q⟩
/-! lists of tuples, compared -/
theorem dp_tr : ∀ {rs : List Addr} {xs : List (List Int)}, TR H rs xs → DpAll K H (rs.map V.ref) (xs.map fun x => PyData.tuple (x.map PyData.int))
  | [], [], _ => .nil
  | r :: rs, x :: xs, h => .cons (.tup (SqT.of h.1) dp_ints) (dp_tr h.2)
  | [], _ :: _, h => h.elim
  | _ :: _, [], h => h.elim
theorem lay_ints : ∀ x : List Int, PyData.canLayAll0 (x.map PyData.int) = true
  | [] => by simp [PyData.canLayAll0]
  | i :: x => by simp [PyData.canLayAll0, PyData.canLay0, lay_ints x]
theorem depth_ints : ∀ x : List Int, PyData.depthAll (x.map PyData.int) ≤ 1
  | [] => by simp [PyData.depthAll]
  | i :: x => by simp [PyData.depthAll, PyData.depth, depth_ints x]
theorem lay_tr : ∀ xs : List (List Int), PyData.canLayAll0 (xs.map fun x => PyData.tuple (x.map PyData.int)) = true
  | [] => by simp [PyData.canLayAll0]
  | x :: xs => by simp [PyData.canLayAll0, PyData.canLay0, lay_tr xs, lay_ints x]
theorem depth_tr : ∀ xs : List (List Int), PyData.depthAll (xs.map fun x => PyData.tuple (x.map PyData.int)) ≤ 2
  | [] => by simp [PyData.depthAll]
  | x :: xs => by
    have h1 := depth_tr xs
    have h2 := depth_ints x
    simp only [List.map_cons, PyData.depthAll, PyData.depth]
    omega
theorem shaped_tr (xs : List (List Int)) : SeqAt.shaped (.list (xs.map fun x => PyData.tuple (x.map PyData.int))) = true := by
  have h1 := depth_tr xs
  have h2 := lay_tr xs
  have h3 : PyData.depth (.list (xs.map fun x => PyData.tuple (x.map PyData.int))) ≤ 64 := by
    simp only [PyData.depth]
    omega
  unfold SeqAt.shaped
  rw [decide_eq_true h3, Bool.and_true]
  simp only [PyData.canLay0, h2]
theorem TL.same {H H' : Hp} {p : Addr} {xs : List (List Int)} (h : TL H p xs) (s : Same H H') : TL H' p xs := by
  obtain ⟨rs, h1, h2⟩ := h
  exact ⟨rs, s _ _ h1, h2.keep fun _ _ e => s _ _ e⟩
/-- rows == [] -/
theorem rd_eqTL0 {p pe : Addr} {xs : List (List Int)} (h : TL H p xs) (he : H pe = some (.lst [])) (q : Q (.bl (decide (xs = []))) H) : rEqD K (.ref p) (.ref pe) H Q := by
  obtain ⟨rs, h1, h2⟩ := h
  refine ⟨_, _, .lst (SqL.of h1) (dp_tr h2), .lst (SqL.of he) .nil, shaped_tr xs, rfl, ?_⟩
  cases xs with
  | nil => exact q
  | cons x xs => exact q
/-- isinstance(tuple of the law's, tuple) -/
theorem rd_isiT {p : Addr} {xs : List V} (h : H p = some (.tup xs)) (q : Q (.bl true) H) : rIsi K [.ref p, .ty "tuple"] H Q :=
  isi_ty (.base (.tup h)) (by decide +kernel : kitB "tuple" "tuple" = some true) q
theorem rd_isiI {i : Int} (q : Q (.bl true) H) : rIsi K [.int i, .ty "int"] H Q := isi_ty (.base (.int i)) (by decide +kernel : kitB "int" "int" = some true) q
theorem rd_isiB {i : Int} (q : Q (.bl false) H) : rIsi K [.int i, .ty "bool"] H Q := isi_ty (.base (.int i)) (by decide +kernel : kitB "int" "bool" = some false) q
end
theorem sqL_on {K : PySem.W.Frag} {H H' : Hp} {a : Addr} {xs : List V} (h : SqL K H a xs) (e : ∀ o, H a = some o → H' a = some o) : SqL K H' a xs :=
  h.elim (fun h => .inl (h.elim (fun h => .inl (e _ h)) fun ⟨o, h⟩ => .inr ⟨o, e _ h⟩)) fun h => .inr h
theorem walk_r0 {n : Nat} : Walk (Itr 0 n) n (fun _ => True) (YFn fun i => .int (i : Int)) :=
  walk_range.mono (fun _ h => h) fun i H x H' _ _ y => ⟨y.1, y.2.trans (by show V.int (0 + (i : Int)) = V.int (i : Int); rw [Int.zero_add])⟩
def cutI (ns : List Int) (lo hi : Option Int) : List Int := (ns.drop (HT.sIx ns.length 0 lo)).take (HT.sIx ns.length ns.length hi - HT.sIx ns.length 0 lo)
theorem cutV_ints (ns : List Int) (lo hi : Option Int) : cutV (ns.map V.int) lo hi = (cutI ns lo hi).map V.int := by
  unfold cutV cutI
  rw [List.length_map, List.map_take, List.map_drop]
/-- Grove() -/
theorem rd_grove {K : PySem.W.Frag} {σ : L2.St} {H : Hp} {Q : VK} (h : ∀ (a : GA) H', GAt (CG K) H' a [] [] → (∀ b ∈ a.muts [], H b = none) → Same H H' → Q (.ref a.g) H') : tMake (CG K) (sp_ginit (CG K)) [] E0 tNil σ H Q := by
  intro x dx hx hdx hne
  refine ⟨x, dx, rfl, upd_same, fun a H' e G hn hk => ⟨rfl, ?_⟩⟩
  subst e
  have out : ∀ (b u : Addr) (Hx : Hp) (o : HO), upd Hx u o b = none → Hx b = none := fun b u Hx o e => by
    by_cases z : b = u
    · subst z; rw [upd_same] at e; cases e
    · rw [upd_ne z] at e; exact e
  refine h a H' G (fun b hb => out _ _ _ _ (out _ _ _ _ (hn b hb))) fun b o e => ?_
  have b1 : b ≠ a.g := ne_of_none e hx
  have b2 : b ≠ dx := ne_of_none e hdx
  exact hk b o (by rw [upd_ne b1, upd_ne b2]; exact e) b1
/-! #### the asker's own lists beside a grove -/
/-- tuples stay -/
def Tup (H H' : Hp) : Prop := ∀ b ys, H b = some (.tup ys) → H' b = some (.tup ys)
theorem Tup.refl (H : Hp) : Tup H H := fun _ _ h => h
theorem Tup.trans {H H1 H2 : Hp} (x : Tup H H1) (y : Tup H1 H2) : Tup H H2 := fun b ys h => y b ys (x b ys h)
theorem Tup.of {H H' : Hp} (x : Same H H') : Tup H H' := fun b ys h => x b _ h
theorem Tup.put {H : Hp} {p : Addr} {xs : List V} (h : H p = some (.lst xs)) (o : HO) : Tup H (upd H p o) := fun b ys e => by
  rw [upd_ne (by rintro rfl; rw [h] at e; cases e)]; exact e
theorem GStep.tup {C : Addr} {H H1 : Hp} {a : GA} {rows r1 : List (Int × Addr)} {q q1 : List Sq} (x : GStep C H a rows q H1 r1 q1) (G : GAt C H a rows q) : Tup H H1 := fun b ys e => x.fr b _ e (G.tup_out e)
/-- own lists, by their addresses -/
structure OwnL (a : GA) (rows : List (Int × Addr)) (H : Hp) (l : List (Addr × List V)) : Prop where
  nd : (l.map (·.1)).Nodup
  at_ : ∀ p xs, (p, xs) ∈ l → H p = some (.lst xs)
  out : ∀ p xs, (p, xs) ∈ l → p ∉ a.muts rows
theorem OwnL.same {a : GA} {rows : List (Int × Addr)} {H H' : Hp} {l : List (Addr × List V)} (h : OwnL a rows H l) (s : Same H H') : OwnL a rows H' l := ⟨h.nd, fun p xs m => s _ _ (h.at_ p xs m), h.out⟩
theorem OwnL.step {C : Addr} {H H1 : Hp} {a : GA} {rows r1 : List (Int × Addr)} {q q1 : List Sq} {l : List (Addr × List V)} (h : OwnL a rows H l) (x : GStep C H a rows q H1 r1 q1) : OwnL a r1 H1 l :=
  ⟨h.nd, fun p xs m => (x.own (h.at_ p xs m) (h.out p xs m)).1, fun p xs m => (x.own (h.at_ p xs m) (h.out p xs m)).2⟩
theorem OwnL.nil {a : GA} {rows : List (Int × Addr)} {H : Hp} : OwnL a rows H [] := ⟨by simp, fun _ _ m => by simp at m, fun _ _ m => by simp at m⟩
theorem OwnL.new {C : Addr} {a : GA} {rows : List (Int × Addr)} {q : List Sq} {H : Hp} {l : List (Addr × List V)} {p : Addr} {xs : List V} (h : OwnL a rows H l) (G : GAt C H a rows q) (hp : H p = none) : OwnL a rows (upd H p (.lst xs)) ((p, xs) :: l) := by
  refine ⟨?_, fun p' ys m => ?_, fun p' ys m => ?_⟩
  · rw [List.map_cons, List.nodup_cons]
    refine ⟨fun z => ?_, h.nd⟩
    obtain ⟨⟨p', ys⟩, m, e⟩ := List.mem_map.mp z
    have e' : p' = p := e
    subst e'
    rw [h.at_ _ _ m] at hp
    cases hp
  · rcases List.mem_cons.mp m with m | m
    · cases m; exact upd_same
    · exact same_upd hp _ _ (h.at_ _ _ m)
  · rcases List.mem_cons.mp m with m | m
    · cases m; exact G.new_out hp
    · exact h.out _ _ m
theorem OwnL.put {a : GA} {rows : List (Int × Addr)} {H : Hp} {p : Addr} {xs : List V} (l1 l2 : List (Addr × List V)) (ys : List V) (h : OwnL a rows H (l1 ++ (p, xs) :: l2)) : OwnL a rows (upd H p (.lst ys)) (l1 ++ (p, ys) :: l2) := by
  have nd := h.nd
  rw [List.map_append, List.map_cons] at nd
  have ne : ∀ p' zs, (p', zs) ∈ l1 ∨ (p', zs) ∈ l2 → p' ≠ p := fun p' zs m e => by
    subst e
    rw [List.nodup_append, List.nodup_cons] at nd
    rcases m with m | m
    · exact nd.2.2 p' (List.mem_map_of_mem (f := fun x : Addr × List V => x.1) (a := (p', zs)) m) p' List.mem_cons_self rfl
    · exact nd.2.1.1 (List.mem_map_of_mem (f := fun x : Addr × List V => x.1) (a := (p', zs)) m)
  refine ⟨by rw [List.map_append, List.map_cons]; exact nd, fun p' zs m => ?_, fun p' zs m => ?_⟩
  · rcases List.mem_append.mp m with m | m
    · rw [upd_ne (ne p' zs (.inl m))]; exact h.at_ _ _ (List.mem_append_left _ m)
    · rcases List.mem_cons.mp m with m | m
      · cases m; exact upd_same
      · rw [upd_ne (ne p' zs (.inr m))]; exact h.at_ _ _ (List.mem_append_right _ (List.mem_cons_of_mem _ m))
  · rcases List.mem_append.mp m with m | m
    · exact h.out _ _ (List.mem_append_left _ m)
    · rcases List.mem_cons.mp m with m | m
      · cases m; exact h.out _ xs (List.mem_append_right _ List.mem_cons_self)
      · exact h.out _ _ (List.mem_append_right _ (List.mem_cons_of_mem _ m))
theorem GAt.own {C : Addr} {H : Hp} {a : GA} {rows : List (Int × Addr)} {q : List Sq} {l : List (Addr × List V)} {p : Addr} {xs : List V} {o : HO} (G : GAt C H a rows q) (h : OwnL a rows H l) (m : (p, xs) ∈ l) : GAt C (L2.upd H p o) a rows q :=
  G.upd (fun u e => by rw [h.at_ _ _ m] at e; cases e; exact fun z => z) (h.out _ _ m)
theorem OwnL.ix {a : GA} {rows : List (Int × Addr)} {H : Hp} {l : List (Addr × List V)} {p : Addr} {xs : List V} (h : OwnL a rows H l) (i : Nat) (e : l[i]? = some (p, xs)) : H p = some (.lst xs) := h.at_ p xs (List.mem_of_getElem? e)
theorem GAt.ownI {C : Addr} {H : Hp} {a : GA} {rows : List (Int × Addr)} {q : List Sq} {l : List (Addr × List V)} {p : Addr} {xs : List V} (G : GAt C H a rows q) (h : OwnL a rows H l) (i : Nat) (e : l[i]? = some (p, xs)) (o : HO) : GAt C (L2.upd H p o) a rows q := G.own h (List.mem_of_getElem? e)
theorem OwnL.putI {a : GA} {rows : List (Int × Addr)} {H : Hp} {l : List (Addr × List V)} {p : Addr} {xs : List V} (h : OwnL a rows H l) (i : Nat) (e : l[i]? = some (p, xs)) (ys : List V) : OwnL a rows (upd H p (.lst ys)) (l.set i (p, ys)) := by
  obtain ⟨hi, e'⟩ := List.getElem?_eq_some_iff.mp e
  have e1 : l = l.take i ++ (p, xs) :: l.drop (i + 1) := by rw [← e']; simp
  rw [List.set_eq_take_append_cons_drop, if_pos hi]
  rw [e1] at h
  exact h.put (l.take i) (l.drop (i + 1)) ys
theorem OwnL.tup {a : GA} {rows : List (Int × Addr)} {H : Hp} {l : List (Addr × List V)} {p : Addr} {xs : List V} (h : OwnL a rows H l) (i : Nat) (e : l[i]? = some (p, xs)) (o : HO) : Tup H (L2.upd H p o) := Tup.put (h.ix i e) o
section
variable {P : Program} {w : World} {K : PySem.W.Frag} {mg : Str → Option Value} {base : Heap}
def atN (ns : List Int) (k : Nat) : Int := (ns[k]?).getD 0
def sp_at (K : PySem.W.Frag) : Sp := fun vs H Q _ => ∃ (a : Addr) (ns : List Int) (k : Int), vs = [.ref a, .int k] ∧ SqL K H a (ns.map V.int) ∧ 0 ≤ k ∧ Q (.int (atN ns k.toNat)) H
theorem mp_at : MonP (sp_at K) := fun vs H Q Q' E h ⟨a, ns, k, x1, x2, x3, q⟩ => ⟨a, ns, k, x1, x2, x3, h _ _ q⟩
theorem ok_at (T : Env fa fn K mg) : Good P w K mg base CX0 1 ("_law_at", none) ["_law_script", "_law_k"] (sp_at K) := by
  refine good_mk T 18 (d := d_w_at) (N := ["_law_script", "_law_k"]) (ps := ["_law_script", "_law_k"]) rfl rfl sc_w_at (fun _ _ _ _ _ _ us hl => match us, hl with | [_, _], _ => rfl) (fun vs H Q E h => ?_) (fun f cdv A outer s H vs Q E hr h => ?_)
  · obtain ⟨a, ns, k, rfl, _⟩ := h; rfl
  · obtain ⟨a, ns, k, rfl, hs, h0, q⟩ := h
    refine ⟨_, (pss_cons (ps_if (pt_cmpR op_lt (pv 1) (pe_callB (call_lenK K rfl) (by rfl) (T.free 8) (by decide +kernel) (pa_cons (pv 0) pa_nil)) (nomark _)) (pss_one (ps_ret (pe_ix (ix_listK K rfl) (pv 0) (pv 1) (fun _ _ => rfl)))) pss_nil)
      (pss_one (ps_ret pe_int))), ?_⟩
    obtain ⟨m, rfl⟩ : ∃ m : Nat, k = m := ⟨k.toNat, by omega⟩
    rw [Int.toNat_natCast] at q
    walk_at "rd"
    refine rd_len hs ?_
    walk_at "rd"
    rw [List.length_map]
    refine ite_d (fun hk => ?_) (fun hk => ?_)
    · walk_at "rd"
      have hlt : m < ns.length := by omega
      refine rd_ixL hs (v := .int (atN ns m)) (atI_nat ?_) q
      rw [List.getElem?_map, at_get hlt]
      simp [atN, hlt]
    · walk_at "rd"
      have e : atN ns m = 0 := by unfold atN; rw [List.getElem?_eq_none (by omega)]; rfl
      rw [e] at q
      exact q
end
end JF

/-! ### helpers of the laws: dicts by tuples, zips of tuples -/
namespace JF
open PySem PySem.Spec PyProof.Rows L2
section
variable {X : Cx}
/-- d.setdefault(tuple, x), the dict by tuples -/
def rSetdT : V → List V → Hp → VK → Prop := fun u us H Q => ∃ (d t : Addr) (k : List Key) (z : V) (tab : List (List Key × V)), u = .ref d ∧ us = [.ref t, z] ∧ H d = some (.dT tab) ∧ H t = some (.tup (k.map kV)) ∧ tab.length < sizeLine ∧
  (∀ v, valV tab k = some v → Q v H) ∧ (valV tab k = none → Q z (upd H d (.dT (putK tab k z))))
theorem mt_setdT (room : X.A.units + 64 < cLine) : MtR X "dict.setdefault" rSetdT := by
  intro pins s σ H u us uv uvs Q I ru rus h
  obtain ⟨d, t, k, z, tab, rfl, rfl, hd, ht, hlt, there, away⟩ := h
  cases ru
  obtain ⟨kv, zv, rfl, rk, rz⟩ := vals2 rus
  cases rk
  obtain ⟨hle, hsys, ys, tie, dict⟩ := dt_of I.hok hd
  have hys : ys.length ≤ sizeLine := Paired.length tie ▸ hle
  have look := tie.val k
  refine call_setdefault_heap (knd := tupleKind (mixKind X.prog X.w)) (k := k) (tupleKind_room_in1 (by omega)) (key_of I.hok ht) hsys dict ?got ?new hys
  case got =>
    intro p hp
    rw [hp] at look
    cases ev : valV tab k with
    | none => rw [ev] at look; exact False.elim look
    | some v =>
      rw [ev] at look
      exact ⟨v, H, I.tok _, look, there v ev⟩
  case new =>
    intro hn h2 dict2 but
    have ev : valV tab k = none := by
      cases ev : valV tab k with
      | none => rfl
      | some v => rw [hn, ev] at look; exact False.elim look
    obtain ⟨o, es, ep, ho, m1, m2, m3, _, m4⟩ := dict2
    have tie2 : KT (upd H d (.dT (putK tab k z))) (putK tab k z) (storedH ys k t zv) := (tie.put k ht rz).keeps fun b items e => by
      rw [upd_ne (ne_of e hd (fun x => nomatch x))]
      exact e
    have hle2 : (putK tab k z).length ≤ sizeLine := by
      rw [putK_new _ ev, List.length_append]
      exact hlt
    have I2 := d_write (t' := s.toks + (tupleKind (mixKind X.prog X.w)).draws k) I (by rw [hd]; exact True.intro) but ⟨o, ho⟩ (ob := .dT (putK tab k z)) ⟨hle2, hsys, _, tie2, o, es, ep, ho, m1, m2, m3, m4⟩
    exact ⟨z, _, I2, rz, away ev⟩
end
section
variable {X : Cx} {p pos tpos : Pos} {e e2 : Expr} {ta : TA} {elts : List Expr} {kk : Nat}
theorem pi_zipAK (K : PySem.W.Frag) (hK : X.K = K) (hg : Gl X "zip") (hm : X.mg "zip" = none) (ha : PA X [e, e2] ta) (hs : starEach [e, e2] X.env = (false, eval e X.env) :: starEach [e2] X.env := by rfl) (hpl : (backTo pos (starEach [e2] X.env)).any (·.1) = false := by rfl) :
    PI X (.Tuple elts kk tpos) (.Call (.Name "zip" p) [e, e2] [] pos) (RZ.iZipA K ta) := by subst hK; exact RZ.pi_zipA hg hm ha hs hpl
end
section
variable {K : PySem.W.Frag} {σ : L2.St} {H : Hp} {Q : VK}
theorem rd_iZA {tr : TA} {R : It → Hp → Prop} (h : tr σ H fun vs H1 => ∃ a b xs ys, vs = [.ref a, .ref b] ∧ ((SqL K H1 a xs ∧ SqL K H1 b ys ∧ R (Itz K a b) H1) ∨ (SqT K H1 a xs ∧ SqT K H1 b ys ∧ R (RZ.ItzT K a b) H1))) : RZ.iZipA K tr σ H R := h
theorem rd_tyD {l : Addr} {xs : List (Key × V)} {R : Prop} (h1 : H l = some (.dK xs)) (q : R) : tyV K "dict" (.ref l) H ∧ R := ⟨Or.inr (Or.inr (Or.inl ⟨rfl, Or.inl ⟨_, h1⟩⟩)), q⟩
theorem rd_tyDT {l : Addr} {xs : List (List Key × V)} {R : Prop} (h1 : H l = some (.dT xs)) (q : R) : tyV K "dict" (.ref l) H ∧ R := ⟨Or.inr (Or.inr (Or.inl ⟨rfl, Or.inr ⟨_, h1⟩⟩)), q⟩
theorem rd_iK {td : TE} {R : It → Hp → Prop} (h : td σ H fun x H1 => ∃ d o, x = .ref d ∧ ((∃ kvs, H1 d = some (.frz o (.dK kvs)) ∧ R (Itk d o kvs) H1) ∨ ∃ kvs, H1 d = some (.frz o (.dT kvs)) ∧ R (Itkt d o kvs) H1)) : iKeys td σ H R := h
theorem shaped_tup {ns : List Int} : SeqAt.shaped (.tuple (ns.map PyData.int)) = true := by
  have h1 := depth_ints ns
  have h2 := lay_ints ns
  have h3 : PyData.depth (.tuple (ns.map PyData.int)) ≤ 64 := by
    simp only [PyData.depth]
    omega
  unfold SeqAt.shaped
  rw [decide_eq_true h3, Bool.and_true]
  simp only [PyData.canLay0, h2]
theorem rd_neDT {p p' : Addr} {ns ms : List Int} (h1 : H p = some (.tup (ns.map V.int))) (h2 : H p' = some (.tup (ms.map V.int)))
    (q : Q (.bl (!PyData.eqv (.tuple (ns.map PyData.int)) (.tuple (ms.map PyData.int)))) H) : rNeD K (.ref p) (.ref p') H Q := ⟨_, _, .tup (SqT.of h1) dp_ints, .tup (SqT.of h2) dp_ints, shaped_tup, shaped_tup, q⟩
theorem eqvT_refl (ns : List Int) : PyData.eqv (.tuple (ns.map PyData.int)) (.tuple (ns.map PyData.int)) = true := SeqAt.eqv_refl _ (by simp only [PyData.canLay0]; exact lay_ints ns)
end
theorem eqvAll_ints : ∀ ns ms : List Int, PyData.eqvAll (ns.map PyData.int) (ms.map PyData.int) = decide (ns = ms)
  | [], [] => by simp [PyData.eqvAll]
  | [], _ :: _ => by simp [PyData.eqvAll]
  | _ :: _, [] => by simp [PyData.eqvAll]
  | n :: ns, m :: ms => by
    simp only [List.map_cons, PyData.eqvAll, PyData.eqv, eqvAll_ints ns ms, List.cons.injEq]
    by_cases a : n = m <;> by_cases b : ns = ms <;> simp [a, b]
theorem shaped_list {ns : List Int} : SeqAt.shaped (.list (ns.map PyData.int)) = true := by
  have h1 := depth_ints ns
  have h2 := lay_ints ns
  have h3 : PyData.depth (.list (ns.map PyData.int)) ≤ 64 := by
    simp only [PyData.depth]
    omega
  unfold SeqAt.shaped
  rw [decide_eq_true h3, Bool.and_true]
  simp only [PyData.canLay0, h2]
/-- lists, tuples of whole numbers, compared -/
theorem rd_eqLI {K : PySem.W.Frag} {H : Hp} {Q : VK} {p p' : Addr} {ns ms : List Int} (h1 : SqL K H p (ns.map V.int)) (h2 : SqL K H p' (ms.map V.int)) (q : Q (.bl (decide (ns = ms))) H) : rEqD K (.ref p) (.ref p') H Q :=
  rd_eqDI h1 h2 shaped_list shaped_list (by
    have e : PyData.eqv (.list (ns.map PyData.int)) (.list (ms.map PyData.int)) = decide (ns = ms) := by rw [← eqvAll_ints]; simp only [PyData.eqv]
    rw [e]; exact q)
theorem rd_neLI {K : PySem.W.Frag} {H : Hp} {Q : VK} {p p' : Addr} {ns ms : List Int} (h1 : SqL K H p (ns.map V.int)) (h2 : SqL K H p' (ms.map V.int)) (q : Q (.bl (!decide (ns = ms))) H) : rNeD K (.ref p) (.ref p') H Q :=
  rd_neDI h1 h2 shaped_list shaped_list (by
    have e : PyData.eqv (.list (ns.map PyData.int)) (.list (ms.map PyData.int)) = decide (ns = ms) := by rw [← eqvAll_ints]; simp only [PyData.eqv]
    rw [e]; exact q)
theorem rd_neTI {K : PySem.W.Frag} {H : Hp} {Q : VK} {p p' : Addr} {ns ms : List Int} (h1 : H p = some (.tup (ns.map V.int))) (h2 : H p' = some (.tup (ms.map V.int))) (q : Q (.bl (!decide (ns = ms))) H) : rNeD K (.ref p) (.ref p') H Q :=
  rd_neDT h1 h2 (by
    have e : PyData.eqv (.tuple (ns.map PyData.int)) (.tuple (ms.map PyData.int)) = decide (ns = ms) := by rw [← eqvAll_ints]; simp only [PyData.eqv]
    rw [e]; exact q)
theorem mm_setdT : MonM rSetdT := fun x y H Q Q' h ⟨d, t, k, z, tab, e1, e2, e3, e4, e5, q1, q2⟩ => ⟨d, t, k, z, tab, e1, e2, e3, e4, e5, fun v hv => h _ _ (q1 v hv), fun hv => h _ _ (q2 hv)⟩
theorem mr_neD {K : PySem.W.Frag} : MonR (rNeD K) := fun x y H Q Q' h ⟨a, b, e1, e2, e3, e4, q⟩ => ⟨a, b, e1, e2, e3, e4, h _ _ q⟩
theorem mr_eqD {K : PySem.W.Frag} : MonR (rEqD K) := fun x y H Q Q' h ⟨a, b, e1, e2, e3, e4, q⟩ => ⟨a, b, e1, e2, e3, e4, h _ _ q⟩
/-! own objects beside a grove: lists, dicts -/
structure OwnO (a : GA) (rows : List (Int × Addr)) (H : Hp) (l : List (Addr × HO)) : Prop where
  nd : (l.map (·.1)).Nodup
  at_ : ∀ p o, (p, o) ∈ l → H p = some o
  mv : ∀ p o, (p, o) ∈ l → ¬ HO.still o
  out : ∀ p o, (p, o) ∈ l → p ∉ a.muts rows
theorem OwnO.same {a : GA} {rows : List (Int × Addr)} {H H' : Hp} {l : List (Addr × HO)} (h : OwnO a rows H l) (s : Same H H') : OwnO a rows H' l := ⟨h.nd, fun p xs m => s _ _ (h.at_ p xs m), h.mv, h.out⟩
theorem OwnO.step {C : Addr} {H H1 : Hp} {a : GA} {rows r1 : List (Int × Addr)} {q q1 : List Sq} {l : List (Addr × HO)} (h : OwnO a rows H l) (x : GStep C H a rows q H1 r1 q1) : OwnO a r1 H1 l :=
  ⟨h.nd, fun p xs m => (x.own (h.at_ p xs m) (h.out p xs m)).1, h.mv, fun p xs m => (x.own (h.at_ p xs m) (h.out p xs m)).2⟩
theorem OwnO.nil {a : GA} {rows : List (Int × Addr)} {H : Hp} : OwnO a rows H [] := ⟨by simp, fun _ _ m => by simp at m, fun _ _ m => by simp at m, fun _ _ m => by simp at m⟩
theorem OwnO.new {C : Addr} {a : GA} {rows : List (Int × Addr)} {q : List Sq} {H : Hp} {l : List (Addr × HO)} {p : Addr} {o : HO} (h : OwnO a rows H l) (G : GAt C H a rows q) (hp : H p = none) (ho : ¬ HO.still o) : OwnO a rows (upd H p o) ((p, o) :: l) := by
  refine ⟨?_, fun p' ys m => ?_, fun p' ys m => ?_, fun p' ys m => ?_⟩
  · rw [List.map_cons, List.nodup_cons]
    refine ⟨fun z => ?_, h.nd⟩
    obtain ⟨⟨p', ys⟩, m, e⟩ := List.mem_map.mp z
    have e' : p' = p := e
    subst e'
    rw [h.at_ _ _ m] at hp
    cases hp
  · rcases List.mem_cons.mp m with m | m
    · cases m; exact upd_same
    · exact same_upd hp _ _ (h.at_ _ _ m)
  · rcases List.mem_cons.mp m with m | m
    · cases m; exact ho
    · exact h.mv _ _ m
  · rcases List.mem_cons.mp m with m | m
    · cases m; exact G.new_out hp
    · exact h.out _ _ m
theorem OwnO.ix {a : GA} {rows : List (Int × Addr)} {H : Hp} {l : List (Addr × HO)} {p : Addr} {o : HO} (h : OwnO a rows H l) (i : Nat) (e : l[i]? = some (p, o)) : H p = some o := h.at_ p o (List.mem_of_getElem? e)
theorem mem_set {α : Type} {l : List α} {i : Nat} {y x : α} (h : x ∈ l.set i y) : x = y ∨ ∃ j, j ≠ i ∧ l[j]? = some x := by
  obtain ⟨j, hj, e⟩ := List.mem_iff_getElem.mp h
  by_cases z : i = j
  · subst z; left; rw [← e, List.getElem_set_self]
  · right
    refine ⟨j, Ne.symm z, ?_⟩
    rw [List.getElem_set_ne z] at e
    rw [List.length_set] at hj
    rw [at_get hj, e]
theorem OwnO.ne {a : GA} {rows : List (Int × Addr)} {H : Hp} {l : List (Addr × HO)} (h : OwnO a rows H l) {i j : Nat} {p p' : Addr} {o o' : HO} (e : l[i]? = some (p, o)) (e' : l[j]? = some (p', o')) (n : j ≠ i) : p' ≠ p := fun z => by
  obtain ⟨hi, ei⟩ := List.getElem?_eq_some_iff.mp e
  obtain ⟨hj, ej⟩ := List.getElem?_eq_some_iff.mp e'
  exact n ((List.getElem_inj (xs := l.map (·.1)) (h₀ := by simpa using hj) (h₁ := by simpa using hi) h.nd).mp (by simp [ei, ej, z]))
theorem OwnO.put {a : GA} {rows : List (Int × Addr)} {H : Hp} {l : List (Addr × HO)} {p : Addr} {o : HO} (h : OwnO a rows H l) (i : Nat) (e : l[i]? = some (p, o)) (o' : HO) (ho : ¬ HO.still o') : OwnO a rows (upd H p o') (l.set i (p, o')) := by
  have nd' : ((l.set i (p, o')).map (·.1)) = l.map (·.1) := by
    rw [List.map_set]
    obtain ⟨hi, ei⟩ := List.getElem?_eq_some_iff.mp e
    refine List.ext_getElem (by simp) fun j h1 h2 => ?_
    by_cases z : i = j
    · subst z; simp [ei]
    · rw [List.getElem_set_ne z]
  have cases_ : ∀ p' u, (p', u) ∈ l.set i (p, o') → (p' = p ∧ u = o') ∨ (p' ≠ p ∧ (p', u) ∈ l) := fun p' u m => by
    rcases mem_set m with m | ⟨j, hj, m⟩
    · cases m; exact .inl ⟨rfl, rfl⟩
    · exact .inr ⟨h.ne e m hj, List.mem_of_getElem? m⟩
  refine ⟨by rw [nd']; exact h.nd, fun p' u m => ?_, fun p' u m => ?_, fun p' u m => ?_⟩
  · rcases cases_ p' u m with ⟨rfl, rfl⟩ | ⟨n, m⟩
    · exact upd_same
    · rw [upd_ne n]; exact h.at_ _ _ m
  · rcases cases_ p' u m with ⟨rfl, rfl⟩ | ⟨n, m⟩
    · exact ho
    · exact h.mv _ _ m
  · rcases cases_ p' u m with ⟨rfl, rfl⟩ | ⟨n, m⟩
    · exact h.out _ o (List.mem_of_getElem? e)
    · exact h.out _ _ m
theorem GAt.ownO {C : Addr} {H : Hp} {a : GA} {rows : List (Int × Addr)} {q : List Sq} {l : List (Addr × HO)} {p : Addr} {o : HO} (G : GAt C H a rows q) (h : OwnO a rows H l) (i : Nat) (e : l[i]? = some (p, o)) (o' : HO) : GAt C (L2.upd H p o') a rows q :=
  G.upd (fun u e' => by rw [h.ix i e] at e'; cases e'; exact h.mv _ _ (List.mem_of_getElem? e)) (h.out _ _ (List.mem_of_getElem? e))
theorem OwnO.tup {a : GA} {rows : List (Int × Addr)} {H : Hp} {l : List (Addr × HO)} {p : Addr} {o : HO} (h : OwnO a rows H l) (i : Nat) (e : l[i]? = some (p, o)) (o' : HO) : Tup H (L2.upd H p o') := fun b ys e' => by
  rw [upd_ne (by rintro rfl; rw [h.ix i e] at e'; cases e'; exact h.mv _ _ (List.mem_of_getElem? e) trivial)]; exact e'
/-! the law's promise -/
def sp_law (K : PySem.W.Frag) : Sp := fun vs H Q _ => ∃ (a : Addr) (ns : List Int), vs = [.ref a] ∧ SqL K H a (ns.map V.int) ∧ ns.length ≤ 63 ∧ Only H ∧ ∀ H', Q (.bl true) H'
theorem sp_law_in {K : PySem.W.Frag} (H : Hp) (a : Addr) (ns : List Int) (hl : ns.length ≤ 63) (hO : Only H) (hS : SqL K H a (ns.map V.int)) : sp_law K [.ref a] H (fun v _ => v = .bl true) (fun _ _ _ => False) := ⟨a, ns, rfl, hS, hl, hO, fun _ => rfl⟩
theorem shl_ok {i : Nat} : (1 : Int) * 2 ^ ((i : Int)).toNat = 2 ^ i := by rw [Int.one_mul, Int.toNat_natCast]
/-! solid squares: what lives, the span -/
theorem even_none : ∀ l : Nat, (Sq.even l 0).lives = 0 ∧ (Sq.even l 0).span = none
  | 0 => ⟨rfl, rfl⟩
  | l + 1 => by
    obtain ⟨h1, h2⟩ := even_none l
    refine ⟨?_, ?_⟩
    · show (Sq.even l 0).lives + (Sq.even l 0).lives + (Sq.even l 0).lives + (Sq.even l 0).lives = 0
      rw [h1]; rfl
    · show r4 _ (Sq.even l 0).span (Sq.even l 0).span (Sq.even l 0).span (Sq.even l 0).span = none
      rw [h2]; rfl
theorem even_some {s : Int} (hs : s ≠ 0) : ∀ l : Nat, (Sq.even l s).lives = 2 ^ l * 2 ^ l ∧ (Sq.even l s).span = some (0, 0, 2 ^ l, 2 ^ l)
  | 0 => by simp [Sq.even, Sq.lives, Sq.span, hs]
  | l + 1 => by
    obtain ⟨h1, h2⟩ := even_some hs l
    have e : (2 : Int) ^ (l + 1) = 2 * 2 ^ l := by rw [Int.pow_succ]; omega
    have h0 : (0 : Int) < 2 ^ l := Int.pow_pos (by decide)
    refine ⟨?_, ?_⟩
    · show (Sq.even l s).lives + (Sq.even l s).lives + (Sq.even l s).lives + (Sq.even l s).lives = _
      rw [h1, e]
      generalize (2 : Int) ^ l = h
      have e2 : 2 * h * (2 * h) = 4 * (h * h) := by rw [Int.mul_assoc, Int.mul_left_comm h 2 h, ← Int.mul_assoc]; rfl
      rw [e2]; omega
    · show r4 (2 ^ (Sq.even l s).level) (Sq.even l s).span (Sq.even l s).span (Sq.even l s).span (Sq.even l s).span = _
      rw [h2, Sq.level_even, e]
      generalize (2 : Int) ^ l = h at h0
      simp only [r4, r4step, rb, Option.some.injEq, Prod.mk.injEq]
      refine ⟨?_, ?_, ?_, ?_⟩ <;> omega
theorem even_inj {s s' : Int} : ∀ {l l' : Nat}, Sq.even l s = Sq.even l' s' → l = l' ∧ s = s'
  | 0, 0, h => by cases h; exact ⟨rfl, rfl⟩
  | 0, _ + 1, h => by cases h
  | _ + 1, 0, h => by cases h
  | l + 1, l' + 1, h => by
    injection h with h1
    obtain ⟨a, b⟩ := even_inj h1
    exact ⟨by rw [a], b⟩
theorem pow64 {i : Nat} (h : i ≤ 60) : (0 : Int) < 2 ^ i ∧ (2 : Int) ^ i < 2 ^ 64 := by
  refine ⟨Int.pow_pos (by decide), ?_⟩
  have e2 : 2 ^ i < 2 ^ 64 := Nat.pow_lt_pow_right (by decide) (by omega)
  exact_mod_cast e2
theorem sq_ok {i : Nat} (h : i ≤ 60) : CMulW ((2 : Int) ^ i) (2 ^ i) := by
  obtain ⟨h1, h2⟩ := pow64 h
  have e1 : (2 : Int) ^ 64 ≤ 2 ^ 2000 := by decide +kernel
  exact mulW_of (by omega) (by omega) (by omega) (by omega)
section
variable {P : Program} {w : World} {K : PySem.W.Frag} {mg : Str → Option Value} {base : Heap}
def sp_same : Sp := fun vs H Q _ => ∃ i d : Int, vs = [.int i, .int d] ∧ Q (.bl (decide (i = d))) H
theorem mp_same : MonP sp_same := fun vs H Q Q' E h ⟨i, d, x1, q⟩ => ⟨i, d, x1, h _ _ q⟩
theorem sp_sameT {i : Int} {H : Hp} {Q : VK} {E : XK} (q : Q (.bl true) H) : sp_same [.int i, .int i] H Q E := ⟨i, i, rfl, by rw [decide_eq_true rfl]; exact q⟩
end
end JF

/-! ### helpers of the laws: the script beside a grove -/
namespace JF
open PySem PySem.Spec PyProof.Rows L2
/-- the script stays as it was, and is none of the grove's own -/
def Scr (H0 : Hp) (a0 : Addr) (a : GA) (rows : List (Int × Addr)) (H : Hp) : Prop := ∀ o, H0 a0 = some o → H a0 = some o ∧ a0 ∉ a.muts rows
theorem Scr.new {H0 H1 : Hp} {a0 : Addr} {a : GA} (hnew : ∀ b ∈ a.muts [], H0 b = none) (sm : Same H0 H1) : Scr H0 a0 a [] H1 := fun o e => ⟨sm _ _ e, fun z => by
  have y := hnew _ z
  rw [e] at y
  cases y⟩
theorem Scr.same {H0 H H' : Hp} {a0 : Addr} {a : GA} {rows : List (Int × Addr)} (h : Scr H0 a0 a rows H) (s : Same H H') : Scr H0 a0 a rows H' := fun o e => ⟨s _ _ (h o e).1, (h o e).2⟩
theorem Scr.step {C : Addr} {H0 H H1 : Hp} {a0 : Addr} {a : GA} {rows r1 : List (Int × Addr)} {q q1 : List Sq} (h : Scr H0 a0 a rows H) (x : GStep C H a rows q H1 r1 q1) : Scr H0 a0 a r1 H1 := fun o e => x.own (h o e).1 (h o e).2
theorem Scr.put {H0 H : Hp} {a0 p : Addr} {a : GA} {rows : List (Int × Addr)} {xs : List V} {o' : HO} (h : Scr H0 a0 a rows H) (hO : Only H0) (hp : H p = some (.lst xs)) : Scr H0 a0 a rows (upd H p o') := fun o e => by
  refine ⟨?_, (h o e).2⟩
  rw [upd_ne]
  · exact (h o e).1
  · rintro rfl
    rw [(h o e).1] at hp
    cases hp
    rcases hO a0 with z | ⟨u, ys, z⟩
    · rw [z] at e; cases e
    · rw [z] at e; cases e
theorem Scr.sq {K : PySem.W.Frag} {H0 H : Hp} {a0 : Addr} {a : GA} {rows : List (Int × Addr)} {xs : List V} (h : Scr H0 a0 a rows H) (hS : SqL K H0 a0 xs) : SqL K H a0 xs := sqL_on hS fun o e => (h o e).1
/-- the number read at a place -/
theorem rd_at {K : PySem.W.Frag} {H : Hp} {Q : VK} {E : XK} {a0 : Addr} {ns : List Int} {k : Int} (hs : SqL K H a0 (ns.map V.int)) (h0 : 0 ≤ k) (q : Q (.int (atN ns k.toNat)) H) : sp_at K [.ref a0, .int k] H Q E := ⟨a0, ns, k, rfl, hs, h0, q⟩
theorem nat_of {z : Int} (h : 0 ≤ z) : ∃ n : Nat, z = (n : Int) := ⟨z.toNat, by omega⟩
/-- range(i, j, c), small and upwards -/
theorem rgc_up {i j c : Int} (h1 : 0 ≤ i) (h2 : i ≤ 1000) (h3 : 0 ≤ j) (h4 : j ≤ 1000) (h5 : 1 ≤ c) (h6 : c ≤ 1000) : ∃ n : Nat, RgC i j c n ∧ ∀ k : Nat, k < n → i + (k : Int) * c < j := by
  have hq : 0 ≤ (j - i + c - 1) / c ∨ j ≤ i := by
    rcases Int.lt_or_le i j with h | h
    · left; exact Int.ediv_nonneg (by omega) (by omega)
    · exact .inr h
  have hle : (j - i + c - 1) / c ≤ 3000 := by
    rcases Int.lt_or_le (j - i + c - 1) 0 with h | h
    · have := Int.ediv_neg_of_neg_of_pos h (by omega : 0 < c); omega
    · exact Int.le_trans (Int.ediv_le_self _ h) (by omega)
  have es : Builtin.Range.rangeSize i j c = if i < j then (j - i - 1) / c + 1 else 0 := by
    unfold Builtin.Range.rangeSize
    rw [if_pos (by omega : c > 0)]
  have hdn : i < j → 0 ≤ (j - i - 1) / c := fun h => Int.ediv_nonneg (by omega) (by omega)
  have hdl : i < j → (j - i - 1) / c ≤ 1000 := fun h => Int.le_trans (Int.ediv_le_self _ (by omega)) (by omega)
  refine ⟨(Builtin.Range.rangeSize i j c).toNat, ⟨by omega, by omega, ?_, ?_⟩, fun k hk => ?_⟩
  · unfold Builtin.Range.small
    rw [es]
    simp only [Builtin.Range.rangeFitsLong, Bool.and_eq_true, Bool.or_eq_true, decide_eq_true_eq, beq_iff_eq, show c > 0 by omega, if_true]
    split
    · have a := hdn (by assumption); have b := hdl (by assumption); omega
    · omega
  · rw [es]
    split
    · have a := hdn (by assumption); omega
    · rfl
  · rw [es] at hk
    split at hk
    · have a := hdn (by assumption)
      have e := Int.mul_ediv_add_emod (j - i - 1) c
      have r := Int.emod_nonneg (j - i - 1) (by omega : c ≠ 0)
      have hk' : (k : Int) ≤ (j - i - 1) / c := by omega
      have hm : (k : Int) * c ≤ (j - i - 1) / c * c := Int.mul_le_mul_of_nonneg_right hk' (by omega)
      rw [Int.mul_comm ((j - i - 1) / c) c] at hm
      omega
    · omega
theorem rd_rng3 {i j c : Int} {R : It → Prop} (h1 : 0 ≤ i) (h2 : i ≤ 1000) (h3 : 0 ≤ j) (h4 : j ≤ 1000) (h5 : 1 ≤ c) (h6 : c ≤ 1000) (h : ∀ n : Nat, (∀ k : Nat, k < n → i + (k : Int) * c < j) → R (Itc i c n)) : ∃ (i' j' c' : Int) (n : Nat), [V.int i, V.int j, V.int c] = [.int i', .int j', .int c'] ∧ RgC i' j' c' n ∧ R (Itc i' c' n) := by
  obtain ⟨n, a, b⟩ := rgc_up h1 h2 h3 h4 h5 h6
  exact ⟨i, j, c, n, rfl, a, h n b⟩
end JF

/-! ### walks that the hand layer lacks: zip over lists and tuples alike, enumerate of a text -/
namespace JF
open PySem PySem.Spec PyProof.Rows L2
/-- a tuple, or a list -/
def sqB (t : Bool) (K : PySem.W.Frag) (H : Hp) (a : Addr) (xs : List V) : Prop := match t with
  | true => SqT K H a xs
  | false => SqL K H a xs
def isB (t : Bool) (h : Heap) (a : Addr) (its : Array Value) : Prop := match t with
  | true => h.IsTuple a its
  | false => h.IsList a its
def itB (t : Bool) (h : Heap) (it a : Addr) (i : Nat) : Prop := match t with
  | true => h.IsTupleIter it a i
  | false => h.IsListIter it a i
def obB (t : Bool) (a : Addr) : Obj := match t with
  | true => { cls := .type "tuple_iterator", data := .fields #[.ref a, .int 0 0] }
  | false => { cls := .type "list_iterator", data := .fields #[.ref a, .int 0 0] }
theorem itB.obj {t : Bool} {h : Heap} {it a : Addr} {i : Nat} (s : itB t h it a i) : ∃ o vs, h.get? it = some o ∧ o.data = .fields vs := by
  cases t with
  | true => obtain ⟨o, e, _, d⟩ := s; exact ⟨o, _, e, d⟩
  | false => obtain ⟨o, e, _, d⟩ := s; exact ⟨o, _, e, d⟩
theorem itB.at {t : Bool} {h h' : Heap} {it a : Addr} {i : Nat} (s : itB t h it a i) (k : ∀ o, h.get? it = some o → h'.get? it = some o) : itB t h' it a i := by
  cases t with
  | true => exact Heap.IsTupleIter.at s k
  | false => exact Heap.IsListIter.at s k
theorem isB.at {t : Bool} {h h' : Heap} {a : Addr} {its : Array Value} (s : isB t h a its) (k : ∀ o, h.get? a = some o → h'.get? a = some o) : isB t h' a its := by
  cases t with
  | true => exact Heap.IsTuple.at s k
  | false => exact Heap.IsList.at s k
theorem isB.lt {t : Bool} {h : Heap} {a : Addr} {its : Array Value} (s : isB t h a its) : a < h.objs.size := by
  cases t with
  | true => obtain ⟨o, e, _⟩ := s; exact Heap.lt_size e
  | false => obtain ⟨o, e, _⟩ := s; exact Heap.lt_size e
theorem isB.ne {t u : Bool} {h : Heap} {a b it : Addr} {i : Nat} {its : Array Value} (p : isB t h a its) (s : itB u h it b i) : a ≠ it := fun q => by
  obtain ⟨o', vs, e', d'⟩ := s.obj
  rw [← q] at e'
  cases t with
  | true => obtain ⟨o, e, _, n, d⟩ := p; rw [e] at e'; cases e'; rw [d] at d'; cases d'
  | false => obtain ⟨o, e, _, n, d⟩ := p; rw [e] at e'; cases e'; rw [d] at d'; cases d'
theorem drawsB {P : Program} {w : World} {A : Around} (hh : A.handled = none) (t : Bool) (it a : Addr) (hne : a ≠ it) (its : Array Value) :
    Draws P w A it [it, a] its.size (fun i v => its[i]? = some v) (fun i h => itB t h it a i ∧ isB t h a its) := by
  cases t with
  | true => exact Draws.tuple hh it a hne its
  | false => exact Draws.list hh it a hne its
theorem beginsB (t : Bool) (a : Addr) (its : Array Value) : Begins (.ref a) (obB t a) fun h => isB t h a its := by
  cases t with
  | true => exact begins_tuple a its
  | false => exact begins_list a its
theorem itB0 {t : Bool} {h : Heap} {it a : Addr} (e : h.get? it = some (obB t a)) : itB t h it a 0 := by
  cases t with
  | true => exact ⟨_, e, rfl, rfl⟩
  | false => exact ⟨_, e, rfl, rfl⟩
theorem sqB_inv {X : Cx} {pins : List (Addr × Obj)} {σ : L2.St} {H : Hp} {s : Shared} {t : Bool} {a : Addr} {xs : List V} (I : Inv X pins σ H s) (h : sqB t X.K H a xs) : ∃ its : List Value, Vals xs its ∧ isB t s.heap a its.toArray := by
  cases t with
  | true => obtain ⟨its, r, p, _⟩ := I.tuple h; exact ⟨its, r, p⟩
  | false => obtain ⟨its, r, p, _⟩ := I.list h; exact ⟨its, r, p.isList⟩
theorem sqB_inj {X : Cx} {pins : List (Addr × Obj)} {σ : L2.St} {H : Hp} {s : Shared} {t : Bool} {a : Addr} {xs ys : List V} (I : Inv X pins σ H s) (h : sqB t X.K H a xs) (h' : sqB t X.K H a ys) : xs = ys := by
  cases t with
  | true => exact I.tuple_inj h h'
  | false => exact I.list_inj h h'
/-- the things at a and b, in step, each turn a new pair -/
def ItzQ (K : PySem.W.Frag) (t u : Bool) (a b : Addr) : It :=
  ⟨fun i H => ∃ (xs ys : List V) (x y : V), sqB t K H a xs ∧ sqB u K H b ys ∧ xs[i]? = some x ∧ ys[i]? = some y,
    fun i H v H' => ∃ T x y, v = .ref T ∧ H T = none ∧ H' = upd H T (.tup [x, y]) ∧ (∀ xs, sqB t K H a xs → xs[i]? = some x) ∧ ∀ ys, sqB u K H b ys → ys[i]? = some y,
    fun i H => ∃ xs ys : List V, sqB t K H a xs ∧ sqB u K H b ys ∧ i ≤ xs.length ∧ i ≤ ys.length ∧ (xs.length = i ∨ ys.length = i)⟩
theorem turn_zipQ {P : Program} {w : World} {K : PySem.W.Frag} {elts : List Expr} {kk : Nat} {tpos : Pos} {t u : Bool} {a b z TI TO i1 i2 : Addr} (D : ZipSep2 z TI TO i1 i2 [i1, a] [i2, b]) :
    Turn P w K (.Tuple elts kk tpos) (ItzQ K t u a b) [z, TI, TO, i1, i2] z (fun i h => IsZip h z TI TO .none ∧ IsPair h TI (.ref i1) (.ref i2) ∧ (∃ x y, IsPair h TO x y) ∧ itB t h i1 a i ∧ itB u h i2 b i) where
  mem := by simp
  obj := fun i h st c hc => by
    obtain ⟨hz, hI, ⟨x, y, hO⟩, h1, h2⟩ := st
    obtain ⟨o1, v1, e1, d1⟩ := h1.obj
    obtain ⟨o2, v2, e2, d2⟩ := h2.obj
    have five : c = z ∨ c = TI ∨ c = TO ∨ c = i1 ∨ c = i2 := by simpa using hc
    rcases five with rfl | rfl | rfl | rfl | rfl
    · exact ⟨_, hz, fun v q => nomatch q⟩
    · exact ⟨_, hI, fun v q => nomatch q⟩
    · exact ⟨_, hO, fun v q => nomatch q⟩
    · exact ⟨o1, e1, fun v q => by rw [d1] at q; cases q⟩
    · exact ⟨o2, e2, fun v q => by rw [d2] at q; cases q⟩
  keep := fun i h h' st k => by
    obtain ⟨hz, hI, ⟨x, y, hO⟩, h1, h2⟩ := st
    exact ⟨k _ (by simp) _ hz, k _ (by simp) _ hI, ⟨x, y, k _ (by simp) _ hO⟩, h1.at fun o => k _ (by simp) o, h2.at fun o => k _ (by simp) o⟩
  item := by
    intro X eP ew eK hc i pins s σ H E I hf st hg
    subst eP ew eK
    obtain ⟨hz, hI, ⟨x0, y0, hO⟩, h1, h2⟩ := st
    obtain ⟨xs, ys, x, y, qa, qb, hx, hy⟩ := hg
    obtain ⟨its, rv, p⟩ := sqB_inv I qa
    obtain ⟨its2, rv2, p2⟩ := sqB_inv I qb
    obtain ⟨v, hv, ru⟩ := rv.get hx
    obtain ⟨v2, hv2, ru2⟩ := rv2.get hy
    have l1 : i < its.toArray.size := by rw [List.size_toArray]; exact (List.getElem?_eq_some_iff.mp hv).1
    have l2 : i < its2.toArray.size := by rw [List.size_toArray]; exact (List.getElem?_eq_some_iff.mp hv2).1
    have zl := Heap.lt_size hz
    obtain ⟨o1, _, e1, _⟩ := h1.obj
    obtain ⟨o2, _, e2, _⟩ := h2.obj
    have na : a ≠ i1 := p.ne h1
    have nb : b ≠ i2 := p2.ne h2
    refine wpAny_pyNext_zipD2_item D (drawsB (P := X.prog) (w := X.w) (A := X.A.in1) (show X.A.in1.handled = none from I.ok.hd hc) t i1 a na its.toArray) (drawsB (P := X.prog) (w := X.w) (A := X.A.in1) (show X.A.in1.handled = none from I.ok.hd hc) u i2 b nb its2.toArray) hz hI hO ⟨h1, p⟩ ⟨h2, p2⟩ l1 l2 fun w1 w2 g tk m1 m2 z' tO d1 d2 hT hsz hk => ?_
    have ew1 : w1 = v := by
      have q : its.toArray[i]? = some v := by simpa using hv
      exact Option.some.inj (m1.symm.trans q)
    have ew2 : w2 = v2 := by
      have q : its2.toArray[i]? = some v2 := by simpa using hv2
      exact Option.some.inj (m2.symm.trans q)
    subst ew1 ew2
    refine ⟨_, rfl, wpAny_letOwnedTupleGo_zip (s := { s with heap := g, toks := tk }) z' fun g2 z2 sb => ?_⟩
    have hT2 : g2.get? s.heap.objs.size = some { cls := .type "tuple", data := .seq #[w1, w2] } := (sb.2 _ (Nat.ne_of_gt zl)).trans hT
    have hob : ObjOk X.prog X.w (upd H s.heap.objs.size (.tup [x, y])) g2 s.heap.objs.size (.tup [x, y]) :=
      ⟨by show 2 ≤ sizeLine; decide, [w1, w2], .cons ru (.cons ru2 .nil), _, hT2, rfl, _, rfl⟩
    have kk : ∀ c o, c ∉ [z, TI, TO, i1, i2] → s.heap.get? c = some o → g2.get? c = some o := fun c o hb e => by
      simp only [List.mem_cons, List.not_mem_nil, or_false, not_or] at hb
      exact (sb.2 c hb.1).trans (hk c o hb.1 hb.2.2.1 hb.2.2.2.1 hb.2.2.2.2 e)
    refine ⟨.ref s.heap.objs.size, _, I.turnedNew (t' := tk) kk hf (Nat.le_refl _) hob, rfl, ⟨_, x, y, rfl, I.hok.fresh (Nat.le_refl _), rfl, fun l hl => by rw [sqB_inj I hl qa]; exact hx, fun l hl => by rw [sqB_inj I hl qb]; exact hy⟩, ⟨z2, ?_, ⟨w1, w2, ?_⟩, ?_, ?_⟩, fun c hcm => ?_⟩
    · exact Eq.trans (sb.2 _ D.TIz) (hk _ _ D.TIz D.TITO D.TIi1 D.TIi2 hI)
    · exact (sb.2 _ D.TOz).trans tO
    · exact d1.1.at fun o q => (sb.2 _ (Ne.symm D.zi1)).trans q
    · exact d2.1.at fun o q => (sb.2 _ (Ne.symm D.zi2)).trans q
    · have lt : c < s.heap.objs.size := by
        have five : c = z ∨ c = TI ∨ c = TO ∨ c = i1 ∨ c = i2 := by simpa using hcm
        rcases five with rfl | rfl | rfl | rfl | rfl
        · exact zl
        · exact Heap.lt_size hI
        · exact Heap.lt_size hO
        · exact Heap.lt_size e1
        · exact Heap.lt_size e2
      rw [upd_ne (Nat.ne_of_lt lt)]
      exact (hf c hcm).1
  done := by
    intro X eP ew eK hc i pins s σ H E I hf st hg
    subst eP ew eK
    obtain ⟨hz, hI, ⟨x0, y0, hO⟩, h1, h2⟩ := st
    obtain ⟨xs, ys, qa, qb, lx, ly, hend⟩ := hg
    obtain ⟨its, rv, p⟩ := sqB_inv I qa
    obtain ⟨its2, rv2, p2⟩ := sqB_inv I qb
    have l1 := rv.length
    have l2 := rv2.length
    have na : a ≠ i1 := p.ne h1
    have nb : b ≠ i2 := p2.ne h2
    exact wpAny_pyNext_zipD2_end D (drawsB (P := X.prog) (w := X.w) (A := X.A.in1) (show X.A.in1.handled = none from I.ok.hd hc) t i1 a na its.toArray) (drawsB (P := X.prog) (w := X.w) (A := X.A.in1) (show X.A.in1.handled = none from I.ok.hd hc) u i2 b nb its2.toArray) hz hI hO ⟨h1, p⟩ ⟨h2, p2⟩ (by simp; omega) (by simp; omega) (by simp; omega) fun g tk hk =>
      ⟨rfl, I.turnedL (t' := tk) (ch := [z, TI, TO, i1, i2]) (fun c o hb q => by
        simp only [List.mem_cons, List.not_mem_nil, or_false, not_or] at hb
        exact hk c o hb.1 hb.2.2.1 hb.2.2.2.1 hb.2.2.2.2 q) hf⟩
  self := fun A i s Q E sg => wpAny_pyIter_zip sg.1
theorem sep2 (I l1 l2 : Nat) (h1 : l1 < I) (h2 : l2 < I) : ZipSep2 (I + 4) (I + 2) (I + 3) I (I + 1) [I, l1] [I + 1, l2] := by
  have n0 : ∀ {x y : Nat}, x ≠ y → ¬ ((x : Addr) = y) := fun h => h
  constructor
  all_goals first
    | exact List.mem_cons_self
    | (intro q; rcases List.mem_cons.mp q with q | q
       · revert q; refine n0 ?_; omega
       · rw [List.mem_singleton] at q; revert q; refine n0 ?_; omega)
    | (refine n0 ?_; omega)
def iZipQ (K : PySem.W.Frag) (t u : Bool) (ta : TA) : TI := fun σ H R => ta σ H fun vs H1 => ∃ a b xs ys, vs = [.ref a, .ref b] ∧ sqB t K H1 a xs ∧ sqB u K H1 b ys ∧ R (ItzQ K t u a b) H1
theorem pi_zipQ {X : Cx} (K : PySem.W.Frag) (hK : X.K = K) (t u : Bool) {e e2 : Expr} {ta : TA} {p pos tpos : Pos} {elts : List Expr} {kk : Nat} (hg : Gl X "zip") (hm : X.mg "zip" = none) (ha : PA X [e, e2] ta)
    (hs : starEach [e, e2] X.env = (false, eval e X.env) :: starEach [e2] X.env := by rfl) (hpl : (backTo pos (starEach [e2] X.env)).any (·.1) = false := by rfl) : PI X (.Tuple elts kk tpos) (.Call (.Name "zip" p) [e, e2] [] pos) (iZipQ K t u ta) := by
  subst hK
  refine ⟨fun pins s σ H R I hh => ?_⟩
  refine Call_ (ld_blt I hg hm PyProof.Rows.boot_zip (PyProof.Rows.callWith_type1 (thn (ha.run pos pins s σ H _ I hh) fun _ s1 ⟨_, H1, I1, r1, q1⟩ => ?_) hs hpl))
  obtain ⟨a, b, xs, ys, rfl, qa, qb, q⟩ := q1
  obtain ⟨v1, v2, rfl, r, r'⟩ := vals2 r1
  cases r
  cases r'
  obtain ⟨its, rv, p1⟩ := sqB_inv I1 qa
  obtain ⟨its2, rv2, p2⟩ := sqB_inv I1 qb
  refine zip_begins2 (beginsB t a its.toArray) (beginsB u b its2.toArray) p1 p2 fun g hz hI hO h1 h2 hsz hk => wpAny_pyIter_zip hz ?_
  have I2 : Inv X pins σ H1 { s1 with heap := g } := I1.kept (t' := s1.toks) hk
  refine ⟨s1.heap.objs.size + 4, [s1.heap.objs.size + 4, s1.heap.objs.size + 2, s1.heap.objs.size + 3, s1.heap.objs.size, s1.heap.objs.size + 1], _, _, H1, rfl, I2, turn_zipQ (sep2 s1.heap.objs.size a b p1.lt p2.lt), ⟨hz, hI, ⟨_, _, hO⟩, itB0 h1, itB0 h2⟩, fun c hcm => ?_, q⟩
  have le : s1.heap.objs.size ≤ c := by
    simp only [List.mem_cons, List.not_mem_nil, or_false] at hcm
    rcases hcm with rfl | rfl | rfl | rfl | rfl
    · exact Nat.le_add_right _ _
    · exact Nat.le_add_right _ _
    · exact Nat.le_add_right _ _
    · exact Nat.le_refl _
    · exact Nat.le_add_right _ _
  exact I1.fpOk le (I1.hok.fresh le)
theorem walk_zipQ {K : PySem.W.Frag} {t u : Bool} {a b : Addr} {xs ys : List V} (hl : xs.length = ys.length) : Walk (ItzQ K t u a b) xs.length (fun H => sqB t K H a xs ∧ sqB u K H b ys) (YPair (fun i => xs[i]?) (fun i => ys[i]?)) :=
  ⟨fun i H hi ⟨p, q⟩ => ⟨xs, ys, xs[i], ys[i]'(hl ▸ hi), p, q, List.getElem?_eq_getElem hi, List.getElem?_eq_getElem (hl ▸ hi)⟩, fun H ⟨p, q⟩ => ⟨xs, ys, p, q, Nat.le_refl _, by omega, .inl rfl⟩,
    fun i H x H' hi ⟨p, q⟩ ⟨T, x', y', e, hT, eH, f1, f2⟩ => ⟨T, x', y', e, hT, eH, f1 xs p, f2 ys q⟩⟩
/-! enumerate(text) -/
def ItES (x : Str) : It :=
  ⟨fun i _ => i < x.cps.size, fun i H v H' => ∃ T c, v = .ref T ∧ H T = none ∧ x.cps[i]? = some c ∧ H' = upd H T (.tup [.int (i : Nat), .str ⟨#[c]⟩]), fun i _ => i = x.cps.size⟩
theorem turn_enumS {P : Program} {w : World} {K : PySem.W.Frag} {elts : List Expr} {kk : Nat} {tpos : Pos} (x : Str) (tk0 : Tok) (e it : Addr) (hne : e ≠ it) :
    Turn P w K (.Tuple elts kk tpos) (ItES x) [e, it] e (fun i h => (∃ old, IsEnum h e it ((i : Nat) : Int) old) ∧ h.IsStrIter it (strIterType x) x tk0 i) where
  mem := by simp
  obj := fun i h st b hb => by
    obtain ⟨⟨old, he⟩, o, ho, hc, hd⟩ := st
    have two : b = e ∨ b = it := by simpa using hb
    rcases two with rfl | rfl
    · exact ⟨_, he, fun v q => nomatch q⟩
    · exact ⟨o, ho, fun v q => by rw [hd] at q; cases q⟩
  keep := fun i h h' st k => by
    obtain ⟨⟨old, he⟩, o, ho, hc, hd⟩ := st
    exact ⟨⟨old, k e (by simp) _ he⟩, o, k it (by simp) _ ho, hc, hd⟩
  item := by
    intro X eP ew eK hc i pins s σ H E I hf st hg
    subst eP ew eK
    obtain ⟨⟨old, he⟩, hit⟩ := st
    have el := Heap.lt_size he
    have il : it < s.heap.objs.size := by obtain ⟨_, q, _⟩ := hit; exact Heap.lt_size q
    refine wpAny_pyNext_enum_itemD (Draws.text (prog := X.prog) (w := X.w) (A := X.A.in1) (show X.A.in1.handled = none from I.ok.hd hc) it x tk0) he hit hg hne (by simp [hne]) fun v g tk m ho hit2 hT hsz hk => ?_
    obtain ⟨c, tk2, hx, rfl⟩ := m
    refine ⟨_, rfl, wpAny_letOwnedTupleGo_enum (s := { s with heap := g, toks := tk + 1 }) ho fun g2 he2 sb => ?_⟩
    have hT2 : g2.get? s.heap.objs.size = some { cls := .type "tuple", data := .seq #[.int i tk, .str ⟨#[c]⟩ tk2] } := (sb.2 _ (Nat.ne_of_gt el)).trans hT
    have hob : ObjOk X.prog X.w (upd H s.heap.objs.size (.tup [.int (i : Nat), .str ⟨#[c]⟩])) g2 s.heap.objs.size (.tup [.int (i : Nat), .str ⟨#[c]⟩]) :=
      ⟨by show 2 ≤ sizeLine; decide, [.int i tk, .str ⟨#[c]⟩ tk2], .cons ⟨_, rfl⟩ (.cons ⟨_, rfl⟩ .nil), _, hT2, rfl, _, rfl⟩
    have kk : ∀ b o, b ∉ [e, it] → s.heap.get? b = some o → g2.get? b = some o := fun b o hb q => by
      simp only [List.mem_cons, List.not_mem_nil, or_false, not_or] at hb
      exact (sb.2 b hb.1).trans (hk b o hb.1 hb.2 q)
    refine ⟨.ref s.heap.objs.size, _, I.turnedNew (t' := tk + 1) kk hf (Nat.le_refl _) hob, rfl, ⟨_, c, rfl, I.hok.fresh (Nat.le_refl _), hx, rfl⟩, ⟨⟨.str ⟨#[c]⟩ tk2, ?_⟩, ?_⟩, fun b hb => ?_⟩
    · have q : ((i + 1 : Nat) : Int) = (i : Int) + 1 := by omega
      rw [q]; exact he2
    · obtain ⟨o, q, r⟩ := hit2
      exact ⟨o, (sb.2 it (Ne.symm hne)).trans q, r⟩
    · have lt : b < s.heap.objs.size := by
        have two : b = e ∨ b = it := by simpa using hb
        rcases two with rfl | rfl
        · exact el
        · exact il
      rw [upd_ne (Nat.ne_of_lt lt)]
      exact (hf b hb).1
  done := by
    intro X eP ew eK hc i pins s σ H E I hf st hg
    subst eP ew eK
    obtain ⟨⟨old, he⟩, hit⟩ := st
    obtain rfl : i = x.cps.size := hg
    obtain ⟨c0, c1, c2, c3, c4, c5⟩ := hf it (by simp)
    exact wpAny_pyNext_enum_endD (Draws.text (prog := X.prog) (w := X.w) (A := X.A.in1) (show X.A.in1.handled = none from I.ok.hd hc) it x tk0) he hit fun g eb => ⟨rfl, I.turned (t' := s.toks) (fun b o hb q => eb b o hb q) c0 c1 c3 c4 c5⟩
  self := fun A i s Q E sg => let ⟨⟨_, he⟩, _⟩ := sg; wpAny_pyIter_enum he
def iEnumS (ta : TA) : TI := fun σ H R => ta σ H fun vs H1 => ∃ x, vs = [.str x] ∧ R (ItES x) H1
theorem pi_enumS {X : Cx} {e : Expr} {ta : TA} {p pos tpos : Pos} {elts : List Expr} {kk : Nat} (hg : Gl X "enumerate") (hm : X.mg "enumerate" = none) (ha : PA X [e] ta) (hs : starEach [e] X.env = [(false, eval e X.env)] := by rfl) :
    PI X (.Tuple elts kk tpos) (.Call (.Name "enumerate" p) [e] [] pos) (iEnumS ta) := by
  refine ⟨fun pins s σ H R I hh => ?_⟩
  refine Call_ (ld_blt I hg hm boot_enumerate (PyProof.Rows.callWith_type1 (thn (ha.run pos pins s σ H _ I hh) fun _ s1 ⟨_, H1, I1, r1, q1⟩ => ?_) hs rfl))
  obtain ⟨x, rfl, q⟩ := q1
  obtain ⟨v, rfl, tk0, rfl⟩ := vals1 r1
  refine call_enumerate_str fun g he hit hsz hk => wpAny_pyIter_enum he ?_
  have I2 : Inv X pins σ H1 { s1 with heap := g } := I1.kept (t' := s1.toks) hk
  refine ⟨s1.heap.objs.size + 1, [s1.heap.objs.size + 1, s1.heap.objs.size], _, _, H1, rfl, I2, turn_enumS x tk0 (s1.heap.objs.size + 1) s1.heap.objs.size (Nat.succ_ne_self _), ⟨⟨.none, he⟩, hit⟩, fun b hb => ?_, q⟩
  have le : s1.heap.objs.size ≤ b := by
    simp only [List.mem_cons, List.not_mem_nil, or_false] at hb
    rcases hb with rfl | rfl
    · exact Nat.le_add_right _ _
    · exact Nat.le_refl _
  exact I1.fpOk le (I1.hok.fresh le)
theorem walk_enumS {x : Str} : Walk (ItES x) x.cps.size (fun _ => True) (fun i H v H' => ∃ T c, v = .ref T ∧ H T = none ∧ x.cps[i]? = some c ∧ H' = upd H T (.tup [.int (i : Nat), .str ⟨#[c]⟩])) :=
  ⟨fun _ _ h _ => h, fun _ _ => rfl, fun _ _ _ _ _ _ y => y⟩
theorem pg_tupK {X : Cx} (K : PySem.W.Frag) (hK : X.K = K) {n : Nat} {es : List Expr} {k : Nat} {t : TGs} {pos : Pos} (hc : X.calm = true) (h : PGs X es t) (hn : (assignEach es X.env).length = n := by rfl)
    (hst : (assignEach es X.env).findIdx? (·.1) = none := by rfl) : PG X (.Tuple es k pos) (gTup K n t) := by subst hK; exact pg_tup hc h hn hst
theorem pe_lenSetIK {X : Cx} (K : PySem.W.Frag) (hK : X.K = K) {a : Expr} {ta : TE} {p p2 q pos : Pos} (hg : Gl X "len") (hm : X.mg "len" = none) (hg2 : Gl X "set") (hm2 : X.mg "set" = none) (ha : PE X a ta) (hc : X.calm = true := by rfl)
    (na : starEach [a] X.env = (false, eval a X.env) :: starEach [] X.env := by rfl) : PE X (.Call (.Name "len" p) [.Call (.Name "set" p2) [a] [] q] [] pos) (RZ.tLenSetI K ta) := by subst hK; exact RZ.pe_lenSetI hg hm hg2 hm2 ha hc na
section
variable {K : PySem.W.Frag} {σ : L2.St} {H : Hp} {Q : VK}
theorem rd_lenSet {ta : TE} (h : ta σ H fun x H1 => ∃ (l : Addr) (ns : List Int), x = .ref l ∧ SqL K H1 l (ns.map V.int) ∧ ns.Nodup ∧ ns.length ≤ 4000 ∧ Q (.int (ns.length : Nat)) H1) : RZ.tLenSetI K ta σ H Q := h
theorem rd_iZQ {t u : Bool} {tr : TA} {R : It → Hp → Prop} (h : tr σ H fun vs H1 => ∃ a b xs ys, vs = [.ref a, .ref b] ∧ sqB t K H1 a xs ∧ sqB u K H1 b ys ∧ R (ItzQ K t u a b) H1) : iZipQ K t u tr σ H R := h
theorem rd_iES {tr : TA} {R : It → Hp → Prop} (h : tr σ H fun vs H1 => ∃ x, vs = [.str x] ∧ R (ItES x) H1) : iEnumS tr σ H R := h
end
end JF

/-! ### refusals: own exceptions raised, caught, asked for their class; defs called in an except clause -/
namespace JF
open PySem PySem.Spec PyProof.Rows L2
/-- what the written part says of an exception class -/
structure ExF (K : PySem.W.Frag) (x : Str) : Prop where
  q : PySem.W.excIn K (He.ga K x) veT "ValueError.__new__" = true
  kp : PySem.W.keepIn K (.ref (He.ga K x)) = true
  sb : PySem.W.subIn K (.ref (He.ga K x)) (.type "BaseException") = some true
  ty : PySem.W.typeIn K (.ref (He.ga K x)) = some (.type "type")
  ec : ExcC K (He.ga K x)
section
variable {fa : List He.Fa} {fn : List He.DefD} {K : PySem.W.Frag} {mg : Str → Option Value}
theorem exF_of {x : Str} (h : exB1 K x = true) : ExF K x := by
  unfold exB1 at h
  simp only [Bool.and_eq_true, beq_iff_eq] at h
  obtain ⟨⟨⟨⟨⟨⟨⟨⟨⟨⟨h1, h2⟩, h3⟩, h4⟩, h5⟩, h6⟩, h7⟩, h8⟩, h9⟩, h10⟩, h11⟩ := h
  exact ⟨h1, h2, h3, h4, ⟨h5, h6, h3, h7, h8, h9, h10, h11⟩⟩
theorem Env.exf (T : Env fa fn K mg) {x : Str} (h : x ∈ JF.exN) : ExF K x := exF_of (T.ex1 h)
theorem Env.exm (T : Env fa fn K mg) {x : Str} {c : Sum Str String} {b : Bool} (h : (x, c, b) ∈ JF.exP) : PySem.W.exmOne K (.ref (He.ga K x)) (exV K c) = some b := by
  have z := T.ex2 h
  unfold exB2 at z
  simp only [Bool.and_eq_true, beq_iff_eq] at z
  exact z.1
theorem Env.exk (T : Env fa fn K mg) {x : Str} {c : Sum Str String} {b : Bool} (h : (x, c, b) ∈ JF.exP) : PySem.W.kitOne K (.ref (He.ga K x)) (exV K c) = some b := by
  have z := T.ex2 h
  unfold exB2 at z
  simp only [Bool.and_eq_true, beq_iff_eq] at z
  exact z.2
end
/-! #### raise -/
def sRaise (W : WX) (c : Value) : TS := fun _ σ H => W c none σ H
theorem ps_raiseT {X : Cx} (K : PySem.W.Frag) (hK : X.K = K) {x m : Str} {j : Nat} {p p2 pos pos2 : Pos} {W : WX} (F : ExF K x) (gC : X.mg x = some (.ref (He.ga K x))) (hc : X.calm = true) (tk : L2N.Takes X W) (hg : Gl X x) (hdb : (x == ("__debug__" : Str)) = false := by decide) :
    PS X (.Raise (some (.Call (.Name x p) [.Constant (.str m) j p2] [] pos)) none pos2) (sRaise W (.ref (He.ga K x))) := by
  subst hK
  exact L2N.ps_raise hc tk (L2N.pmk_own PySem.F.excBase_ValueError F.q gC F.kp (raises_own F.sb F.ty) hg hdb)
theorem rd_raise {W : WX} {c : Value} {D : Ends} {σ : L2.St} {H : Hp} (h : W c none σ H) : sRaise W c D σ H := h
/-! #### defs that may raise -/
section
variable {P : Program} {w : World} {K : PySem.W.Frag} {mg : Str → Option Value} {base : Heap} {fa : List He.Fa} {fn : List He.DefD}
theorem good_mkX (T : Env fa fn K mg) (i : Nat) {d : He.DefD} {k : Nat} {N ps : List Str} {sp : Sp} {x qual : Str} {st : Stmt} {at_ : Str × Option Str} (hi : fn[i]? = some d) (hd : d = ⟨at_, x, qual, defArgs st, defBody st, defScope st, [], []⟩) (S : FnScope N ps (defScope st))
    (hb : ∀ (kV doc pm : Value) (an : Option Addr) (cdv ct : Value) (us : List Value), us.length = ps.length → bindArgs (PySem.W.fnOf x qual (defArgs st) (defBody st) (defScope st) .none kV doc pm an cdv ct) ⟨us, []⟩ = pure (ps.zip us))
    (len : ∀ vs H Q E, sp vs H Q E → vs.length = ps.length)
    (hbody : ∀ (f : Addr) (cdv : Value) (A : Around) (outer : List PySem.Env) (s : Shared) (H : Hp) (vs : List V) (Q : VK) (E : XK), Room k (A.deeper (envOfC qual (defScope st) s.heap.objs.size f cdv)) → sp vs H Q E →
      ∃ t, PSs (cxOf (L2N.CX P w) P w K mg base N qual (defScope st) f cdv A outer s H E) (defBody st) t ∧ t { nx := fun _ H' => Q .non H', rt := Q } (start N vs) H) : Good P w K mg base (L2N.CX P w) (k + 1) at_ ps sp := by
  subst hd
  obtain ⟨fd, F⟩ := T.c.def_ i hi
  exact ⟨fd, FunD.ok F S len fun cdv A outer s H vs Q E hr h => hbody _ cdv A outer s H vs Q E hr h, FunD.bindsN F hb, F.kp, fdAt_of F⟩
end
section
variable {X : Cx} {k : Nat} {x m : Str} {ps : List Str} {sp : Sp} {p pos apos : Pos} {e o : Expr} {es : List Expr} {ta : TE} {t : TA} {W : WX} {K : PySem.W.Frag}
/-- the call of a def that may raise -/
theorem pe_cgX (K : PySem.W.Frag) (hK : X.K = K) (tk : L2N.Takes X W) (G : Good X.prog X.w K X.mg X.base (L2N.CX X.prog X.w) k (x, none) ps sp) (hr : Room k X.A) (hm : X.mg x = some (.ref (He.ga K x))) (ha : PA X (e :: es) t) (hg : Gl X x := by rfl)
    (hdb : (x == ("__debug__" : Str)) = false := by decide) (he : starEach (e :: es) X.env = (false, eval e X.env) :: starEach es X.env := by rfl) (hpl : (backTo pos (starEach es X.env)).any (·.1) = false := by rfl) :
    PE X (.Call (.Name x p) (e :: es) [] pos) (tCallS sp (fun σ cls d H' => W cls d σ H') t) := by
  subst hK
  obtain ⟨fd, F, b, kp, lk⟩ := G
  exact pe_callS F hr hg hm kp b (fun σ => L2N.passAt tk σ) ha hdb he hpl
theorem rd_callS {E : L2.St → XK} {σ : L2.St} {H : Hp} {Q : VK} (h : t σ H fun vs H1 => sp vs H1 Q (E σ)) : tCallS sp E t σ H Q := h
end
theorem takes0N {X : Cx} : L2N.Takes X (fun _ _ _ _ => False) := fun _ _ x => by
  obtain ⟨_, _, _, _, _, _, _, _, _, _, _, _, _, _, _, _, z⟩ := x
  exact z.elim
/-! #### try: .. except X as n -/
def sTryAs (K : PySem.W.Frag) (c : Value) (i : Nat) (tb : WX → TS) (ts : Addr → Value → Option Addr → TS) (Wo : WX) : TS := fun D σ H => tb (wAs K c i ts Wo D) D σ H
theorem ps_tryA {X : Cx} (K : PySem.W.Frag) (hK : X.K = K) {x n : Str} {c : Value} {i : Nat} {body suite : List Stmt} {b₀ : Stmt} {np pos pos' : Pos} {tb : WX → TS} {ts : Addr → Value → Option Addr → TS} {Wo : WX} (hs : X.stack = X.env :: X.outer) (hf : X.env.frame = some X.env.locals) (hN : X.N.Nodup)
    (hi : X.N[i]? = some n) (hln : X.env.kindOf n = some .local) (hc : Names X x c) (tk : L2N.Takes X Wo)
    (hb : ∀ (W : WX) (pn : List (Addr × Obj)) (xe : Value → Shared → Prop), L2N.Takes (X.tr pn xe) W → PassesOwn (model X.prog X.w) X.A X.env xe → PSs (X.tr pn xe) body (tb W))
    (hsu : ∀ (a : Addr) (oe : Obj) (cls : Value) (d : Option Addr) (pn : List (Addr × Obj)), L2N.Zn cls d oe → (∃ vs, oe.data = .fields vs) → PSs (X.suite a ((a, oe) :: pn)) (b₀ :: suite) (ts a cls d)) :
    PS X (.Try body [.ExceptHandler (some (.Name x np)) (some n) (b₀ :: suite) pos'] [] [] pos) (sTryAs K c i tb ts Wo) := by
  subst hK
  exact L2N.ps_try_as hs hf hN hi hln hc tk hb hsu
theorem rd_tryA {K : PySem.W.Frag} {c : Value} {i : Nat} {tb : WX → TS} {ts : Addr → Value → Option Addr → TS} {Wo : WX} {D : Ends} {σ : L2.St} {H : Hp} (h : tb (wAs K c i ts Wo D) D σ H) : sTryAs K c i tb ts Wo D σ H := h
/-- the exception is of the class -/
theorem wAs_yes {K : PySem.W.Frag} {c cls : Value} {i : Nat} {ts : Addr → Value → Option Addr → TS} {Wo : WX} {D : Ends} {d : Option Addr} {σ : L2.St} {H : Hp} (e : PySem.W.exmOne K cls c = some true)
    (h : ∀ a, H a = none → ts a cls d { nx := fun σ' H' => D.nx (σ'.set i none) H', rt := D.rt, bk := fun σ' H' => D.bk (σ'.set i none) H', ct := fun σ' H' => D.ct (σ'.set i none) H' } (σ.set i (some (.ref a))) H) : wAs K c i ts Wo D cls d σ H :=
  ⟨true, e, fun _ => h, fun z => nomatch z⟩
/-! #### try: .. except X -/
def sTry1 (K : PySem.W.Frag) (c : Value) (tb : WX → TS) (ts : Addr → Value → Option Addr → TS) (Wo : WX) : TS := fun D σ H => tb (wMany K Wo D [(c, ts)]) D σ H
theorem ps_try1 {X : Cx} (K : PySem.W.Frag) (hK : X.K = K) {x : Str} {c : Value} {body suite : List Stmt} {b₀ : Stmt} {np pos pos' : Pos} {tb : WX → TS} {ts : Addr → Value → Option Addr → TS} {Wo : WX} (hs : X.stack = X.env :: X.outer) (hf : X.env.frame = some X.env.locals) (hc : Names X x c) (tk : L2N.Takes X Wo)
    (hb : ∀ (W : WX) (pn : List (Addr × Obj)) (xe : Value → Shared → Prop), L2N.Takes (X.tr pn xe) W → PassesOwn (model X.prog X.w) X.A X.env xe → PSs (X.tr pn xe) body (tb W))
    (hsu : ∀ (a : Addr) (oe : Obj) (cls : Value) (d : Option Addr) (pn : List (Addr × Obj)), L2N.Zn cls d oe → (∃ vs, oe.data = .fields vs) → PSs (X.suite a ((a, oe) :: pn)) (b₀ :: suite) (ts a cls d)) :
    PS X (.Try body [.ExceptHandler (some (.Name x np)) none (b₀ :: suite) pos'] [] [] pos) (sTry1 K c tb ts Wo) := by
  subst hK
  exact L2N.ps_try_many hs hf tk hb (.cons hc hsu .nil)
theorem rd_try1 {K : PySem.W.Frag} {c : Value} {tb : WX → TS} {ts : Addr → Value → Option Addr → TS} {Wo : WX} {D : Ends} {σ : L2.St} {H : Hp} (h : tb (wMany K Wo D [(c, ts)]) D σ H) : sTry1 K c tb ts Wo D σ H := h
/-! #### isinstance of the exception -/
def rIsX (K : PySem.W.Frag) (cls : Value) (d : Option Addr) (a : Addr) : List V → Hp → VK → Prop := fun xs H Q => ∃ D, cls = .ref D ∧ d = none ∧ ExcC K D ∧ rIsE K D a xs H Q
theorem call_isP {X : Cx} (K : PySem.W.Frag) (hK : X.K = K) {a : Addr} {oe : Obj} {cls : Value} {d : Option Addr} (hp : (a, oe) ∈ X.pn) (hz : Zc cls d oe) (hf : ∃ vs, oe.data = .fields vs) : CallR X (.builtin "isinstance") (rIsX K cls d a) := by
  subst hK
  intro pins s σ H xs us Q I r h
  obtain ⟨D, rfl, rfl, C, c, cv, b, rfl, hcv, e, q⟩ := h
  obtain ⟨u1, u2, rfl, rx, rt⟩ := vals2 r
  cases rx
  obtain rfl := hcv _ rt
  obtain ⟨hget, _⟩ := I.pin (a, oe) (List.mem_append_left _ hp)
  obtain ⟨vs, hv⟩ := hf
  have J : PySem.W.InstAt s.heap a oe D none := by
    obtain ⟨oc, od, oda, osl⟩ := oe
    obtain ⟨h1, h2⟩ := hz
    simp only at h1 h2 hv
    subst h1 h2 hv
    exact ⟨hget, rfl, rfl, trivial⟩
  exact PySem.W.kia_one (PySem.W.handS_kitx_exc C.hg C.hk C.hs C.hd C.ha C.hn C.ht C.hm) I.kIn J e (fun z => nomatch z) fun tk => ⟨.bl b, H, I.kept (t' := tk) fun _ _ z => z, rfl, q⟩
section
variable {K : PySem.W.Frag} {H : Hp} {Q : VK} {D a : Addr}
theorem rd_isX {c : Addr} {b : Bool} (C : ExcC K D) (e : PySem.W.kitOne K (.ref D) (.ref c) = some b) (q : Q (.bl b) H) : rIsX K (.ref D) none a [.ref a, .ref c] H Q := ⟨D, rfl, rfl, C, .ref c, .ref c, b, rfl, fun _ r => r, e, q⟩
theorem rd_isXT {t : String} {b : Bool} (C : ExcC K D) (e : PySem.W.kitOne K (.ref D) (.type t) = some b) (q : Q (.bl b) H) : rIsX K (.ref D) none a [.ref a, .ty t] H Q := ⟨D, rfl, rfl, C, .ty t, .type t, b, rfl, fun _ r => r, e, q⟩
end
/-! #### a def called with the exception in an except clause -/
structure FnE (P : Program) (w : World) (K : PySem.W.Frag) (mg : Str → Option Value) (base : Heap) (k : Nat) (f : Addr) (fd : FuncData) (ps : List Str) (sp : Value → Option Addr → Addr → Sp) : Prop where
  len : ∀ cls d a vs H Q E, sp cls d a vs H Q E → vs.length = ps.length
  run : ∀ (A : Around) (outer : List PySem.Env) (s : Shared) (H : Hp) (args : Args) (us : List Value) (vs : List V) (Q : VK) (E : XK) (p : Addr × Obj) (cls : Value) (d : Option Addr), L2H.RoomH k A → L2H.Hot1 A p → L2H.PinOk outer H s p → Zc cls d p.2 → Env0 P w K mg base A outer s H →
    BindsTo s fd args (ps.zip us) → Vals vs us → sp cls d p.1 vs H Q E → codeAny (model P w) A (.call (.ref f) args) (CR CX0 outer P w H s Q E) s
theorem fn_mkE {P : Program} {w : World} {K : PySem.W.Frag} {mg : Str → Option Value} {base : Heap} {k : Nat} {f : Addr} {name qual : Str} {params : Arguments} {body : List Stmt} {scope : Scope} {dV kV doc pm cdv ct oc : Value} {an od : Option Addr} {osl : Array (Option Value)} {N ps : List Str} {sp : Value → Option Addr → Addr → Sp}
    (lk : K.lookup f = some ⟨oc, od, .func (PySem.W.fnOf name qual params body scope dV kV doc pm an cdv ct), osl⟩) (hcd : PySem.W.codeIn K cdv qual = true) (S : FnScope N ps scope) (len : ∀ cls d a vs H Q E, sp cls d a vs H Q E → vs.length = ps.length)
    (hbody : ∀ (A : Around) (outer : List PySem.Env) (s : Shared) (H : Hp) (vs : List V) (Q : VK) (E : XK) (p : Addr × Obj) (cls : Value) (d : Option Addr), L2H.Hot1 A p → Zc cls d p.2 → L2H.RoomH k (A.deeper (envOfC qual scope s.heap.objs.size f cdv)) → sp cls d p.1 vs H Q E →
      ∃ t, PSs (L2H.cxH CX0 P w K mg base N qual scope f cdv A outer s H E p) body t ∧ t { nx := fun _ H' => Q .non H', rt := Q } (L2.start N vs) H) :
    FnE P w K mg base (k + 1) f (PySem.W.fnOf name qual params body scope dV kV doc pm an cdv ct) ps sp := by
  refine ⟨len, fun A outer s H args us vs Q E p cls d hr hot pok hz e0 hb r h => ?_⟩
  have KX : K.In s.heap := e0.mod.kin.keeps fun b o e => (e0.bs b o e).1
  have nl : s.heap.NoLimit := e0.mod.nolimit.keeps fun b o e => (e0.bs b o e).1
  have kinds : ∀ y ∈ ps.zip us, scope.names.lookup y.1 = some .local ∨ (scope.names.lookup y.1 = some .cell ∧ ((cellsFrom (s.heap.objs.size + 1) scope.names []).lookup y.1).isSome = true) := by
    rintro ⟨n, v⟩ hy
    rcases S.par n (List.of_mem_zip hy).1 with z | z
    · exact .inl z
    · exact .inr ⟨z, PySem.W.cellsFrom_some _ _ _ (.inl z)⟩
  refine codeAny_call_function hr.depth (KX _ _ lk) rfl S.co S.gen rfl (PySem.W.codeRec_of KX hcd) (hb _ _ _ _ (wpAny_newFunctionEnv_cells S.kind kinds fun env he s1 x => ?_))
  subst he
  refine ⟨nl.keeps x.toInCall.keep, codeAny_func ?_⟩
  obtain ⟨t, ht, hq⟩ := hbody A outer s H vs Q E p cls d hot hz (hr.deeper _) h
  have I := L2H.inv_startH (CX := CX0) (E := E) S pok e0 (len _ _ _ _ _ _ _ h) r x
  refine wpAny_mono (ht.run [] s1 (L2.start N vs) H _ I hq) (fun fl s2 hs => ?_) fun _ _ hs => hs
  cases fl with
  | next => obtain ⟨σ2, H2, J, q⟩ := hs; exact ⟨V.non, H2, J.os, J.bare, J.base, J.hok, rfl, q⟩
  | ret u => obtain ⟨v, σ2, H2, J, rv, q⟩ := hs; exact ⟨v, H2, J.os, J.bare, J.base, J.hok, rv, q⟩
  | brk => obtain ⟨_, _, _, q⟩ := hs; exact q.elim
  | cont => obtain ⟨_, _, _, q⟩ := hs; exact q.elim
def GoodE (P : Program) (w : World) (K : PySem.W.Frag) (mg : Str → Option Value) (base : Heap) (k : Nat) (p : Str × Option Str) (ps : List Str) (sp : Value → Option Addr → Addr → Sp) : Prop :=
  ∃ fd, FnE P w K mg base k (He.fAd K p) fd ps sp ∧ Binds K fd ps [] ∧ PySem.W.keepIn K (.ref (He.fAd K p)) = true
theorem good_mkE {P : Program} {w : World} {K : PySem.W.Frag} {mg : Str → Option Value} {base : Heap} {fa : List He.Fa} {fn : List He.DefD} (T : Env fa fn K mg) (i : Nat) {d : He.DefD} {k : Nat} {N ps : List Str} {sp : Value → Option Addr → Addr → Sp} {x qual : Str} {st : Stmt} {at_ : Str × Option Str} (hi : fn[i]? = some d)
    (hd : d = ⟨at_, x, qual, defArgs st, defBody st, defScope st, [], []⟩) (S : FnScope N ps (defScope st))
    (hb : ∀ (kV doc pm : Value) (an : Option Addr) (cdv ct : Value) (us : List Value), us.length = ps.length → bindArgs (PySem.W.fnOf x qual (defArgs st) (defBody st) (defScope st) .none kV doc pm an cdv ct) ⟨us, []⟩ = pure (ps.zip us))
    (len : ∀ cls d a vs H Q E, sp cls d a vs H Q E → vs.length = ps.length)
    (hbody : ∀ (f : Addr) (cdv : Value) (A : Around) (outer : List PySem.Env) (s : Shared) (H : Hp) (vs : List V) (Q : VK) (E : XK) (p : Addr × Obj) (cls : Value) (d : Option Addr), Zc cls d p.2 → (∃ vs, p.2.data = .fields vs) → L2H.RoomH k (A.deeper (envOfC qual (defScope st) s.heap.objs.size f cdv)) → sp cls d p.1 vs H Q E →
      ∃ t, PSs (L2H.cxH CX0 P w K mg base N qual (defScope st) f cdv A outer s H E p) (defBody st) t ∧ t { nx := fun _ H' => Q .non H', rt := Q } (start N vs) H) : GoodE P w K mg base (k + 1) at_ ps sp := by
  subst hd
  obtain ⟨fd, F⟩ := T.c.def_ i hi
  refine ⟨fd, ?_, FunD.bindsN F hb, F.kp⟩
  obtain ⟨oc, od, dV, kV, doc, pm, an, cdv, ct, osl, rfl, lk, hcd, _, _⟩ := F.ex
  exact fn_mkE lk hcd S len fun A outer s H vs Q E p cls d hot hz hr h => hbody _ cdv A outer s H vs Q E p cls d hz (let ⟨v, e, _⟩ := hot.2; ⟨v, e⟩) hr h
section
variable {X : Cx} {k : Nat} {x : Str} {ps : List Str} {sp : Value → Option Addr → Addr → Sp} {q pos : Pos} {e : Expr} {es : List Expr} {t : TA} {cls : Value} {d : Option Addr} {a : Addr} {oe : Obj}
def tCallE (sp : Sp) (t : TA) : TE := fun σ H Q => t σ H fun vs H1 => sp vs H1 Q E0
theorem pe_callE (K : PySem.W.Frag) (hK : X.K = K) (G : GoodE X.prog X.w K X.mg X.base k (x, none) ps sp) (hr : L2H.RoomH k X.A) (hot : L2H.Hot1 X.A (a, oe)) (hp : (a, oe) ∈ X.pn) (hz : Zc cls d oe) (hm : X.mg x = some (.ref (He.ga K x))) (ha : PA X (e :: es) t) (hg : Gl X x := by rfl)
    (hdb : (x == ("__debug__" : Str)) = false := by decide) (he : starEach (e :: es) X.env = (false, eval e X.env) :: starEach es X.env := by rfl) (hpl : (backTo pos (starEach es X.env)).any (·.1) = false := by rfl) :
    PE X (.Call (.Name x q) (e :: es) [] pos) (tCallE (sp cls d a) t) := by
  subst hK
  obtain ⟨fd, F, hb, hk⟩ := G
  refine ⟨fun pins s σ H Q I h => wpAny_Call_Name_kw (ld_glob I hg hm ?_ hdb)⟩
  refine PySem.W.callWith_K (h₀ := X.base) I.ok.mod.kin hk (thn (ha.run pos pins s σ H _ I h) fun us s1 ⟨vs, H1, I1, r, h1⟩ => ⟨I1.kIn, ?_⟩) he hpl
  have hl : us.length = ps.length := by rw [← r.length]; exact F.len _ _ _ _ _ _ _ h1
  have b := hb s1 us I1.kIn (by rw [List.append_nil]; exact hl)
  rw [List.append_nil] at b
  have p1 := I1.pin (a, oe) (List.mem_append_left _ hp)
  have pok : L2H.PinOk X.stack H1 s1 (a, oe) := ⟨p1.1, p1.2.1, fun hm => (List.mem_cons.mp (I1.stkSub a hm)).elim p1.2.2.1 p1.2.2.2.1, p1.2.2.2.2⟩
  refine wpAny_call (codeAny_mono (F.run X.A X.stack s1 H1 ⟨us, []⟩ us vs Q E0 (a, oe) cls d hr hot pok hz I1.env0 b r h1) fun z s2 hq => ?_)
  cases z with
  | error e => exact hq.elim
  | ok fl =>
    cases fl with
    | ret u => exact I1.after hq
    | next => exact hq.elim
    | brk => exact hq.elim
    | cont => exact hq.elim
theorem rd_callE {sp : Sp} {σ : L2.St} {H : Hp} {Q : VK} (h : t σ H fun vs H1 => sp vs H1 Q E0) : tCallE sp t σ H Q := h
end
theorem roomH_suite {X : Cx} {k j : Nat} {a : Addr} {pn : List (Addr × Obj)} (hr : Room k X.A) (h : j ≤ k) : L2H.RoomH j (X.suite a pn).A := ⟨(hr.mono h).dp, (hr.mono h).un⟩
theorem hot_of {A : Around} {a : Addr} {oe : Obj} {cls : Value} {d : Option Addr} (h : A.handled = some (.ref a)) (hz : L2N.Zn cls d oe) (hf : ∃ vs, oe.data = .fields vs) : L2H.Hot1 A (a, oe) := ⟨h, let ⟨vs, e⟩ := hf; ⟨vs, e, hz.2.2 vs e⟩⟩
end JF

/-! ### methods that may raise -/
namespace JF
open PySem PySem.Spec PyProof.Rows L2
section
variable {X : Cx} {k : Nat} {x m : Str} {ps : List Str} {sp : Sp} {p pos apos : Pos} {e o : Expr} {es : List Expr} {ta : TE} {t : TA} {W : WX} {K : PySem.W.Frag}
def tMethX (C : Addr) (m : Str) (sp : Sp) (E : L2.St → XK) (ta : TE) (t : TA) : TE := fun σ H Q => ta σ H fun x H1 => ∃ a dx fs, x = .ref a ∧ H1 a = some (.ins C dx fs) ∧ fs.lookup m = none ∧ t σ H1 fun vs H2 => sp (x :: vs) H2 Q (E σ)
theorem pe_mgX (K : PySem.W.Frag) (hK : X.K = K) {cn : Str} {pl : Sem Bool} (tk : L2N.Takes X W) (he : PE X o ta) (c : Cls K (He.ga K cn)) (hm : Meth K (He.ga K cn) m (He.ma K (He.ga K cn) m)) (G : Good X.prog X.w K X.mg X.base (L2N.CX X.prog X.w) k (cn, some m) ps sp) (hr : Room k X.A) (ha : PA X (e :: es) t)
    (hst : starEach (e :: es) X.env = (false, eval e X.env) :: starEach es X.env := by rfl) (hpl : (backTo pos (starEach es X.env)).any (·.1) = false := by rfl)
    (ht : eval (.Call (.Attribute o m apos) (e :: es) [] pos) X.env = (do
      let ov ← eval o X.env
      standAt apos.atName
      let (f, first) ← holding [ov] (getMethod ov m pl)
      callWith pos f first (backTo pos (starEach (e :: es) X.env)) (backToKw pos (keywordEach [] X.env))) := by rfl) :
    PE X (.Call (.Attribute o m apos) (e :: es) [] pos) (tMethX (He.ga K cn) m sp (fun σ cls d H' => W cls d σ H') ta t) := by
  subst hK
  obtain ⟨fd, F, b, kp, lk⟩ := G
  refine ⟨fun pins s σ H Q I h => ?_⟩
  refine PySem.W.methodCall_KW (pl := pl) (thn (he.run pins s σ H _ I h) fun u s1 ⟨x, H1, I1, rx, a, dx, fs, ex, ea, l, q⟩ => ?_) ht
  subst ex
  have eu : u = Value.ref a := rx
  subst eu
  refine (getmeth_ok I1 ea c hm l ?_)
  refine (PySem.W.callWith_K (first := [.ref a]) (h₀ := X.base) I.ok.mod.kin hm.kp (thn (ha.run pos pins s1 σ H1 _ I1 q) fun us s2 ⟨vs, H2, I2, r, q2⟩ => ⟨I2.kIn, ?_⟩) hst hpl)
  exact run_fnS (us := .ref a :: us) (vs := .ref a :: vs) F hr b (L2N.passAt tk σ) I2 (.cons rfl r) q2
theorem rd_methX {C : Addr} {E : L2.St → XK} {σ : L2.St} {H : Hp} {Q : VK} (h : ta σ H fun x H1 => ∃ a dx fs, x = .ref a ∧ H1 a = some (.ins C dx fs) ∧ fs.lookup m = none ∧ t σ H1 fun vs H2 => sp (x :: vs) H2 Q (E σ)) : tMethX C m sp E ta t σ H Q := h
end
end JF

/-! ### defs within defs, handed on to another def -/
namespace JF
open PySem PySem.Spec PyProof.Rows L2 NdefX LamX
section
variable {X : Cx} {pins : List (Addr × Obj)} {σ : L2.St} {H : Hp} {s : Shared}
/-- an address of the base, or of a cell of the running frame -/
def InC (X : Cx) (b : Addr) : Prop := X.base.get? b ≠ none ∨ ∃ y, X.env.cells.lookup y = some b
open Classical in
/-- the base and the running frame's cells -/
noncomputable def baseC (X : Cx) (h : Heap) : Heap := PySem.W.hideAll h ((List.range h.objs.size).filter fun b => decide (¬ InC X b))
open Classical in
theorem baseC_get {h : Heap} {b : Addr} {o : Obj} (e : h.get? b = some o) (n : InC X b) : (baseC X h).get? b = some o :=
  PySem.W.hideAll_get _ e fun hm => of_decide_eq_true (List.mem_filter.mp hm).2 n
open Classical in
theorem of_baseC {h : Heap} {b : Addr} {o : Obj} (e : (baseC X h).get? b = some o) : h.get? b = some o ∧ InC X b := by
  have e' := PySem.W.of_hideAll _ e
  refine ⟨e', Classical.byContradiction fun n => ?_⟩
  have z : (baseC X h).get? b = none := PySem.W.hideAll_none _ (List.mem_filter.mpr ⟨List.mem_range.mpr (Heap.lt_size e'), decide_eq_true n⟩)
  rw [e] at z
  cases z
theorem env0C (I : Inv X pins σ H s) (hfn : ∀ y, X.fn y = true) : Env0 X.prog X.w X.K X.mg (baseC X s.heap) X.A X.stack s H := by
  have k : ∀ b o, X.base.get? b = some o → (baseC X s.heap).get? b = some o := fun b o e => baseC_get (I.bk b o e) (.inl (by rw [e]; simp))
  refine ⟨I.ok.frames, ?_, ?_, ?_, ?_, I.stkFree, I.hok, I.bare⟩
  · obtain ⟨k1, k2, ⟨mb, k3, k4⟩, k5⟩ := I.ok.mod
    exact ⟨k1.keeps k, k2.keeps k, ⟨mb, k3.keeps k, k4⟩, k5.keeps k⟩
  · intro b o e
    obtain ⟨e', n⟩ := of_baseC e
    refine ⟨e', ?_⟩
    rcases n with n | ⟨y, n⟩
    · cases z : X.base.get? b with
      | none => exact absurd z n
      | some o' => exact (I.bs b o' z).2
    · exact I.freeC y b n
  · exact Nat.le_of_eq (PySem.W.hideAll_size _ _)
  · refine funFrames_none I.stack fun L hL => ?_
    cases z : (baseC X s.heap).get? L with
    | none => rfl
    | some o =>
      obtain ⟨e', n⟩ := of_baseC z
      rcases n with n | ⟨y, n⟩
      · exact absurd (I.stack.mem hL).1 n
      · rcases List.mem_cons.mp (I.stkSub L hL) with hl | hl
        · obtain ⟨m, ⟨o2, es, ep, e2, d2, _⟩, _⟩ := I.loc
          obtain ⟨v, o3, e3, d3⟩ := I.cell y L n
          rw [hl, e2] at e3
          cases e3
          rw [d2] at d3
          cases d3
        · have c1 := I.ok.cab y L (hfn y) n
          obtain ⟨o3, e3, _⟩ := (I.ok.funs.mem hl).2
          have := Heap.lt_size e3
          exact absurd (Nat.lt_of_lt_of_le this c1) (Nat.lt_irrefl _)
end
/-- a made function keeps a promise wherever the base is -/
def FnV (P : Program) (w : World) (K : PySem.W.Frag) (mg : Str → Option Value) (base : Heap) (CX : CXT) (k : Nat) (f : Addr) (F : NF) (sp : Sp) : Prop :=
  ∀ (A : Around) (outer : List PySem.Env) (s : Shared) (H : Hp) (us : List Value) (vs : List V) (Q : VK) (E : XK), Room k A → Env0 P w K mg base A outer s H → H f = some (FnO f F) → H F.c = some (CodeO F.c F.qual) → Vals vs us → sp vs H Q E →
    codeAny (model P w) A (.call (.ref f) ⟨us, []⟩) (CR CX outer P w H s Q E) s
/-- the cells that a function captured lie in the base -/
structure CellsB (base : Heap) (cl : List (Str × Addr)) (fr : List Str) (ws : List (Option V)) : Prop where
  len : ws.length = fr.length
  all : ∀ y c, cl.lookup y = some c → ∃ v, base.IsCell c v
  inj : ∀ x y c, cl.lookup x = some c → cl.lookup y = some c → x = y
  has : ∀ (i : Nat) (y : Str), fr[i]? = some y → ∃ c, cl.lookup y = some c ∧ ∀ v, ws[i]? = some (some v) → ∃ u, L2.RelV v u ∧ base.IsCell c (some u)
section
variable {P : Program} {w : World} {K : PySem.W.Frag} {mg : Str → Option Value} {base : Heap} {cl : List (Str × Addr)} {fr : List Str} {ws : List (Option V)} {CX : CXT} {k j : Nat} {f : Addr} {F : NF} {ps : List Str}
theorem CellsB.at {A : Around} {outer : List PySem.Env} {s : Shared} {H : Hp} (C : CellsB base cl fr ws) (e0 : Env0 P w K mg base A outer s H) : CellsAt cl fr ws s.heap H :=
  ⟨C.len, fun y c e => let ⟨v, o, h1, h2⟩ := C.all y c e; ⟨(e0.bs c o h1).2, v, o, (e0.bs c o h1).1, h2⟩, C.inj, fun i y e => let ⟨c, h1, h2⟩ := C.has i y e; ⟨c, h1, fun v ev => let ⟨u, r, o, h3, h4⟩ := h2 v ev; ⟨u, r, o, (e0.bs c o h3).1, h4⟩⟩⟩
theorem fnV_of {sp : List (Option V) → Sp} (N : NOk P w K mg base CX k f F ps fr sp) (C : CellsB base F.cl fr ws) : FnV P w K mg base CX k f F (sp ws) :=
  fun A outer s H us vs Q E hr e0 h1 h2 r q => N.run A outer s H us vs ws Q E hr e0 h1 h2 (C.at e0) r q
theorem FnV.imp {sp sp' : Sp} (V : FnV P w K mg base CX k f F sp) (h : ∀ vs H Q E, sp' vs H Q E → sp vs H Q E) : FnV P w K mg base CX k f F sp' := fun A outer s H us vs Q E hr e0 h1 h2 r q => V A outer s H us vs Q E hr e0 h1 h2 r (h _ _ _ _ q)
theorem FnV.mono {sp : Sp} (V : FnV P w K mg base CX j f F sp) (h : j ≤ k) : FnV P w K mg base CX k f F sp := fun A outer s H us vs Q E hr => V A outer s H us vs Q E (hr.mono h)
end
section
variable {X : Cx} {pins : List (Addr × Obj)} {σ : L2.St} {H : Hp} {s : Shared} {cl : List (Str × Addr)} {fr : List Str} {js : List Nat}
theorem cellsB (I : Inv X pins σ H s) (c : Caps X cl fr js) : CellsB (baseC X s.heap) cl fr (js.map (slotAt σ)) := by
  have C := cells_of I c
  have up : ∀ y a v, cl.lookup y = some a → s.heap.IsCell a v → (baseC X s.heap).IsCell a v := fun y a v e ⟨o, h1, h2⟩ => ⟨o, baseC_get h1 (.inr ⟨y, c.sub y a e⟩), h2⟩
  exact ⟨C.len, fun y a e => let ⟨_, v, h⟩ := C.all y a e; ⟨v, up y a v e h⟩, C.inj, fun i y e => let ⟨a, h1, h2⟩ := C.has i y e; ⟨a, h1, fun v ev => let ⟨u, r, h3⟩ := h2 v ev; ⟨u, r, up y a _ h1 h3⟩⟩⟩
end
/-- f(..), f a name that holds the made function F -/
def tCallV (i : Nat) (f : Addr) (F : NF) (sp : Sp) (E : XK) (t : TA) : TE := fun σ H Q => σ[i]? = some (some (.ref f)) ∧ H f = some (FnO f F) ∧ t σ H fun vs H1 => H1 f = some (FnO f F) ∧ H1 F.c = some (CodeO F.c F.qual) ∧ sp vs H1 Q E
/-- f(..), f a def of the module that is handed functions made here -/
def tCallC (X : Cx) (k : Nat) (p : Str × Option Str) (ps : List Str) (E : XK) (t : TA) : TE := fun σ H Q => t σ H fun vs H1 => ∃ sp, (∀ base', X.Ok → (∀ cl fr js, Caps X cl fr js → CellsB base' cl fr (js.map (slotAt σ))) → Good X.prog X.w X.K X.mg base' CX0 k p ps sp) ∧ sp vs H1 Q E
section
variable {X : Cx} {k : Nat} {x : Str} {ps : List Str} {i : Nat} {f : Addr} {F : NF} {sp : Sp} {t : TA} {e : Expr} {es : List Expr} {p pos : Pos}
theorem pe_cgV (V : FnV X.prog X.w X.K X.mg X.base CX0 k f F sp) (hr : Room k X.A) (hN : X.N[i]? = some x) (hv : Vis X.env.scope x) (ha : PA X (e :: es) t)
    (hd : (x == ("__debug__" : Str)) = false := by decide) (hcd : (x == ("__classdict__" : Str)) = false := by decide)
    (he : starEach (e :: es) X.env = (false, eval e X.env) :: starEach es X.env := by rfl) (hpl : (backTo pos (starEach es X.env)).any (·.1) = false := by rfl) :
    PE X (.Call (.Name x p) (e :: es) [] pos) (tCallV i f F sp E0 t) := by
  refine ⟨fun pins s σ H Q I h => ?_⟩
  obtain ⟨hs, hf, ht⟩ := h
  refine wpAny_Call_Name_kw (thn ((pe_var (pos := p) hN hv hd hcd).run pins s σ H (fun v H1 => v = .ref f ∧ H1 = H) I ⟨.ref f, hs, rfl, rfl⟩) fun u s1 ⟨v, H1, I1, r1, q1⟩ => ?_)
  obtain ⟨ev, eH⟩ := q1
  subst ev
  rw [eH] at I1
  obtain rfl : u = Value.ref f := r1
  refine PySem.W.callWith_F (first := []) (fnAt_of I1 hf) (thn (ha.run pos pins s1 σ H _ I1 ht) fun us s2 ⟨vs, H2, I2, r, h1, h2, q⟩ => ⟨fnAt_of I2 h1, ?_⟩) he hpl
  show wpAny _ _ (call (.ref f) us) _ _ _
  refine wpAny_call (codeAny_mono (V X.A X.stack s2 H2 us vs Q E0 hr I2.env0 h1 h2 r q) fun r s' hq => ?_)
  cases r with
  | error e => exact (pass0 : Passes CX0 X E0) pins σ H2 s2 e s' I2 hq
  | ok fl =>
    cases fl with
    | ret u => exact I2.after hq
    | next => exact False.elim hq
    | brk => exact False.elim hq
    | cont => exact False.elim hq
theorem pe_cgC {sp0 : Sp} (G0 : Good X.prog X.w X.K X.mg X.base CX0 k (x, none) ps sp0) (hr : Room k X.A) (hfn : ∀ y, X.fn y = true) (hm : X.mg x = some (.ref (He.ga X.K x))) (ha : PA X (e :: es) t) (hg : Gl X x := by rfl)
    (hdb : (x == ("__debug__" : Str)) = false := by decide) (he : starEach (e :: es) X.env = (false, eval e X.env) :: starEach es X.env := by rfl) (hpl : (backTo pos (starEach es X.env)).any (·.1) = false := by rfl) :
    PE X (.Call (.Name x p) (e :: es) [] pos) (tCallC X k (x, none) ps E0 t) := by
  obtain ⟨fd, F0, b, kp, lk⟩ := G0
  refine ⟨fun pins s σ H Q I h => ?_⟩
  refine wpAny_Call_Name_kw (ld_glob I hg hm ?_ hdb)
  refine PySem.W.callWith_K (h₀ := X.base) I.ok.mod.kin kp (thn (ha.run pos pins s σ H _ I h) fun us s1 ⟨vs, H1, I1, r, q⟩ => ⟨I1.kIn, ?_⟩) he hpl
  obtain ⟨sp, hG, q⟩ := q
  obtain ⟨fd2, F, b2, kp2, lk2⟩ := hG (baseC X s1.heap) I1.ok fun cl fr js c => cellsB I1 c
  cases lk.eq lk2
  have hl : us.length = ps.length := by rw [← r.length]; exact F.len _ _ _ _ q
  have hb := b s1 us I1.kIn (by rw [List.append_nil]; exact hl)
  rw [List.append_nil] at hb
  refine wpAny_call (codeAny_mono (F.run X.A X.stack s1 H1 ⟨us, []⟩ us vs Q E0 hr (env0C I1 hfn) hb r q) fun r s' hq => ?_)
  cases r with
  | error e => exact (pass0 : Passes CX0 X E0) pins σ H1 s1 e s' I1 hq
  | ok fl =>
    cases fl with
    | ret u => exact I1.after hq
    | next => exact False.elim hq
    | brk => exact False.elim hq
    | cont => exact False.elim hq
end
/-! a def whose code object's place is asked for -/
section
variable {P : Program} {w : World} {K : PySem.W.Frag} {mg : Str → Option Value} {base : Heap} {fa : List He.Fa} {fn : List He.DefD}
theorem good_mkC (T : Env fa fn K mg) (i : Nat) {d : He.DefD} {k : Nat} {N ps : List Str} {sp : Sp} {x qual : Str} {st : Stmt} {at_ : Str × Option Str} (hi : fn[i]? = some d) (hd : d = ⟨at_, x, qual, defArgs st, defBody st, defScope st, [], []⟩) (S : FnScope N ps (defScope st))
    (hb : ∀ (kV doc pm : Value) (an : Option Addr) (cdv ct : Value) (us : List Value), us.length = ps.length → bindArgs (PySem.W.fnOf x qual (defArgs st) (defBody st) (defScope st) .none kV doc pm an cdv ct) ⟨us, []⟩ = pure (ps.zip us))
    (len : ∀ vs H Q E, sp vs H Q E → vs.length = ps.length)
    (hbody : ∀ (f : Addr) (A : Around) (outer : List PySem.Env) (s : Shared) (H : Hp) (vs : List V) (Q : VK) (E : XK), Room k (A.deeper (envOfC qual (defScope st) s.heap.objs.size f (.ref (He.codeOf K at_)))) → sp vs H Q E →
      ∃ t, PSs (cxOf CX0 P w K mg base N qual (defScope st) f (.ref (He.codeOf K at_)) A outer s H E).nox (defBody st) t ∧ t { nx := fun _ H' => Q .non H', rt := Q } (start N vs) H) : Good P w K mg base CX0 (k + 1) at_ ps sp := by
  subst hd
  obtain ⟨fd, F⟩ := T.c.def_ i hi
  have FA := fdAt_of (p := at_) F
  refine ⟨fd, ?_, FunD.bindsN F hb, F.kp, FA⟩
  obtain ⟨oc, od, dV, kV, doc, pm, an, cdv, ct, osl, rfl, lk, hcd, h1, h2⟩ := F.ex
  obtain ⟨c, rfl⟩ := He.codeIn_ref hcd
  have ec : He.codeOf K at_ = c := He.codeOf_eq lk rfl
  refine fn_of lk hcd S len fun A outer s H vs Q E hr h => ?_
  obtain ⟨t, h1, h2⟩ := hbody _ A outer s H vs Q E (by rw [ec]; exact hr) h
  rw [ec] at h1
  exact ⟨t, h1.nox, h2⟩
end
/-! ### a law with tables of code objects -/
/-- the law's row, by a frame that is told with the heap -/
theorem walk_ofTE {l : PySem.W.OpenLaw} {n k : Nat} {q : Program} {loose : List Str} {XP : (Str → Option Value) → Heap → Prop} {YP : World → Heap → Prop} {d : DefRec} {CX : CXT} {x : Str}
    (hn : l.most = some n) (hn2 : n ≤ sizeLine) (hdf : d.params.defaults = []) (hr : Room k callerA)
    (F : ∀ (w : World) (mg : Str → Option Value) (fa : Addr) (h : Heap), YP w h → h.Ns mainGlobals mg → mg d.name = some (.ref fa) → ∃ K : PySem.W.Frag, K.In h ∧ LamX.LawAtS l w K CX k n x mg fa h)
    (hCX : ∀ (H : Hp) (s : Shared) (e : Value) (s' : Shared), CX [] H s (fun _ _ _ => False) e s' → False) :
    PySem.W.WalkO q loose XP YP l.row.toRowW d [] (fun f vs => PySem.call f vs) := by
  refine Att.attach_callB hn hdf fun w s₀ s₁ mg mb fa o pm cd doc a vs ns G Y ho hd hcd hmg hobj hints hlen hbits hg => ?_
  obtain ⟨K, KX, fd, cs, sp, hT, nT, C, hb, hsp, hF⟩ := F w mg fa _ Y G.T.g hmg
  exact LamX.law_callTs KX G.T.g G.T.b G.T.builtins G.T.nolimit hg hT nT C G.T.bmain hobj hints (Nat.le_trans hlen hn2) hr hF hb (fun H hH hS => hsp H a ns hlen hbits hH hS) fun H e s' => hCX H s₁ e s'
end JF

/-! ### groves beside tables of code objects -/
namespace JF
open PySem PySem.Spec PyProof.Rows L2 LamX
theorem GAt.tbl_out {C : Addr} {H : Hp} {a : GA} {rows : List (Int × Addr)} {q : List Sq} (G : GAt C H a rows q) {b : Addr} {ps : Array Value} (h : H b = some (.tbl ps)) : b ∉ a.muts rows := by
  obtain ⟨tups, mk, spt, D⟩ := G.da
  intro z
  unfold GA.muts GA.m5 at z
  simp only [List.cons_append, List.nil_append, List.mem_cons, List.mem_map] at z
  rcases z with rfl | rfl | rfl | rfl | rfl | rfl | ⟨sa, hm, rfl⟩
  · rw [D.hn] at h; cases h
  · rw [D.hm] at h; cases h
  · rw [D.hl] at h; cases h
  · rw [D.hv] at h; cases h
  · rw [D.hs] at h; cases h
  · rw [G.pl] at h; cases h
  · obtain ⟨ns, e, _⟩ := G.ro sa.1 sa.2 hm
    rw [e] at h; cases h
theorem GAt.ext_out {C : Addr} {H : Hp} {a : GA} {rows : List (Int × Addr)} {q : List Sq} (G : GAt C H a rows q) {b : Addr} {φ : Heap → Prop} (h : H b = some (.ext φ)) : b ∉ a.muts rows := by
  obtain ⟨tups, mk, spt, D⟩ := G.da
  intro z
  unfold GA.muts GA.m5 at z
  simp only [List.cons_append, List.nil_append, List.mem_cons, List.mem_map] at z
  rcases z with rfl | rfl | rfl | rfl | rfl | rfl | ⟨sa, hm, rfl⟩
  · rw [D.hn] at h; cases h
  · rw [D.hm] at h; cases h
  · rw [D.hl] at h; cases h
  · rw [D.hv] at h; cases h
  · rw [D.hs] at h; cases h
  · rw [G.pl] at h; cases h
  · obtain ⟨ns, e, _⟩ := G.ro sa.1 sa.2 hm
    rw [e] at h; cases h
theorem GAt.extN {C : Addr} {H H1 : Hp} {a : GA} {rows : List (Int × Addr)} {q : List Sq} (G : GAt C H a rows q) (x : ExtN H H1) : GAt C H1 a rows q :=
  G.keep fun b o e z => x b o e fun ps y => by
    subst y
    rcases z with z | z
    · exact z
    · exact G.tbl_out e z
theorem tabsL_fr {T : List (Addr × Str)} {H H' : Hp} (t : Tabs T H) (k : ∀ b o, H b = some o → ((∃ ps, o = .tbl ps) ∨ ∃ φ, o = .ext φ) → H' b = some o) : Tabs T H' := fun p hp => by
  obtain ⟨ps, h1, h2, h3⟩ := t p hp
  refine ⟨ps, k _ _ h1 (.inl ⟨_, rfl⟩), h2, fun pos cv hc => ?_⟩
  obtain ⟨c, e1, e2⟩ := h3 pos cv hc
  exact ⟨c, e1, k _ _ e2 (.inr ⟨_, rfl⟩)⟩
theorem tabsL_same {T : List (Addr × Str)} {H H1 : Hp} (t : Tabs T H) (s : Same H H1) : Tabs T H1 := tabsL_fr t fun b o e _ => s b o e
theorem tabsL_step {T : List (Addr × Str)} {C : Addr} {H H1 : Hp} {a : GA} {rows r1 : List (Int × Addr)} {q q1 : List Sq} (t : Tabs T H) (G : GAt C H a rows q) (x : GStep C H a rows q H1 r1 q1) : Tabs T H1 :=
  tabsL_fr t fun b o e h => x.fr b o e (by
    rcases h with ⟨ps, rfl⟩ | ⟨φ, rfl⟩
    · exact G.tbl_out e
    · exact G.ext_out e)
end JF

/-! ### a lambda without parameters, handed to a def with one argument more -/
namespace JF
open PySem PySem.Spec PyProof.Rows L2 LamX
/-- the context of the lambda's body; what it lets out -/
abbrev lamN (X : Cx) (A : Around) (outer : List PySem.Env) (s : Shared) (H : Hp) (E : XK) (scope : Scope) (f c' : Addr) : Cx :=
  (lamCx X A outer s H E scope f c').tr [] (fun e s' => wpAny (model X.prog X.w) (A.deeper (lamEnv X scope s.heap.objs.size f c')) (leaving (lamEnv X scope s.heap.objs.size f c') e) (fun _ s'' => L2N.CX X.prog X.w outer H s E e s'') (fun e' s'' => L2N.CX X.prog X.w outer H s E e' s'') s')
theorem lamN_takes {X : Cx} {A : Around} {outer : List PySem.Env} {s : Shared} {H : Hp} {E : XK} {scope : Scope} {f c' : Addr} : L2N.Takes (lamN X A outer s H E scope f c') (fun cls d _ H' => E cls d H') := L2N.takes_of rfl rfl rfl rfl
abbrev actCx (CXg : CXT) (X : Cx) (Ng : List Str) (qg : Str) (sg : Scope) (g : Addr) (cdg : Value) (A : Around) (outer : List PySem.Env) (s : Shared) (H : Hp) (Eg : XK) : Cx := cxOf CXg X.prog X.w X.K X.mg X.base Ng qg sg g cdg A outer s H Eg
section
variable {X : Cx} {pins : List (Addr × Obj)} {σ : L2.St} {H : Hp} {s : Shared}
/-- a(), where a is the lambda -/
theorem pe_actN {CXg : CXT} {Eg : XK} {Ng : List Str} {qg : Str} {sg : Scope} {g f c' : Addr} {cdg pm ctv : Value} {params : Arguments} {body : Expr} {scope : Scope} {k i : Nat} {a : Str} {pn : List (Addr × Obj)} {xe : Value → Shared → Prop} {W : WX} {tb : XK → TE} {p1 p2 : Pos}
    (I : Inv X pins σ H s) (L : LamS X.env.scope scope) (hf : s.heap.get? f = some (PySem.W.kla_obj "<lambda>" (X.env.qual ++ "<lambda>") params body scope (cloFrom X.env.cells scope.names []) pm c' ctv)) (hfn : H f = none) (hfr : f ∉ frs X.stack)
    (hbind : bindArgs (PySem.W.kla_fn "<lambda>" (X.env.qual ++ "<lambda>") params body scope (cloFrom X.env.cells scope.names []) pm (.ref c') ctv) ⟨[], []⟩ = pure [])
    (tk : L2N.Takes ((actCx CXg X Ng qg sg g cdg X.A X.stack s H Eg).tr pn xe) W) (hr : Room (k + 1) (X.A.deeper (envOfC qg sg s.heap.objs.size g cdg)))
    (hbody : ∀ (A : Around) (outer : List PySem.Env) (s : Shared) (H : Hp) (E : XK), Room k (A.deeper (lamEnv X scope s.heap.objs.size f c')) → PE (lamN X A outer s H E scope f c') body (tb E))
    (hN : Ng[i]? = some a) (hv : Vis sg a) (hd : (a == ("__debug__" : Str)) = false) (hcd : (a == ("__classdict__" : Str)) = false) :
    PE ((actCx CXg X Ng qg sg g cdg X.A X.stack s H Eg).tr pn xe) (.Call (.Name a p1) [] [] p2)
      (fun σZ HZ Q => σZ[i]? = some (some (.ref f)) ∧ HZ c' = some (CodeO c' (X.env.qual ++ "<lambda>")) ∧ tb (fun cls d H' => W cls d σZ H') σ HZ Q) := by
  refine ⟨fun qins t σZ HZ Q J h => ?_⟩
  obtain ⟨slot, code, run⟩ := h
  refine wpAny_Call_Name_kw (thn ((pe_var (pos := p1) (i := i) hN hv hd hcd).run qins t σZ HZ (fun v G => v = .ref f ∧ G = HZ) J ⟨.ref f, slot, rfl, rfl⟩) fun u t1 got => ?_)
  obtain ⟨v, G, J1, ru, ev, eG⟩ := got
  subst ev eG
  obtain rfl : u = Value.ref f := ru
  have there : t1.heap.get? f = some (PySem.W.kla_obj "<lambda>" (X.env.qual ++ "<lambda>") params body scope (cloFrom X.env.cells scope.names []) pm c' ctv) := J1.base.keep f _ hf hfn hfr (fun z => nomatch (show f ∈ ([] : List Addr) from z))
  refine PySem.W.callWith_F0 ⟨_, _, _, _, there⟩ ?_
  obtain ⟨⟨oc, vs, nm, o1, o2, o3⟩, _, _⟩ := J1.hok c' _ code
  have kept : Un (frs X.stack) [] H G s.heap t1.heap := J1.base
  refine wpAny_call (codeAny_mono (R := CR (L2N.CX X.prog X.w) (envOfC qg sg s.heap.objs.size g cdg :: X.stack) X.prog X.w G t1 Q (fun cls d H' => W cls d σZ H')) (PySem.W.kla_callFunE hr.depth there rfl L.co L.gen rfl ⟨c', oc, vs, nm, rfl, o1, o2, o3⟩ ?_) fun r t2 fin => ?_)
  · show wpAny _ _ (bindArgs _ ⟨[], []⟩) _ _ _
    rw [hbind]
    refine wpAny_pure (wpAny_newFunctionEnv (fun y hy => (L.own y hy).2) (fun y hy => absurd hy (by simp)) (fun h₁ ns sb => ⟨J1.nolimit.fresh _ sb, ?_⟩) L.kind)
    have more : ∀ b o, t1.heap.get? b = some o → h₁.get? b = some o := fun b o e => sb.extBut b o (Nat.ne_of_lt (Heap.lt_size e)) (Heap.get?_push_of_some _ e)
    have start : Inv (lamN X (X.A.deeper (envOfC qg sg s.heap.objs.size g cdg)) (envOfC qg sg s.heap.objs.size g cdg :: X.stack) t1 G (fun cls d H' => W cls d σZ H') scope f c') [] σ G { t1 with heap := h₁, toks := t1.toks + ([] : List (Str × Value)).length } :=
      (lam_start2 (E := fun cls d H' => W cls d σZ H') (c' := c') (f := f) I L J1.env0 hr.hd kept ns more).toTry _
    refine PySem.W.kla_codeExpr (wpAny_mono ((hbody _ _ t1 G _ (hr.deeper _)).run [] _ _ G Q start run) (fun v t3 ans => ?_) fun e t3 ans => ans)
    obtain ⟨x, H3, J3, rv, q3⟩ := ans
    exact ⟨x, H3, J3.os, J3.bare, J3.base, J3.hok, rv, q3⟩
  · cases r with
    | error e => exact L2N.passAt tk σZ qins G t1 e t2 J1 fin
    | ok fl =>
      cases fl with
      | ret u => exact J1.after fin
      | next => exact fin.elim
      | brk => exact fin.elim
      | cont => exact fin.elim
end
/-! #### the def that gets it -/
/-- an argument whose evaluation leaves all as it is -/
def Steady (X : Cx) (e : Expr) (te : L2.St → V → Prop) : Prop := ∀ (pins : List (Addr × Obj)) (s : Shared) (σ : L2.St) (H : Hp) (v : V), Inv X pins σ H s → te σ v → ∀ (Q : Value → Shared → Prop) (E : Value → Shared → Prop), (∀ u tk, RelV v u → Q u { s with toks := tk }) → wpAny (model X.prog X.w) X.A (eval e X.env) Q E s
theorem steady_int {X : Cx} {i : Int} {j : Nat} {pos : Pos} : Steady X (.Constant (.int i) j pos) (fun _ v => v = .int i) := fun pins s σ H v I h Q E k => by
  subst h
  exact wpAny_Constant_int (k _ _ ⟨_, rfl⟩)
theorem steady_var {X : Cx} {i : Nat} {x : Str} {pos : Pos} (hN : X.N[i]? = some x) (hv : Vis X.env.scope x) (hd : (x == ("__debug__" : Str)) = false := by decide) (hcd : (x == ("__classdict__" : Str)) = false := by decide) : Steady X (.Name x pos) (fun σ v => σ[i]? = some (some v)) := fun pins s σ H v I h Q E k => by
  obtain ⟨m, hn, hl⟩ := I.loc
  obtain ⟨u, r, l⟩ := hl i x v hN h hv
  have fin : Q u s := k u s.toks r
  rcases l with ⟨hk, hm⟩ | ⟨hk, c, hc, hcell⟩
  · exact wpAny_Name (wpAny_loadName_local I.ok.kind hk hn hm fin) hd
  · rcases hk with hk | hk
    · exact wpAny_Name (wpAny_loadName_cell I.ok.kind hk hc hcell fin) hd
    · exact wpAny_Name (wpAny_loadName_free I.ok.kind hk hc hcell fin hcd) hd
/-- the def's promise: TT tells what it makes of the lambda's reading -/
def GoodL (P : Program) (w : World) (K : PySem.W.Frag) (mg : Str → Option Value) (base : Heap) (k : Nat) (x : Str) (a b : Str) (TT : V → (XK → Hp → VK → Prop) → Hp → VK → Prop) : Prop :=
  ∃ (N : List Str) (qual : Str) (params : Arguments) (body : List Stmt) (scope : Scope) (dV kV doc pm cdv ct oc : Value) (an od : Option Addr) (osl : Array (Option Value)), K.lookup (He.fAd K (x, none)) = some ⟨oc, od, .func (PySem.W.fnOf x qual params body scope dV kV doc pm an cdv ct), osl⟩ ∧ PySem.W.codeIn K cdv qual = true ∧ FnScope N [a, b] scope ∧ N[0]? = some a ∧ Vis scope a ∧
    L2.Binds K (PySem.W.fnOf x qual params body scope dV kV doc pm an cdv ct) [a, b] [] ∧ PySem.W.keepIn K (.ref (He.fAd K (x, none))) = true ∧
    ∀ (A : Around) (outer : List PySem.Env) (s : Shared) (H : Hp) (Q : VK) (v2 : V) (f c' : Addr) (q : Str) (tl : XK → Hp → VK → Prop), Room k (A.deeper (envOfC qual scope s.heap.objs.size (He.fAd K (x, none)) cdv)) →
      (∀ (W : WX) (pn : List (Addr × Obj)) (xe : Value → Shared → Prop) (p1 p2 : Pos), L2N.Takes ((cxOf CX0 P w K mg base N qual scope (He.fAd K (x, none)) cdv A outer s H E0).tr pn xe) W → PE ((cxOf CX0 P w K mg base N qual scope (He.fAd K (x, none)) cdv A outer s H E0).tr pn xe) (.Call (.Name a p1) [] [] p2) (fun σZ HZ Q => σZ[0]? = some (some (.ref f)) ∧ HZ c' = some (CodeO c' q) ∧ tl (fun cls d H' => W cls d σZ H') HZ Q)) →
      H c' = some (CodeO c' q) → TT v2 tl H Q → ∃ t, PSs (cxOf CX0 P w K mg base N qual scope (He.fAd K (x, none)) cdv A outer s H E0).nox body t ∧ t { nx := fun _ H' => Q .non H', rt := Q } (L2.start N [.ref f, v2]) H
def tLam2 (T : List (Addr × Str)) (TT : V → (XK → Hp → VK → Prop) → Hp → VK → Prop) (t : XK → TE) (te : L2.St → V → Prop) : TE := fun σ H Q => Tabs T H ∧ ∃ v2, te σ v2 ∧ ∀ H1, ExtN H H1 → Tabs T H1 → TT v2 (fun E H' Q' => t E σ H' Q') H1 Q
section
variable {X : Cx}
/-- x(lambda: body, e2) -/
theorem pe_lam2 (K : PySem.W.Frag) (hK : X.K = K) {T : List (Addr × Str)} {TT : V → (XK → Hp → VK → Prop) → Hp → VK → Prop} {x a b : Str} {c P : Addr} {k : Nat} {params : Arguments} {body e2 : Expr} {scope : Scope} {t : XK → TE} {te : L2.St → V → Prop} {p lpos pos : Pos}
    (G : GoodL X.prog X.w K X.mg X.base k x a b TT) (hg : Gl X x) (hm : X.mg x = some (.ref (He.ga K x))) (h2 : Steady X e2 te) (TB : TabB X.base X.mg c P) (hcode : X.env.code = .ref c) (hmT : (P, X.env.qual ++ "<lambda>") ∈ T) (hu : ∀ p ∈ T, p.1 = P → p.2 = X.env.qual ++ "<lambda>") (hr : Room (k + 1) X.A) (hk1 : 1 ≤ k) (L : LamS X.env.scope scope) (hdef : defaultsOf params X.env = ([], []))
    (hbind : ∀ (q : Str) (cl : List (Str × Addr)) (pm cv ctv : Value), bindArgs (PySem.W.kla_fn "<lambda>" q params body scope cl pm cv ctv) ⟨[], []⟩ = pure [])
    (hbody : ∀ (A : Around) (outer : List PySem.Env) (s : Shared) (H : Hp) (E : XK) (f c' : Addr), Room (k - 1) (A.deeper (lamEnv X scope s.heap.objs.size f c')) → PE (lamN X A outer s H E scope f c') body (t E))
    (hdb : (x == ("__debug__" : Str)) = false := by decide) (hd : (a == ("__debug__" : Str)) = false := by decide) (hcd : (a == ("__classdict__" : Str)) = false := by decide)
    (hs1 : starEach [.Lambda params body scope lpos, e2] X.env = (false, eval (.Lambda params body scope lpos) X.env) :: starEach [e2] X.env := by rfl) (hs2 : starEach [e2] X.env = (false, eval e2 X.env) :: starEach [] X.env := by rfl) (hpl : (backTo pos (starEach [e2] X.env)).any (·.1) = false := by rfl) :
    PE X (.Call (.Name x p) [.Lambda params body scope lpos, e2] [] pos) (tLam2 T TT t te) := by
  subst hK
  obtain ⟨N, qual, ps, bd, sc, dV, kV, doc, pm, cdv, ct, oc, an, od, osl, lk, hcd', Sg, hN0, hva, hb, hkp, hG⟩ := G
  refine ⟨fun pins s σ H Q I h => ?_⟩
  obtain ⟨hT, v2, hv2, h⟩ := h
  refine wpAny_Call_Name_kw (ld_glob I hg hm ?_ hdb)
  refine PySem.W.callWith_K (h₀ := X.base) I.ok.mod.kin hkp ?_ hs1 hpl
  refine args_cons (lam_make2 I TB hcode hmT hu hT hdef (L.has I.ok) fun f c' pm' ctv H1 s' I1 eN T1 hf hfn hfr hco => ?_) hs1
  refine args_cons (h2 pins s' σ H1 v2 I1 hv2 _ _ fun u tk ru => args_nil ?_) hs2
  have I2 : Inv X pins σ H1 { s' with toks := tk } := I1.tok tk
  refine ⟨I2.kIn, ?_⟩
  refine wpAny_call (codeAny_mono (R := CR CX0 X.stack X.prog X.w H1 { s' with toks := tk } Q E0) (run_ofS (k := k) (N := N) (ps := [a, b]) (us := [.ref f, u]) (vs := [.ref f, v2]) lk hcd' Sg hr I2.env0 (hb _ [.ref f, u] I2.kIn rfl) (.cons rfl (.cons ru .nil)) rfl fun hr' => ?_) fun r t2 fin => ?_)
  · obtain ⟨k', rfl⟩ : ∃ k', k = k' + 1 := ⟨k - 1, by omega⟩
    obtain ⟨t', ht', hq'⟩ := hG X.A X.stack { s' with toks := tk } H1 Q v2 f c' (X.env.qual ++ "<lambda>") (fun E H' Q' => t E σ H' Q') hr' (fun W pn xe p1 p2 tk' => pe_actN (k := k') (i := 0) (CXg := CX0) (Eg := E0) I2 L hf hfn hfr (hbind _ _ _ _ _) tk' hr' (fun A outer s H E hr2 => hbody A outer s H E f c' hr2) hN0 hva hd hcd) hco (h H1 eN T1)
    exact ⟨t', ht'.nox, hq'⟩
  · cases r with
    | error e => exact (show False from fin).elim
    | ok fl =>
      cases fl with
      | ret u => exact I2.after fin
      | next => exact fin.elim
      | brk => exact fin.elim
      | cont => exact fin.elim
end
section
variable {P : Program} {w : World} {K : PySem.W.Frag} {mg : Str → Option Value} {base : Heap} {fa : List He.Fa} {fn : List He.DefD}
theorem goodL_mk (T : Env fa fn K mg) (i : Nat) {d : He.DefD} {k : Nat} {N : List Str} {a b x qual : Str} {st : Stmt} {TT : V → (XK → Hp → VK → Prop) → Hp → VK → Prop} (hi : fn[i]? = some d) (hd : d = ⟨(x, none), x, qual, defArgs st, defBody st, defScope st, [], []⟩) (S : FnScope N [a, b] (defScope st))
    (hb : ∀ (kV doc pm : Value) (an : Option Addr) (cdv ct : Value) (us : List Value), us.length = [a, b].length → bindArgs (PySem.W.fnOf x qual (defArgs st) (defBody st) (defScope st) .none kV doc pm an cdv ct) ⟨us, []⟩ = pure ([a, b].zip us))
    (hN0 : N[0]? = some a) (hva : Vis (defScope st) a)
    (hbody : ∀ (cdv : Value) (A : Around) (outer : List PySem.Env) (s : Shared) (H : Hp) (Q : VK) (v2 : V) (f c' : Addr) (q : Str) (tl : XK → Hp → VK → Prop), Room k (A.deeper (envOfC qual (defScope st) s.heap.objs.size (He.fAd K (x, none)) cdv)) →
      (∀ (W : WX) (pn : List (Addr × Obj)) (xe : Value → Shared → Prop) (p1 p2 : Pos), L2N.Takes ((cxOf CX0 P w K mg base N qual (defScope st) (He.fAd K (x, none)) cdv A outer s H E0).tr pn xe) W → PE ((cxOf CX0 P w K mg base N qual (defScope st) (He.fAd K (x, none)) cdv A outer s H E0).tr pn xe) (.Call (.Name a p1) [] [] p2) (fun σZ HZ Q => σZ[0]? = some (some (.ref f)) ∧ HZ c' = some (CodeO c' q) ∧ tl (fun cls d H' => W cls d σZ H') HZ Q)) →
      H c' = some (CodeO c' q) → TT v2 tl H Q → ∃ t, PSs (cxOf CX0 P w K mg base N qual (defScope st) (He.fAd K (x, none)) cdv A outer s H E0).nox (defBody st) t ∧ t { nx := fun _ H' => Q .non H', rt := Q } (L2.start N [.ref f, v2]) H) : GoodL P w K mg base k x a b TT := by
  subst hd
  obtain ⟨fd, F⟩ := T.c.def_ i hi
  have bn := FunD.bindsN F hb
  have kp := F.kp
  obtain ⟨oc, od, dV, kV, doc, pm, an, cdv, ct, osl, rfl, lk, hcd, _, _⟩ := F.ex
  exact ⟨N, qual, _, _, _, _, _, doc, pm, cdv, ct, oc, an, od, osl, lk, hcd, S, hN0, hva, bn, kp, fun A outer s H Q v2 f c' q tl hr act hc h => hbody cdv A outer s H Q v2 f c' q tl hr act hc h⟩
end
end JF

/-! ### name = [..] whose element may raise -/
namespace JF
open PySem PySem.Spec PyProof PyProof.Rows L2
section
variable {M : Model} {A : Around} {E : Value → Shared → Prop} {s : Shared} {env : PySem.Env}
/-- wanted behind the block; an exception goes on by this frame's hand -/
def pstR (M : Model) (A : Around) (E : Value → Shared → Prop) (env : PySem.Env) (use : Option (Value → Sem Unit)) (Q : Value → Shared → Prop) (acc : Value) (C : Addr) : Result → Shared → Prop
  | .ok f, s' => compPost M A E use Q acc C (.ok f) s'
  | .error x, s' => (∃ m, s'.heap.Ns C m) ∧ ∀ h' (ce : PySem.Env), Heap.SameBut C s'.heap h' → ce.frame = env.frame → wpAny M A (passOn "comprehension.variables-let-go" x ce : Sem Value) (fun _ _ => False) E { s' with heap := h' }
theorem comp_raises {e : Expr} {scope : Scope} {pos : Pos} {nw fst : Sem Value} {g : Comprehension} {gs : List Comprehension} {cl : List (Str × Addr)} {use : Option (Value → Sem Unit)} {Q : Value → Shared → Prop}
    (c1 : clausesOf e = g :: gs) (c2 : ∀ x, foldedSetIterable g.iter env x = pure x) (c3 : closureFor scope env = pure cl) (c4 : scope.kind = .function) (c5 : ∀ y ∈ scope.names, y.2 = .local → scope.names.lookup y.1 = some .local)
    (h : wpAny M A fst (fun x s1 => wpAny M A (pyIter x) (fun it s2 => wpAny M A nw (fun acc s3 => wpAny M A (newFunctionEnv scope env.globals cl [] env.qual none .none (some env)) (fun ce s4 =>
      ce.frame = env.frame ∧ codeAny M A (.compStart e 0 it acc { ce with scope := relabel scope env }) (pstR M A E env use Q acc ce.locals) s4) E s3) E s2) E s1) E s) :
    wpAny M A (comprehension e scope env pos nw false fst use) Q E s := by
  unfold comprehension
  rw [c3, c1]
  refine wpAny_bind (wpAny_mono h (fun x s1 h1 => ?_) fun _ _ z => z)
  refine wpAny_bind (wpAny_standAt (wpAny_bind (wpAny_of_eq (c2 x) (wpAny_bind (wpAny_holding ?_)))))
  refine wpAny_mono h1 (fun it s2 h2 => ?_) fun _ _ z => z
  refine wpAny_standIf (wpAny_bind (wpAny_mono h2 (fun acc s3 h3 => ?_) fun _ _ z => z))
  refine wpAny_bind (wpAny_pure (wpAny_bind (wpAny_mono h3 (fun ce s4 h4 => ?_) fun _ _ z => z)))
  obtain ⟨fr, h4⟩ := h4
  dsimp only
  have kd : ∀ y ∈ scope.names, y.2 = .local → PySem.Env.kindOf { ce with scope := relabel scope env } y.1 = some .local := fun y my l => lookup_relabel_local (c5 y my l)
  have kd1 : ∀ y ∈ (scope.names.filter fun x => (x.2 == .local || x.2 == .cell) && x.1 != (".0" : Str)).reverse, y.2 = .local → PySem.Env.kindOf { ce with scope := relabel scope env } y.1 = some .local :=
    fun y my => kd y (List.mem_filter.mp (List.mem_reverse.mp my)).1
  refine wpAny_holding (wpAny_bind (wpAny_attempt (wpAny_holding (wpAny_run (codeAny_mono h4 fun r t hr => ?_)))))
  match r, use, hr with
  | .ok f, none, hr =>
    obtain ⟨m, ns, go⟩ := hr
    exact wpAny_bind (wpAny_holding (wpAny_comp_letGo (cenv := { ce with scope := relabel scope env }) c4 _ t m kd1 ns fun h' _ _ sb => wpAny_pure (go h' sb)))
  | .ok f, some u, hr =>
    refine wpAny_bind (wpAny_rule (wpAny_bind (wpAny_holding (wpAny_mono hr (fun _ t2 hr2 => ?_) fun _ _ z => z))))
    obtain ⟨m, ns, go⟩ := hr2
    refine wpAny_bind (wpAny_comp_letGo (cenv := { ce with scope := relabel scope env }) c4 _ t2 m (fun y my l => ?_) ns fun h' _ _ sb => wpAny_pure (go h' sb))
    exact (List.mem_append.mp my).elim (fun z => kd1 y (List.mem_of_mem_drop z) l) fun z => kd1 y (List.mem_of_mem_take z) l
  | .error x, use, hr =>
    obtain ⟨⟨m, ns⟩, go⟩ := hr
    refine wpAny_bind (wpAny_holding (wpAny_comp_letGo (cenv := { ce with scope := relabel scope env }) c4 _ t m kd1 ns fun h' _ _ sb => ?_))
    exact wpAny_mono (go h' _ sb fr) (fun _ _ z => z.elim) fun _ _ z => z
end
/-! #### an exception of the block is one of the frame -/
theorem ff_but {h h' B B' : Heap} {C : Addr} (sb : Heap.SameBut C h h') (hB : ∀ b, B.get? b = none → B'.get? b = none) : ∀ l : List PySem.Env, C ∉ frs l → h.FunFrames B l → h'.FunFrames B' l
  | [], _, _ => trivial
  | en :: l, n, ⟨k, ⟨L, o, e1, e2, e3, e4⟩, r⟩ => by
    have nL : L ≠ C := fun z => n (List.mem_filterMap.mpr ⟨en, List.mem_cons_self, by rw [e1, z]⟩)
    exact ⟨k, ⟨L, o, e1, hB L e2, (sb.2 L nL).trans e3, e4⟩, ff_but sb hB l (fun z => n (by
      obtain ⟨y, hy, q⟩ := List.mem_filterMap.mp z
      exact List.mem_filterMap.mpr ⟨y, List.mem_cons_of_mem _ hy, q⟩)) r⟩
theorem held_but {h h' B : Heap} {C a L : Addr} {Z : Obj → Prop} {l : List PySem.Env} (sb : Heap.SameBut C h h') (n : C ∉ frs l) {oC : Obj} (hC : h.get? C = some oC) (nC : ∀ vs, oC.data ≠ .fields vs) (x : HandSPX.HeldZ B l a Z L h) : HandSPX.HeldZ (PySem.W.hideAll B [C]) l a Z L h' := by
  obtain ⟨x1, x2, x3, oe, vs, T, oT, ts, t1, t2, t3, t4, t5, t6, t7, t8, t9⟩ := x
  have hB : ∀ b, B.get? b = none → (PySem.W.hideAll B [C]).get? b = none := fun b e => by
    cases z : (PySem.W.hideAll B [C]).get? b with
    | none => rfl
    | some o => rw [PySem.W.of_hideAll _ z] at e; cases e
  have aC : a ≠ C := fun z => by rw [z, hC] at t1; cases t1; exact nC _ t3
  have TC : T ≠ C := fun z => by rw [z, hC] at t7; cases t7; exact nC _ t8
  refine ⟨fun b o e => ?_, hB a x2, ff_but sb hB l n x3, oe, vs, T, oT, ts, (sb.2 a aC).trans t1, t2, t3, t4, hB T t5, t6, (sb.2 T TC).trans t7, t8, t9⟩
  have bC : b ≠ C := fun z => by rw [z, PySem.W.hideAll_none _ List.mem_cons_self] at e; cases e
  exact (sb.2 b bC).trans (x1 b o (PySem.W.of_hideAll _ e))
theorem pass_held {M : Model} {A : Around} {E : Value → Shared → Prop} {s : Shared} {B : Heap} {a L : Addr} {Z : Obj → Prop} {l : List PySem.Env} {ce : PySem.Env} {what : String} (fr : ce.frame = some L) (x : HandSPX.HeldZ B l a Z L s.heap)
    (k : ∀ h', HandSPX.HeldZ B l a Z L h' → s.heap.UpToSlots h' → E (.ref a) { s with heap := h' }) : wpAny M A (passOn what (.ref a) ce : Sem Value) (fun _ _ => False) E s := by
  obtain ⟨_, _, _, _, fs, T, _, _, g1, _, g3, g4, _⟩ := id x
  have last : wpAny M A (setFlight (.ref a) ce.frame) (fun _ s4 => wpAny M A (throw (.ref a) : Sem Value) (fun _ _ => False) E s4) E s := by
    rw [fr]
    exact HandSPX.setFlight_onZ x fun g2 held up2 => wpAny_throw (k g2 held up2)
  unfold PySem.passOn
  refine wpAny_bind (wpAny_field g1 g3 g4 ?_)
  rw [if_neg (show ¬ ((Value.ref T == Value.none) = true) by simp)]
  first | exact wpAny_bind (wpAny_pure (wpAny_bind last)) | exact wpAny_bind last
end JF

/-! #### the block's exception leaves the list unmade -/
namespace JF
open PySem PySem.Spec PyProof PyProof.Rows L2 L2N
theorem note_same {u : Value} {ce env : PySem.Env} (h : ce.frame = env.frame) : noteFrame u ce = noteFrame u env := by
  unfold noteFrame PySem.frameOf
  rw [h]
section
variable {X : Cx} {W : WX} {pins pinsB pn : List (Addr × Obj)} {σ σB : L2.St} {H3 H : Hp} {s3 s s' : Shared} {fp : List Addr} {scope : Scope} {ce : PySem.Env} {xe : Value → Shared → Prop} {V : XK} {u : Value} {use : Option (Value → Sem Unit)} {Qf : Value → Shared → Prop} {acc : Value}
theorem blk_raise (tk : L2N.Takes X W) (st : X.stack = X.env :: X.outer) (hf : X.env.frame = some X.env.locals) (I3 : Inv X pins σ H3 s3) (f3 : ∀ b ∈ fp, FpOk X pins H3 b ∧ b < s3.heap.objs.size) (cL : ce.locals = s3.heap.objs.size) (cF : ce.frame = X.env.frame)
    (I : Inv ((X.blk s3 H3 scope ce fp).tr pn xe) pinsB σB H s) (hV : ∀ cls d H', V cls d H' → W cls d σ H') (c : L2N.CX X.prog X.w X.stack H s V u s') :
    notedBy (model X.prog X.w) X.A ce (fun x s'' => pstR (model X.prog X.w) X.A X.xe X.env use Qf acc s3.heap.objs.size (.error x) s'') u s' := by
  have I7 : Inv X pins σ H s := I3.call' (ch := fp) I.os I.base I.hok I.bare fun b hb => ⟨(f3 b hb).1.2.2.2.1, (f3 b hb).1.2.1, (f3 b hb).1.2.2.2.2.1, (f3 b hb).1.2.2.2.2.2⟩
  have nC : H s3.heap.objs.size = none := cL ▸ I.free
  obtain ⟨m, ns, _⟩ := I.loc
  have ns : s.heap.Ns s3.heap.objs.size m := cL ▸ ns
  obtain ⟨o, es, ep, e1, e2, e3⟩ := ns
  obtain ⟨g0, g1, g2, g3, g4, g5⟩ := I3.fpOk (H' := H) (Nat.le_refl s3.heap.objs.size) nC
  have nf : s3.heap.objs.size ∉ frs X.stack := fun z => (List.mem_cons.mp (I3.stkSub _ z)).elim g1 g2
  generalize s3.heap.objs.size = C at *
  obtain ⟨a, B, H', cls, d, rfl, fl, hok, ub, na, os, ag, hE⟩ := c
  have eC : s'.heap.get? C = some o := fl.1 _ _ (ub.keep _ _ e1 nC nf)
  have x : L2N.XE X (fun cls d σ' H' => V cls d H' ∧ H' C = none ∧ σ' = σ) (.ref a) s' := L2N.XE.of_call (E := fun cls d H' => V cls d H' ∧ H' C = none) I7 (fun _ _ _ h => ⟨h.1, h.2, rfl⟩) ⟨a, B, H', cls, d, rfl, fl, hok, ub, na, os, ag, hE, ub.free _ _ e1 nC⟩
  obtain ⟨a2, B2, sI, pins2, σ2, H2, cls2, d2, ea, J, nb, up, sky, na2, os2, ag2, hV2, nC2, rfl⟩ := x
  cases ea
  have hfr : X.A.frames = some (X.env :: X.outer) := by rw [J.ok.frames, st]
  have ndo : ∀ vs, o.data ≠ .fields vs := fun vs z => by rw [e2] at z; cases z
  have notC : ∀ {h : Heap} {b : Addr} {v : Obj}, (PySem.W.hideAll h [C]).get? b = some v → b ≠ C := fun {h b v} e z => by rw [z, PySem.W.hideAll_none _ List.mem_cons_self] at e; cases e
  have JJ : Inv X [] σ2 H2 { sI with heap := PySem.W.hideAll sI.heap [C] } := (J.pins_of (pins' := []) fun p hp => nomatch hp).turned (t' := sI.toks) (fun b v n e => PySem.W.hideAll_get _ e fun z => n (List.mem_singleton.mp z)) nC2 g1 g3 g4 fun p hp => g5 p (by
    rw [List.append_nil] at hp
    exact List.mem_append_left _ hp)
  have go : ∀ h1, HandSPX.HeldZ B2 (X.env :: X.outer) a (L2N.Zn cls2 d2) X.env.locals h1 → s'.heap.UpToSlots h1 → pstR (model X.prog X.w) X.A X.xe X.env use Qf acc C (.error (.ref a)) { s' with heap := h1 } := fun h1 held up1 => by
    obtain ⟨sl, eC1⟩ := up1 C o eC ndo
    refine ⟨⟨m, _, es, ep, eC1, e2, e3⟩, fun h' ce' sb fr => ?_⟩
    refine pass_held (l := X.env :: X.outer) (fr.trans hf) (held_but sb (by rw [← st]; exact nf) eC1 ndo held) fun h2 held2 up2 => ?_
    refine tk _ _ ⟨a, PySem.W.hideAll B2 [C], _, [], σ2, H2, cls2, d2, rfl, JJ, fun b v e n => ?_, fun b v e nd => ?_, .inr (.inr (by rw [st]; exact held2)), na2, os2, ag2, hV _ _ _ hV2⟩
    · exact PySem.W.hideAll_get _ (nb b v (PySem.W.of_hideAll _ e) n) fun z => notC e (List.mem_singleton.mp z)
    · obtain ⟨l1, a1⟩ := up b v (PySem.W.of_hideAll _ e) nd
      obtain ⟨l2, a2⟩ := up1 b _ a1 nd
      obtain ⟨l3, a3⟩ := up2 b _ ((sb.2 b (notC e)).trans a2) nd
      exact ⟨l3, a3⟩
  show wpAny (model X.prog X.w) X.A (noteFrame (.ref a) ce) _ _ s'
  rw [note_same cF]
  rw [st] at sky
  rcases sky with ⟨hB, hn, hl, oe, vs, he, hz, hd, h1⟩ | fl2 | hh
  · exact PXN.look_newZ Zn.steady hfr hl hf he hB hn hd h1 hz go
  · exact PXN.looks_onZ Zn.steady hfr hf fl2 go
  · exact HandSPX.againZ hf hh.2.2.2 (go s'.heap hh (Heap.UpToSlots.refl _))
end
end JF

/-! #### the loop, the statement -/
namespace JF
open PySem PySem.Spec PyProof PyProof.Rows L2
abbrev bkR (X : Cx) (s : Shared) (H : Hp) (scope : Scope) (ce : PySem.Env) (fp : List Addr) (xe : Value → Shared → Prop) : Cx := (X.blk s H scope ce fp).tr [] xe
/-- what the element may let out there -/
def BlkX (Y : Cx) (V : XK) : Prop := ∀ σ, L2.PassesAt (L2N.CX Y.prog Y.w) Y σ V
def tLcX (Wo : WX) (wi : TI) (g : TG) (te : XK → TE) (vs : List Nat) : TE := fun σ H Q => tLc wi g tYes (te fun cls d H' => Wo cls d σ H') vs σ H Q
section
variable {X : Cx}
theorem bkr_fp {s3 s : Shared} {H3 H H' : Hp} {scope : Scope} {ce : PySem.Env} {fp : List Addr} {xe : Value → Shared → Prop} {σ : L2.St} (B : Inv (bkR X s3 H3 scope ce fp xe) [] σ H s) (hn : ∀ b ∈ fp, H' b = none) : ∀ b ∈ fp, FpOk (bkR X s3 H3 scope ce fp xe) [] H' b := fun b hb =>
  ⟨hn b hb, (B.ok.exf b hb).1, B.ok.exfs b hb, .inl hb, (B.ok.exf b hb).2, fun r hr => nomatch (show r ∈ ([] : List (Addr × Obj)) from by simpa using hr)⟩
theorem lcX_loop {σ : L2.St} {s3 s4 : Shared} {H3 : Hp} {elt tg iter : Expr} {scope : Scope} {vs : List Nat} {pos : Pos} {ce : PySem.Env} {g : TG} {te : TE} {J : It} {fp : List Addr} {ia D : Addr} {tn : Nat → Heap → Prop} {W : Nat → Nat → Hp → Prop} {m0 : Nat} {Q : VK} {R : Result → Shared → Prop} {xe : Value → Shared → Prop}
    (hx : xe = notedBy (model X.prog X.w) X.A ce fun e s' => R (.error e) s') (hc : X.calm = true) (T : Turn X.prog X.w X.K tg J fp ia tn) (ht : PG (bkR X s3 H3 scope ce fp xe) tg g) (he : PE (bkR X s3 H3 scope ce fp xe) elt te)
    (I4 : Inv (bkR X s3 H3 scope ce fp xe) [] (wipe σ vs) H3 s4) (st4 : tn 0 s4.heap) (fr4 : ∀ b ∈ fp, H3 b = none) (w0 : W 0 m0 H3)
    (turn : ∀ i m H, W i m H → (J.stop i H ∧ Q (.ref D) H) ∨ (J.go i H ∧ ∃ Nx : Hp → Prop, (∀ H', Nx H' → ∃ m', m' < m ∧ W (i + 1) m' H') ∧ ∀ x H', J.yld i H x H' → g x (wipe σ vs) H' fun σ2 H2 => wipe σ2 vs = wipe σ vs ∧ tYes σ2 H2 fun b H3 =>
      if b = true then te σ2 H3 fun y H4 => ∃ acc, H4 D = some (.lst acc) ∧ acc.length < sizeLine ∧ Nx (upd H4 D (.lst (acc ++ [y]))) else Nx H3))
    (fin : ∀ H5 s6, Inv (bkR X s3 H3 scope ce fp xe) [] (wipe σ vs) H5 s6 → Q (.ref D) H5 → R (.ok .next) s6) :
    codeAny (model X.prog X.w) X.A (.compLoop (.ListComp elt [⟨tg, iter, [], 0⟩] scope pos) 0 (.ref ia) (.ref D) ce) R s4 := by
  refine compLoop_any (fun n s' => ∃ i H', Inv (bkR X s3 H3 scope ce fp xe) [] (wipe σ vs) H' s' ∧ tn i s'.heap ∧ (∀ b ∈ fp, H' b = none) ∧ W i n H') (fun n s5 hn => ?_) m0 ⟨0, H3, I4, st4, fr4, w0⟩
  rw [← hx]
  obtain ⟨i, H5, I5, st5, n5, w5⟩ := hn
  rcases turn i n H5 w5 with ⟨stop, qq⟩ | ⟨go, Nx, hNx, step⟩
  · refine thn (T.done (bkR X s3 H3 scope ce fp xe) rfl rfl rfl hc i [] s5 _ H5 xe I5 (bkr_fp I5 n5) st5 stop) fun r s6 h6 => ?_
    obtain ⟨rfl, I6⟩ := h6
    exact fin H5 s6 I6 qq
  · refine thn (T.item (bkR X s3 H3 scope ce fp xe) rfl rfl rfl hc i [] s5 _ H5 xe I5 (bkr_fp I5 n5) st5 go) fun r s6 h6 => ?_
    obtain ⟨u, rfl, h6⟩ := h6
    refine thn h6 fun _ s7 h7 => ?_
    obtain ⟨x, H7, I7, r7, y7, st7, n7⟩ := h7
    have P7 := I7.pinned (bkr_fp I7 n7) (T.obj _ _ st7)
    refine thn (ht.run _ s7 _ H7 x u _ P7 r7 (step x H7 y7)) fun _ s8 h8 => ?_
    obtain ⟨σ8, H8, I8, w8, q8⟩ := h8
    refine thn ((pts_nil (X := bkR X s3 H3 scope ce fp xe)).run _ s8 σ8 H8 _ I8 q8) fun b s9 h9 => ?_
    obtain ⟨H9, I9, q9⟩ := h9
    have back : ∀ {s' : Shared} {H' : Hp}, Inv (bkR X s3 H3 scope ce fp xe) ([] ++ pinsAt fp s7.heap) σ8 H' s' → Nx H' → ∃ m, m < n ∧ ∃ i H', Inv (bkR X s3 H3 scope ce fp xe) [] (wipe σ vs) H' s' ∧ tn i s'.heap ∧ (∀ b ∈ fp, H' b = none) ∧ W i m H' := fun {s' H'} I' nx => by
      obtain ⟨m', lt, w'⟩ := hNx H' nx
      have still : ∀ b ∈ fp, ∀ o, s7.heap.get? b = some o → s'.heap.get? b = some o ∧ H' b = none := fun b hb o e =>
        let z := I'.pin (b, o) (List.mem_append_right _ (List.mem_append_right _ (mem_pinsAt hb e)))
        ⟨z.1, z.2.1⟩
      refine ⟨m', lt, i + 1, H', I'.unpinned.weak (by rw [← w8, wipe_length]) (fun j v e => by rw [← w8] at e; exact (wipe_some e).1), T.keep _ _ _ st7 fun b hb o e => (still b hb o e).1, fun b hb => ?_, w'⟩
      obtain ⟨o, e, _⟩ := T.obj _ _ st7 b hb
      exact (still b hb o e).2
    cases b with
    | false => exact back I9 (by simpa using q9)
    | true =>
      have q9' := by simpa only [if_true] using q9
      simp only [if_true]
      refine thn (he.run _ s9 σ8 H9 _ I9 q9') fun z s10 h10 => ?_
      obtain ⟨yv, H10, I10, r10, acc, hD, sz, nx⟩ := h10
      exact app_ok (X := bkR X s3 H3 scope ce fp xe) I10 hD sz r10 fun s11 I11 => back I11 nx
theorem lcX_core {W : WX} {pins : List (Addr × Obj)} {s : Shared} {σ : L2.St} {H : Hp} {Q : VK} {elt tg iter : Expr} {scope : Scope} {own : List (Str × Nat)} {pos pos' : Pos} {wi : TI} {g : TG} {te : XK → TE} {use : Option (Value → Sem Unit)} {Qf : Value → Shared → Prop}
    (tk : L2N.Takes X W) (hst : X.stack = X.env :: X.outer) (hf : X.env.frame = some X.env.locals) (hc : X.calm = true) (nd : X.N.Nodup) (I : Inv X pins σ H s) (it : PI X tg iter wi) (bo : BlkOk X.N X.env.scope scope own)
    (ht : ∀ (xe : Value → Shared → Prop) (s : Shared) (H : Hp) (C : Addr) (cl : List (Str × Addr)) (fp : List Addr), PG (bkR X s H scope (compEnvC scope cl C X.env) fp xe) tg g)
    (he : ∀ (V : XK) (xe : Value → Shared → Prop) (s : Shared) (H : Hp) (C : Addr) (cl : List (Str × Addr)) (fp : List Addr), BlkX (bkR X s H scope (compEnvC scope cl C X.env) fp xe) V → PE (bkR X s H scope (compEnvC scope cl C X.env) fp xe) elt (te V))
    (fold : ∀ x, foldedSetIterable iter X.env x = pure x) (h : tLcX W wi g te (own.map (·.2)) σ H Q)
    (hRR : ∀ D C s' m H', Inv X pins σ H' s' → Q (.ref D) H' → s'.heap.Ns C m → FpOk X pins H' C → compPost (model X.prog X.w) X.A X.xe use Qf (.ref D) C (.ok .next) s') :
    wpAny (model X.prog X.w) X.A (comprehension (.ListComp elt [⟨tg, iter, [], 0⟩] scope pos) scope X.env pos' (newList []) false (eval iter X.env) use) Qf X.xe s := by
  have clo := closure_ok (scope := scope) (env := X.env) fun y my fr => (bo.free y my fr).elim (fun k => I.ok.has _ (.inl k)) fun k => I.ok.has _ (.inr k)
  refine comp_raises rfl fold clo bo.kind (fun y my l => by rw [bo.uniq y my, l]) (thn (it.run pins s σ H _ I h) fun v s1 h1 => thn h1 fun itv s2 h2 => ?_)
  obtain ⟨ia, fp, tn, J, H2, rfl, I2, T, st2, f2, q⟩ := h2
  refine wpAny_newObj_type (newEnv_comp ⟨rfl, ?_⟩) (by show 0 ≤ sizeLine; decide)
  have hn2 : H2 s2.heap.objs.size = none := I2.hok.fresh (Nat.le_refl _)
  obtain ⟨Wt, ⟨m0, w0⟩, turn⟩ := q _ hn2
  have I3 : Inv X pins σ (upd H2 s2.heap.objs.size (.lst [])) { s2 with heap := s2.heap.push { cls := .type "list", data := .seq ([] : List Value).toArray } } := I2.laid (t' := s2.toks) (fun b o e => Heap.get?_push_of_some _ e) (Nat.le_refl _) ⟨Nat.zero_le _, [], 0, .nil, Heap.get?_push_size _ rfl⟩
  have lt2 : ∀ b ∈ fp, b < s2.heap.objs.size := fun b hb => let ⟨o, e, _⟩ := T.obj _ _ st2 b hb; Heap.lt_size e
  have f3 : ∀ b ∈ fp, FpOk X pins (upd H2 s2.heap.objs.size (.lst [])) b ∧ b < (s2.heap.push { cls := .type "list", data := .seq ([] : List Value).toArray }).objs.size := fun b hb =>
    ⟨⟨by rw [upd_ne (Nat.ne_of_lt (lt2 b hb))]; exact (f2 b hb).1, (f2 b hb).2⟩, by rw [Heap.size_push]; exact Nat.lt_succ_of_lt (lt2 b hb)⟩
  have st3 : tn 0 (s2.heap.push { cls := .type "list", data := .seq ([] : List Value).toArray }) := T.keep _ _ _ st2 fun b _ o e => Heap.get?_push_of_some _ e
  generalize upd H2 s2.heap.objs.size (.lst []) = H3 at I3 f3 w0
  generalize s2.heap.objs.size = D at turn ⊢
  generalize hs3 : ({ s2 with heap := s2.heap.push { cls := .type "list", data := .seq ([] : List Value).toArray } } : Shared) = s3 at I3 ⊢
  have st3 : tn 0 s3.heap := by rw [← hs3]; exact st3
  have f3 : ∀ b ∈ fp, FpOk X pins H3 b ∧ b < s3.heap.objs.size := by rw [← hs3]; exact f3
  have B := block_start I3 bo nd f3
  have st4 : tn 0 (pushCells (s3.heap.push { cls := .type "dict", data := .dict #[] }) scope.names) := T.keep _ _ _ st3 fun b _ o e => pushCells_keeps _ _ _ _ (Heap.get?_push_of_some _ e)
  have loop : codeAny (model X.prog X.w) X.A (.compLoop (.ListComp elt [⟨tg, iter, [], 0⟩] scope pos) 0 (.ref ia) (.ref D) (compEnvC scope (cellsFrom (s3.heap.objs.size + 1) scope.names (cloFrom X.env.cells scope.names [])) s3.heap.objs.size X.env)) (pstR (model X.prog X.w) X.A X.xe X.env use Qf (.ref D) s3.heap.objs.size) { s3 with heap := pushCells (s3.heap.push { cls := .type "dict", data := .dict #[] }) scope.names } := by
    have e1 := fun xe => ht xe s3 H3 s3.heap.objs.size (cellsFrom (s3.heap.objs.size + 1) scope.names (cloFrom X.env.cells scope.names [])) fp
    have e2 := fun xe => he (fun cls d H' => W cls d σ H') xe s3 H3 s3.heap.objs.size (cellsFrom (s3.heap.objs.size + 1) scope.names (cloFrom X.env.cells scope.names [])) fp
    have B' := fun xe => B.toTry xe
    have cL : (compEnvC scope (cellsFrom (s3.heap.objs.size + 1) scope.names (cloFrom X.env.cells scope.names [])) s3.heap.objs.size X.env).locals = s3.heap.objs.size := rfl
    have cF : (compEnvC scope (cellsFrom (s3.heap.objs.size + 1) scope.names (cloFrom X.env.cells scope.names [])) s3.heap.objs.size X.env).frame = X.env.frame := rfl
    generalize compEnvC scope (cellsFrom (s3.heap.objs.size + 1) scope.names (cloFrom X.env.cells scope.names [])) s3.heap.objs.size X.env = ce at e1 e2 B' cL cF ⊢
    refine lcX_loop (xe := notedBy (model X.prog X.w) X.A ce fun e s' => pstR (model X.prog X.w) X.A X.xe X.env use Qf (.ref D) s3.heap.objs.size (.error e) s') rfl hc T (e1 _) (e2 _ fun σ' pb H' s' e s'' I' c => ?_) (B' _) st4 (fun b hb => (f3 b hb).1.1) w0 turn (fun H5 s6 I6 q5 => ?_)
    · exact blk_raise tk hst hf I3 f3 cL cF I' (fun _ _ _ z => z) c
    · have I7 : Inv X pins σ H5 s6 := I3.call' (ch := fp) I6.os I6.base I6.hok I6.bare fun b hb => ⟨(f3 b hb).1.2.2.2.1, (f3 b hb).1.2.1, (f3 b hb).1.2.2.2.2.1, (f3 b hb).1.2.2.2.2.2⟩
      obtain ⟨m, ns, _⟩ := I6.loc
      exact hRR D s3.heap.objs.size s6 m H5 I7 q5 (cL ▸ ns) (I3.fpOk (Nat.le_refl _) (cL ▸ I6.free))
  exact codeAny_compStart_list loop (T.self X.A 0 _ _ _ st4 loop)
theorem ps_setLcX {W : WX} {i : Nat} {y : Str} {py : Pos} {elt tg iter : Expr} {scope : Scope} {own : List (Str × Nat)} {pos spos : Pos} {wi : TI} {g : TG} {te : XK → TE} (tk : L2N.Takes X W) (hst : X.stack = X.env :: X.outer) (hf : X.env.frame = some X.env.locals) (hc : X.calm = true) (nd : X.N.Nodup) (hy : X.N[i]? = some y) (hyl : X.env.scope.names.lookup y = some .local)
    (sw : swapsWith (.ListComp elt [⟨tg, iter, [], 0⟩] scope pos) (some (.Name y py)) spos.line X.env = pure true) (it : PI X tg iter wi) (bo : BlkOk X.N X.env.scope scope own)
    (ht : ∀ (xe : Value → Shared → Prop) (s : Shared) (H : Hp) (C : Addr) (cl : List (Str × Addr)) (fp : List Addr), PG (bkR X s H scope (compEnvC scope cl C X.env) fp xe) tg g)
    (he : ∀ (V : XK) (xe : Value → Shared → Prop) (s : Shared) (H : Hp) (C : Addr) (cl : List (Str × Addr)) (fp : List Addr), BlkX (bkR X s H scope (compEnvC scope cl C X.env) fp xe) V → PE (bkR X s H scope (compEnvC scope cl C X.env) fp xe) elt (te V))
    (fold : ∀ x, foldedSetIterable iter X.env x = pure x := by intro _; rfl) : PS X (.Assign [.Name y py] (.ListComp elt [⟨tg, iter, [], 0⟩] scope pos) spos) (tAsg (tLcX W wi g te (own.map (·.2))) (gName i)) := by
  refine ⟨fun pins s σ H Dn I h => ?_⟩
  have h : tLcX W wi g te (own.map (·.2)) σ H (fun x H1 => gName i x σ H1 Dn.nx) := h
  rw [exec_Assign_Name_used _ _ _ _ sw]
  refine wpAny_bind (wpAny_standAt (wpAny_bind ?_))
  show wpAny _ X.A (do
    let _ ← comprehension (.ListComp elt [⟨tg, iter, [], 0⟩] scope pos) scope X.env (firstIterPos [⟨tg, iter, [], 0⟩] pos) (newList []) false (eval iter X.env) (some (assign (.Name y py) X.env))) _ _ s
  refine wpAny_bind (thn (lcX_core (Qf := fun _ s' => SP X pins Dn .next s') tk hst hf hc nd I it bo ht he fold h fun D C s' m H' I' q ns f => ?_) fun _ s' hq => wpAny_pure (wpAny_pure hq))
  obtain ⟨g0, g1, g2, g3, g4, g5⟩ := f
  show wpAny _ _ (assign (.Name y py) X.env (.ref D)) _ _ _
  refine wpAny_assign_Name (store_ok2 (v := V.ref D) I' nd hy (.inl hyl) rfl (fun s8 I8 ⟨a, sb, ha⟩ => ?_) (.inr hyl))
  refine ⟨m, ns.sameBut sb (ha.elim (fun z => by rw [z]; exact g1) fun z e => g4 y a z e.symm), fun h9 sb9 => ?_⟩
  exact ⟨_, H', I8.turned (t' := s8.toks) (fun b o hb e => (sb9.2 b hb).trans e) g0 g1 g3 g4 g5, q⟩
/-- one or the other, kept by its name -/
def tEi (t1 t2 : TE) : TE := fun σ H Q => t1 σ H Q ∨ t2 σ H Q
theorem pe_orK {e : Expr} {t1 t2 : TE} (h1 : PE X e t1) (h2 : PE X e t2) : PE X e (tEi t1 t2) := pe_or h1 h2
theorem rd_ei {t1 t2 : TE} {σ : L2.St} {H : Hp} {Q : VK} (h : t1 σ H Q ∨ t2 σ H Q) : tEi t1 t2 σ H Q := h
/-- the call of a method there -/
theorem pe_mgP {k : Nat} {m : Str} {ps : List Str} {sp : Sp} {pos apos : Pos} {e o : Expr} {es : List Expr} {ta : TE} {t : TA} {V : XK} (K : PySem.W.Frag) (hK : X.K = K) {cn : Str} {pl : Sem Bool} (bx : BlkX X V) (he : PE X o ta) (c : Cls K (He.ga K cn)) (hm : Meth K (He.ga K cn) m (He.ma K (He.ga K cn) m)) (G : Good X.prog X.w K X.mg X.base (L2N.CX X.prog X.w) k (cn, some m) ps sp) (hr : Room k X.A) (ha : PA X (e :: es) t)
    (hst : starEach (e :: es) X.env = (false, eval e X.env) :: starEach es X.env := by rfl) (hpl : (backTo pos (starEach es X.env)).any (·.1) = false := by rfl)
    (ht : eval (.Call (.Attribute o m apos) (e :: es) [] pos) X.env = (do
      let ov ← eval o X.env
      standAt apos.atName
      let (f, first) ← holding [ov] (getMethod ov m pl)
      callWith pos f first (backTo pos (starEach (e :: es) X.env)) (backToKw pos (keywordEach [] X.env))) := by rfl) :
    PE X (.Call (.Attribute o m apos) (e :: es) [] pos) (tMethX (He.ga K cn) m sp (fun _ => V) ta t) := by
  subst hK
  obtain ⟨fd, F, b, kp, lk⟩ := G
  refine ⟨fun pins s σ H Q I h => ?_⟩
  refine PySem.W.methodCall_KW (pl := pl) (thn (he.run pins s σ H _ I h) fun u s1 ⟨x, H1, I1, rx, a, dx, fs, ex, ea, l, q⟩ => ?_) ht
  subst ex
  have eu : u = Value.ref a := rx
  subst eu
  refine (getmeth_ok I1 ea c hm l ?_)
  refine (PySem.W.callWith_K (first := [.ref a]) (h₀ := X.base) I.ok.mod.kin hm.kp (thn (ha.run pos pins s1 σ H1 _ I1 q) fun us s2 ⟨vs, H2, I2, r, q2⟩ => ⟨I2.kIn, ?_⟩) hst hpl)
  exact run_fnS (us := .ref a :: us) (vs := .ref a :: vs) (E := fun _ => V) F hr b (bx σ) I2 (.cons rfl r) q2
end
end JF

/-! ### what is no number of a square is refused -/
namespace JF
open PySem PySem.Spec PyProof.Rows L2
theorem good_orX {P : Program} {w : World} {K : PySem.W.Frag} {mg : Str → Option Value} {base : Heap} {CX : CXT} {k : Nat} {p : Str × Option Str} {ps : List Str} {sp1 sp2 : Sp} (G1 : Good P w K mg base CX k p ps sp1) (G2 : Good P w K mg base CX k p ps sp2) : Good P w K mg base CX k p ps (fun vs H Q E => sp1 vs H Q E ∨ sp2 vs H Q E) := by
  obtain ⟨fd, F1, b, kp, l1⟩ := G1
  obtain ⟨fd2, F2, _, _, l2⟩ := G2
  cases l1.eq l2
  exact ⟨fd, ⟨fun vs H Q E h => h.elim (F1.len vs H Q E) (F2.len vs H Q E), fun A outer s H args us vs Q E hr he hb hv h => h.elim (F1.run A outer s H args us vs Q E hr he hb hv) (F2.run A outer s H args us vs Q E hr he hb hv)⟩, b, kp, l1⟩
/-- what may be handed in as a number -/
def KindT (H : Hp) (x : V) : Prop := ((∃ i, x = .int i) ∨ (∃ b, x = .bl b) ∨ (∃ z, x = .str z) ∨ x = .non) ∨ ∃ a xs, x = .ref a ∧ H a = some (.tup xs)
theorem KindT.tups {H H' : Hp} {x : V} (h : KindT H x) (s : ∀ b xs, H b = some (.tup xs) → H' b = some (.tup xs)) : KindT H' x := h.imp id fun ⟨a, xs, e, h⟩ => ⟨a, xs, e, s _ _ h⟩
/-- no whole number from 0 to most -/
def BadN (most : Int) (x : V) : Prop := wholeV x = false ∨ ∃ i, x = .int i ∧ (i < 0 ∨ most < i)
section
variable {P : Program} {w : World} {K : PySem.W.Frag} {mg : Str → Option Value} {base : Heap}
def sp_wholeTup : Sp := fun vs H Q _ => ∃ a xs, vs = [V.ref a] ∧ H a = some (.tup xs) ∧ Q (.bl false) H
theorem ok_wholeTup (T : Env fa fn K mg) : Good P w K mg base CX0 1 ("is_whole", none) ["thing"] sp_wholeTup := by
  refine good_mk T 0 (d := d_is_whole) (N := ["thing"]) (ps := ["thing"]) rfl rfl sc_is_whole (fun _ _ _ _ _ _ us hl => match us, hl with | [_], _ => rfl) (fun vs H Q E h => ?_) (fun f cdv A outer s H vs Q E hr h => ?_)
  · obtain ⟨a, xs, rfl, _⟩ := h; rfl
  · obtain ⟨a, xs, rfl, ha, k⟩ := h
    refine ⟨_, (pss_one (ps_ret (pe_and (pe_callB (call_isiK K rfl) (by rfl) (T.free 1) (by decide +kernel) (pa_cons (pv 0) (pa_cons (pe_bltn (v := V.ty "int") rfl (T.free 2) (by decide +kernel) rfl) pa_nil))) (pe_one (pe_not (pe_callB (call_isiK K rfl) (by rfl) (T.free 1) (by decide +kernel) (pa_cons (pv 0) (pa_cons (pe_bltn (v := V.ty "bool") rfl (T.free 0) (by decide +kernel) rfl) pa_nil)))))))), ?_⟩
    walk_at "rd"
    refine isi_ty (.base (.tup ha)) (by decide +kernel : kitB "tuple" "int" = some false) ?_
    walk_at "rd"
    exact k
def sp_wholeT : Sp := fun vs H Q _ => ∃ x, vs = [x] ∧ KindT H x ∧ Q (.bl (wholeV x)) H
theorem ok_wholeT (T : Env fa fn K mg) : Good P w K mg base CX0 1 ("is_whole", none) ["thing"] sp_wholeT := by
  obtain ⟨fd, F, b, kp, l1⟩ := good_orX (ok_is_whole (P := P) (w := w) (base := base) T) (ok_wholeTup (P := P) (w := w) (base := base) T)
  have key : ∀ vs H Q E, sp_wholeT vs H Q E → (sp_is_whole vs H Q E ∨ sp_wholeTup vs H Q E) := fun vs H Q E ⟨x, e, hk, q⟩ => by
    rcases hk with hk | ⟨a, xs, rfl, ha⟩
    · exact .inl ⟨x, e, hk, q⟩
    · exact .inr ⟨a, xs, e, ha, q⟩
  exact ⟨fd, ⟨fun vs H Q E h => F.len vs H Q E (key vs H Q E h), fun A outer s H args us vs Q E hr he hb hv h => F.run A outer s H args us vs Q E hr he hb hv (key vs H Q E h)⟩, b, kp, l1⟩
def sp_askedX (K : PySem.W.Frag) : Sp := fun vs H _ E => ∃ (a : GA) (rows : List (Int × Addr)) (q : List Sq) (x : V), vs = [.ref a.g, x] ∧ GAt (CG K) H a rows q ∧ KindT H x ∧ BadN 999999999 x ∧ E (.ref (He.ga K "NoSquare")) none H
theorem okX_asked (T : Env fa fn K mg) : Good P w K mg base (L2N.CX P w) 2 ("Grove", some "asked") ["self", "square"] (sp_askedX K) := by
  have G_is_whole := ok_wholeT (P := P) (w := w) (base := base) T
  refine good_mkX T 9 (d := d_Grove_asked) (N := ["self", "square"]) (ps := ["self", "square"]) rfl rfl sc_Grove_asked (fun _ _ _ _ _ _ us hl => match us, hl with | [_, _], _ => rfl) (fun vs H Q E h => ?_) (fun f cdv A outer s H vs Q E hr h => ?_)
  · obtain ⟨a, rows, q, x, rfl, _⟩ := h; rfl
  · obtain ⟨a, rows, q, x, rfl, G, hk, hb, k⟩ := h
    refine ⟨_, (pss_cons (ps_if (PW.pt (pw_or (pt_not (pt_val (pe_cgK K rfl G_is_whole (hr.mono (by decide)) (T.glo 7) (pa_cons (pv 1) pa_nil)))) (pw_or1 (pt_not (pt_chain op_le op_lt pe_int (pv 1) (pe_gint (T.int 14) rfl)))))) (pss_one (ps_raiseT K rfl (T.exf (List.mem_of_getElem? (i := 0) rfl)) (T.glo 15) rfl (L2N.takes_of rfl rfl rfl rfl) rfl)) pss_nil)
      (pss_one (ps_ret (pe_ix (ix_listK K rfl) (pe_fldK K rfl (pv 0) rfl) (pv 1) (fun _ _ => rfl))))), ?_⟩
    walk_at "rd"
    refine ⟨x, rfl, hk, ?_⟩
    walk_at "rd"
    rcases hb with hb | ⟨i, rfl, hi⟩
    · rw [hb]
      walk_at "rd"
      exact rd_raise k
    · refine iteF ?_
      walk_at "rd"
      by_cases h0 : 0 ≤ i
      · rw [decide_eq_true h0]
        walk_at "rd"
        rw [decide_eq_false (show ¬ i < 1000000000 by omega)]
        walk_at "rd"
        exact rd_raise k
      · rw [decide_eq_false h0]
        walk_at "rd"
        exact rd_raise k
end
end JF

/-! ### each question of a grove, refused -/
namespace JF
open PySem PySem.Spec PyProof.Rows L2
section
variable {P : Program} {w : World} {K : PySem.W.Frag} {mg : Str → Option Value} {base : Heap}
theorem stateV_bad {x : V} (h : BadN 7 x) : stateV x = false := by
  rcases h with h | ⟨i, rfl, h⟩
  · cases x with
    | int i => cases h
    | _ => rfl
  · show (decide (0 ≤ i) && decide (i ≤ 7)) = false
    rcases h with h | h
    · rw [decide_eq_false (show ¬ 0 ≤ i by omega)]; rfl
    · rw [decide_eq_false (show ¬ i ≤ 7 by omega), Bool.and_false]
def sp_stateT : Sp := fun vs H Q _ => ∃ x : V, vs = [x] ∧ KindT H x ∧ Q (.bl (stateV x)) H
theorem ok_stateT (T : Env fa fn K mg) : Good P w K mg base CX0 2 ("is_state", none) ["thing"] sp_stateT := by
  have G_is_whole := ok_wholeT (P := P) (w := w) (base := base) T
  refine good_mk T 3 (d := d_is_state) (N := ["thing"]) (ps := ["thing"]) rfl rfl sc_is_state (fun _ _ _ _ _ _ us hl => match us, hl with | [_], _ => rfl) (fun vs H Q E h => ?_) (fun f cdv A outer s H vs Q E hr h => ?_)
  · obtain ⟨x, rfl, _⟩ := h; rfl
  · obtain ⟨x, rfl, hx, k⟩ := h
    refine ⟨_, (pss_one (ps_ret (pe_and (pe_cgK K rfl G_is_whole (hr.mono (by decide)) (T.glo 7) (pa_cons (pv 0) pa_nil)) (pe_one (pe_chain op_le op_le pe_int (pv 0) pe_int))))), ?_⟩
    walk_at "rd"
    refine ⟨x, rfl, hx, ?_⟩
    walk_at "rd"
    cases x with
    | int i =>
      refine iteT ?_
      walk_at "rd"
      have k' : Q (.bl (decide (0 ≤ i) && decide (i ≤ 7))) H := k
      by_cases h0 : 0 ≤ i
      · rw [decide_eq_true h0] at k' ⊢
        walk_at "rd"
        exact k'
      · rw [decide_eq_false h0] at k' ⊢
        walk_at "rd"
        exact k'
    | _ =>
      refine iteF ?_
      exact k
theorem okX_livingA (T : Env fa fn K mg) : Good P w K mg base (L2N.CX P w) 3 ("Grove", some "living") ["self", "square"] (sp_askedX K) := by
  have G_Grove_asked := ok_asked (P := P) (w := w) (base := base) T
  have GX_Grove_asked := okX_asked (P := P) (w := w) (base := base) T
  refine good_mkX T 16 (d := d_Grove_living) (N := ["self", "square"]) (ps := ["self", "square"]) rfl rfl sc_Grove_living (fun _ _ _ _ _ _ us hl => match us, hl with | [_, _], _ => rfl) (fun vs H Q E h => ?_) (fun f cdv A outer s H vs Q E hr h => ?_)
  · obtain ⟨a, rows, q, x, rfl, _⟩ := h; rfl
  · have h0 := h
    obtain ⟨a, rows, q, x, rfl, G, _⟩ := h
    refine ⟨_, (pss_cons (ps_expr (pe_or (pe_mgX K rfl (L2N.takes_of rfl rfl rfl rfl) (pv 0) (T.cls 9) (T.meth 18) GX_Grove_asked (hr.mono (by decide)) (pa_cons (pv 1) pa_nil)) (pe_mgK K rfl (pv 0) (T.cls 9) (T.meth 18) G_Grove_asked (hr.mono (by decide)) (pa_cons (pv 1) pa_nil))))
      (pss_one (ps_ret (pe_ix (ix_listK K rfl) (pe_fldK K rfl (pv 0) rfl) (pv 1) (fun _ _ => rfl))))), ?_⟩
    walk_at "rd"
    refine .inl ?_
    refine rd_methX ?_
    walk_at "rd"
    refine rd_methR G.ob (by rfl) ?_
    walk_at "rd"
    exact h0
theorem okX_spanA (T : Env fa fn K mg) : Good P w K mg base (L2N.CX P w) 3 ("Grove", some "span") ["self", "square"] (sp_askedX K) := by
  have G_Grove_asked := ok_asked (P := P) (w := w) (base := base) T
  have GX_Grove_asked := okX_asked (P := P) (w := w) (base := base) T
  refine good_mkX T 17 (d := d_Grove_span) (N := ["self", "square"]) (ps := ["self", "square"]) rfl rfl sc_Grove_span (fun _ _ _ _ _ _ us hl => match us, hl with | [_, _], _ => rfl) (fun vs H Q E h => ?_) (fun f cdv A outer s H vs Q E hr h => ?_)
  · obtain ⟨a, rows, q, x, rfl, _⟩ := h; rfl
  · have h0 := h
    obtain ⟨a, rows, q, x, rfl, G, _⟩ := h
    refine ⟨_, (pss_cons (ps_expr (pe_or (pe_mgX K rfl (L2N.takes_of rfl rfl rfl rfl) (pv 0) (T.cls 9) (T.meth 18) GX_Grove_asked (hr.mono (by decide)) (pa_cons (pv 1) pa_nil)) (pe_mgK K rfl (pv 0) (T.cls 9) (T.meth 18) G_Grove_asked (hr.mono (by decide)) (pa_cons (pv 1) pa_nil))))
      (pss_one (ps_ret (pe_ix (ix_listK K rfl) (pe_fldK K rfl (pv 0) rfl) (pv 1) (fun _ _ => rfl))))), ?_⟩
    walk_at "rd"
    refine .inl ?_
    refine rd_methX ?_
    walk_at "rd"
    refine rd_methR G.ob (by rfl) ?_
    walk_at "rd"
    exact h0
theorem okX_level_of (T : Env fa fn K mg) : Good P w K mg base (L2N.CX P w) 3 ("Grove", some "level_of") ["self", "square"] (sp_askedX K) := by
  have G_Grove_asked := ok_asked (P := P) (w := w) (base := base) T
  have GX_Grove_asked := okX_asked (P := P) (w := w) (base := base) T
  refine good_mkX T 13 (d := d_Grove_level_of) (N := ["self", "square"]) (ps := ["self", "square"]) rfl rfl sc_Grove_level_of (fun _ _ _ _ _ _ us hl => match us, hl with | [_, _], _ => rfl) (fun vs H Q E h => ?_) (fun f cdv A outer s H vs Q E hr h => ?_)
  · obtain ⟨a, rows, q, x, rfl, _⟩ := h; rfl
  · have h0 := h
    obtain ⟨a, rows, q, x, rfl, G, _⟩ := h
    refine ⟨_, (pss_one (ps_ret (pe_or (pe_mgX K rfl (L2N.takes_of rfl rfl rfl rfl) (pv 0) (T.cls 9) (T.meth 18) GX_Grove_asked (hr.mono (by decide)) (pa_cons (pv 1) pa_nil)) (pe_mgK K rfl (pv 0) (T.cls 9) (T.meth 18) G_Grove_asked (hr.mono (by decide)) (pa_cons (pv 1) pa_nil))))), ?_⟩
    walk_at "rd"
    refine .inl ?_
    refine rd_methX ?_
    walk_at "rd"
    refine rd_methR G.ob (by rfl) ?_
    walk_at "rd"
    exact h0
/-- .. of a square whose level does not fit -/
def sp_lvX (K : PySem.W.Frag) (bad : Nat → Prop) : Sp := fun vs H _ E => ∃ (a : GA) (rows : List (Int × Addr)) (q : List Sq) (n : Nat) (S : Sq), vs = [.ref a.g, .int (n : Int)] ∧ GAt (CG K) H a rows q ∧ q[n]? = some S ∧ q.length ≤ 16000000 ∧ bad S.level ∧ E (.ref (He.ga K "NoLevel")) none H
def sp_quartersX (K : PySem.W.Frag) : Sp := fun vs H Q E => sp_askedX K vs H Q E ∨ sp_lvX K (fun l => l = 0) vs H Q E
def sp_state_ofX (K : PySem.W.Frag) : Sp := fun vs H Q E => sp_askedX K vs H Q E ∨ sp_lvX K (fun l => 0 < l) vs H Q E
theorem okX_quarters (T : Env fa fn K mg) : Good P w K mg base (L2N.CX P w) 3 ("Grove", some "quarters") ["self", "square"] (sp_quartersX K) := by
  have G_Grove_asked := ok_asked (P := P) (w := w) (base := base) T
  have GX_Grove_asked := okX_asked (P := P) (w := w) (base := base) T
  refine good_mkX T 14 (d := d_Grove_quarters) (N := ["self", "square"]) (ps := ["self", "square"]) rfl rfl sc_Grove_quarters (fun _ _ _ _ _ _ us hl => match us, hl with | [_, _], _ => rfl) (fun vs H Q E h => ?_) (fun f cdv A outer s H vs Q E hr h => ?_)
  · rcases h with ⟨a, rows, q, x, rfl, _⟩ | ⟨a, rows, q, n, S, rfl, _⟩ <;> rfl
  refine ⟨_, (pss_cons (ps_if (pt_cmpR op_eq (pe_or (pe_mgX K rfl (L2N.takes_of rfl rfl rfl rfl) (pv 0) (T.cls 9) (T.meth 18) GX_Grove_asked (hr.mono (by decide)) (pa_cons (pv 1) pa_nil)) (pe_mgK K rfl (pv 0) (T.cls 9) (T.meth 18) G_Grove_asked (hr.mono (by decide)) (pa_cons (pv 1) pa_nil))) pe_int (nomark _)) (pss_one (ps_raiseT K rfl (T.exf (List.mem_of_getElem? (i := 2) rfl)) (T.glo 20) rfl (L2N.takes_of rfl rfl rfl rfl) rfl)) pss_nil)
      (pss_one (ps_ret (pe_ix (ix_listK K rfl) (pe_fldK K rfl (pv 0) rfl) (pv 1) (fun _ _ => rfl))))), ?_⟩
  rcases h with h | h
  · have h0 := h
    obtain ⟨a, rows, q, x, rfl, G, _⟩ := h
    walk_at "rd"
    refine .inl ?_
    refine rd_methX ?_
    walk_at "rd"
    refine rd_methR G.ob (by rfl) ?_
    walk_at "rd"
    exact h0
  · obtain ⟨a, rows, q, n, S, rfl, G, hn, hq, hl, k⟩ := h
    walk_at "rd"
    refine .inr ?_
    walk_at "rd"
    refine rd_methR G.ob (by rfl) ?_
    walk_at "rd"
    refine ⟨a, rows, q, n, S, rfl, G, hn, hq, ?_⟩
    walk_at "rd"
    rw [decide_eq_true (show ((S.level : Nat) : Int) = 0 by omega)]
    walk_at "rd"
    exact rd_raise k
theorem okX_state_of (T : Env fa fn K mg) : Good P w K mg base (L2N.CX P w) 3 ("Grove", some "state_of") ["self", "square"] (sp_state_ofX K) := by
  have G_Grove_asked := ok_asked (P := P) (w := w) (base := base) T
  have GX_Grove_asked := okX_asked (P := P) (w := w) (base := base) T
  refine good_mkX T 15 (d := d_Grove_state_of) (N := ["self", "square"]) (ps := ["self", "square"]) rfl rfl sc_Grove_state_of (fun _ _ _ _ _ _ us hl => match us, hl with | [_, _], _ => rfl) (fun vs H Q E h => ?_) (fun f cdv A outer s H vs Q E hr h => ?_)
  · rcases h with ⟨a, rows, q, x, rfl, _⟩ | ⟨a, rows, q, n, S, rfl, _⟩ <;> rfl
  refine ⟨_, (pss_cons (ps_if (pt_cmpR op_gt (pe_or (pe_mgX K rfl (L2N.takes_of rfl rfl rfl rfl) (pv 0) (T.cls 9) (T.meth 18) GX_Grove_asked (hr.mono (by decide)) (pa_cons (pv 1) pa_nil)) (pe_mgK K rfl (pv 0) (T.cls 9) (T.meth 18) G_Grove_asked (hr.mono (by decide)) (pa_cons (pv 1) pa_nil))) pe_int (nomark _)) (pss_one (ps_raiseT K rfl (T.exf (List.mem_of_getElem? (i := 2) rfl)) (T.glo 20) rfl (L2N.takes_of rfl rfl rfl rfl) rfl)) pss_nil)
      (pss_one (ps_ret (pe_ix (ix_tupK K rfl) (pe_ix (ix_listK K rfl) (pe_fldK K rfl (pv 0) rfl) (pv 1) (fun _ _ => rfl)) pe_int (fun _ _ => rfl))))), ?_⟩
  rcases h with h | h
  · have h0 := h
    obtain ⟨a, rows, q, x, rfl, G, _⟩ := h
    walk_at "rd"
    refine .inl ?_
    refine rd_methX ?_
    walk_at "rd"
    refine rd_methR G.ob (by rfl) ?_
    walk_at "rd"
    exact h0
  · obtain ⟨a, rows, q, n, S, rfl, G, hn, hq, hl, k⟩ := h
    walk_at "rd"
    refine .inr ?_
    walk_at "rd"
    refine rd_methR G.ob (by rfl) ?_
    walk_at "rd"
    refine ⟨a, rows, q, n, S, rfl, G, hn, hq, ?_⟩
    walk_at "rd"
    have hl : 0 < S.level := hl
    refine ite_d (fun _ => ?_) (fun z => ?_)
    · walk_at "rd"
      exact rd_raise k
    · omega
def sp_leafT (K : PySem.W.Frag) : Sp := fun vs H _ E => ∃ (a : GA) (rows : List (Int × Addr)) (q : List Sq) (x : V), vs = [.ref a.g, x] ∧ GAt (CG K) H a rows q ∧ KindT H x ∧ BadN 7 x ∧ E (.ref (He.ga K "NoState")) none H
theorem okX_leafT (T : Env fa fn K mg) : Good P w K mg base (L2N.CX P w) 3 ("Grove", some "leaf") ["self", "state"] (sp_leafT K) := by
  have G_Grove_cell := ok_cell (P := P) (w := w) (base := base) T
  have G_is_state := ok_stateT (P := P) (w := w) (base := base) T
  refine good_mkX T 10 (d := d_Grove_leaf) (N := ["self", "state"]) (ps := ["self", "state"]) rfl rfl sc_Grove_leaf (fun _ _ _ _ _ _ us hl => match us, hl with | [_, _], _ => rfl) (fun vs H Q E h => ?_) (fun f cdv A outer s H vs Q E hr h => ?_)
  · obtain ⟨a, rows, q, x, rfl, _⟩ := h; rfl
  · obtain ⟨a, rows, q, x, rfl, G, hk, hs, k⟩ := h
    refine ⟨_, (pss_cons (ps_if (pt_not (pt_val (pe_cgK K rfl G_is_state (hr.mono (by decide)) (T.glo 16) (pa_cons (pv 1) pa_nil)))) (pss_one (ps_raiseT K rfl (T.exf (List.mem_of_getElem? (i := 1) rfl)) (T.glo 17) rfl (L2N.takes_of rfl rfl rfl rfl) rfl)) pss_nil)
      (pss_one (ps_ret (pe_mgK K rfl (pv 0) (T.cls 9) (T.meth 12) G_Grove_cell (hr.mono (by decide)) (pa_cons (pv 1) pa_nil))))), ?_⟩
    walk_at "rd"
    refine ⟨x, rfl, hk, ?_⟩
    walk_at "rd"
    rw [stateV_bad hs]
    walk_at "rd"
    exact rd_raise k
def sp_solidX (K : PySem.W.Frag) : Sp := fun vs H _ E => ∃ (a : GA) (rows : List (Int × Addr)) (q : List Sq) (l x : V), vs = [.ref a.g, l, x] ∧ GAt (CG K) H a rows q ∧ ((KindT H l ∧ BadN 48 l ∧ E (.ref (He.ga K "NoLevel")) none H) ∨ ((∃ i : Int, l = .int i ∧ 0 ≤ i ∧ i ≤ 48) ∧ KindT H x ∧ BadN 7 x ∧ E (.ref (He.ga K "NoState")) none H))
theorem okX_solid (T : Env fa fn K mg) : Good P w K mg base (L2N.CX P w) 5 ("Grove", some "solid") ["self", "level", "state"] (sp_solidX K) := by
  have G_Grove_even := ok_even (P := P) (w := w) (base := base) T
  have G_is_whole := ok_wholeT (P := P) (w := w) (base := base) T
  have G_is_state := ok_stateT (P := P) (w := w) (base := base) T
  refine good_mkX T 12 (d := d_Grove_solid) (N := ["self", "level", "state"]) (ps := ["self", "level", "state"]) rfl rfl sc_Grove_solid (fun _ _ _ _ _ _ us hl => match us, hl with | [_, _, _], _ => rfl) (fun vs H Q E h => ?_) (fun f cdv A outer s H vs Q E hr h => ?_)
  · obtain ⟨a, rows, q, l, x, rfl, _⟩ := h; rfl
  · obtain ⟨a, rows, q, l, x, rfl, G, h⟩ := h
    refine ⟨_, (pss_cons (ps_if (PW.pt (pw_or (pt_not (pt_val (pe_cgK K rfl G_is_whole (hr.mono (by decide)) (T.glo 7) (pa_cons (pv 1) pa_nil)))) (pw_or1 (pt_not (pt_chain op_le op_le pe_int (pv 1) (pe_gint (T.int 19) rfl)))))) (pss_one (ps_raiseT K rfl (T.exf (List.mem_of_getElem? (i := 2) rfl)) (T.glo 20) rfl (L2N.takes_of rfl rfl rfl rfl) rfl)) pss_nil)
      (pss_cons (ps_if (pt_not (pt_val (pe_cgK K rfl G_is_state (hr.mono (by decide)) (T.glo 16) (pa_cons (pv 2) pa_nil)))) (pss_one (ps_raiseT K rfl (T.exf (List.mem_of_getElem? (i := 1) rfl)) (T.glo 17) rfl (L2N.takes_of rfl rfl rfl rfl) rfl)) pss_nil)
      (pss_one (ps_ret (pe_mgK K rfl (pv 0) (T.cls 9) (T.meth 21) G_Grove_even (hr.mono (by decide)) (pa_cons (pv 1) (pa_cons (pv 2) pa_nil))))))), ?_⟩
    rcases h with ⟨hk, hb, k⟩ | ⟨⟨i, rfl, i0, i1⟩, hk, hb, k⟩
    · walk_at "rd"
      refine ⟨l, rfl, hk, ?_⟩
      walk_at "rd"
      rcases hb with hb | ⟨i, rfl, hi⟩
      · rw [hb]
        walk_at "rd"
        exact rd_raise k
      · refine iteF ?_
        walk_at "rd"
        by_cases h0 : 0 ≤ i
        · rw [decide_eq_true h0]
          walk_at "rd"
          rw [decide_eq_false (show ¬ i ≤ 48 by omega)]
          walk_at "rd"
          exact rd_raise k
        · rw [decide_eq_false h0]
          walk_at "rd"
          exact rd_raise k
    · walk_at "rd"
      refine ⟨_, rfl, .inl (.inl ⟨i, rfl⟩), ?_⟩
      walk_at "rd"
      refine iteF ?_
      walk_at "rd"
      rw [decide_eq_true i0]
      walk_at "rd"
      rw [decide_eq_true i1]
      walk_at "rd"
      refine ⟨x, rfl, hk, ?_⟩
      walk_at "rd"
      rw [stateV_bad hb]
      walk_at "rd"
      exact rd_raise k
end
end JF

/-! ### joined, refused -/
namespace JF
open PySem PySem.Spec PyProof.Rows L2
def GoodN (q : List Sq) (w : V) : Prop := ∃ (n : Nat) (S : Sq), w = .int (n : Int) ∧ q[n]? = some S
/-- what stands in the way of four being joined -/
inductive DueJ (H : Hp) (q : List Sq) : V → V → V → V → Str → Prop where
  | sq {x y z u : V} : (∀ w ∈ [x, y, z, u], GoodN q w ∨ (KindT H w ∧ BadN 999999999 w)) → (∃ w ∈ [x, y, z, u], BadN 999999999 w) → DueJ H q x y z u "NoSquare"
  | lv {x y z u : Nat} {A B C D : Sq} : q[x]? = some A → q[y]? = some B → q[z]? = some C → q[u]? = some D → (¬ (B.level = A.level ∧ C.level = A.level ∧ D.level = A.level) ∨ 48 ≤ A.level) → DueJ H q (.int (x : Int)) (.int (y : Int)) (.int (z : Int)) (.int (u : Int)) "NoLevel"
theorem good_bad {q : List Sq} {w : V} (g : GoodN q w) (hq : q.length ≤ 16000000) (b : BadN 999999999 w) : False := by
  obtain ⟨n, S, rfl, h⟩ := g
  have := (List.getElem?_eq_some_iff.mp h).1
  rcases b with b | ⟨i, e, b⟩
  · cases b
  · cases e
    omega
section
variable {P : Program} {w : World} {K : PySem.W.Frag} {mg : Str → Option Value} {base : Heap}
theorem rd_lcX {Wo : WX} {wi : TI} {g : TG} {te : XK → TE} {vs : List Nat} {σ : L2.St} {H : Hp} {Q : VK} (h : tLc wi g tYes (te fun cls d H' => Wo cls d σ H') vs σ H Q) : tLcX Wo wi g te vs σ H Q := h
def sp_joinedX (K : PySem.W.Frag) : Sp := fun vs H _ E => ∃ (a : GA) (rows : List (Int × Addr)) (q : List Sq) (x y z u : V) (cls : Str), vs = [.ref a.g, x, y, z, u] ∧ GAt (CG K) H a rows q ∧ q.length ≤ 16000000 ∧ DueJ H q x y z u cls ∧ ∀ H', Same H H' → E (.ref (He.ga K cls)) none H'
set_option maxHeartbeats 8000000 in
theorem okX_joined (T : Env fa fn K mg) : Good P w K mg base (L2N.CX P w) 4 ("Grove", some "joined") ["self", "a", "b", "c", "d"] (sp_joinedX K) := by
  have G_Grove_asked := ok_asked (P := P) (w := w) (base := base) T
  have GX_Grove_asked := okX_asked (P := P) (w := w) (base := base) T
  have G_Grove_knit := ok_knit (P := P) (w := w) (base := base) T
  refine good_mkX T 11 (d := d_Grove_joined) (N := ["self", "a", "b", "c", "d", "levels", "one"]) (ps := ["self", "a", "b", "c", "d"]) rfl rfl sc_Grove_joined (fun _ _ _ _ _ _ us hl => match us, hl with | [_, _, _, _, _], _ => rfl) (fun vs H Q E h => ?_) (fun f cdv A outer s H vs Q E hr h => ?_)
  · obtain ⟨a, rows, q, x, y, z, u, cls, rfl, _⟩ := h; rfl
  · obtain ⟨a, rows, q, x, y, z, u, cls, rfl, G, hq, hd, k⟩ := h
    refine ⟨_, (pss_cons (ps_setLcX (i := 5) (own := [("one", 6)]) (L2N.takes_of rfl rfl rfl rfl) rfl rfl rfl sc_Grove_joined.nd rfl rfl (sw_true rfl rfl rfl (by decide +kernel)) (pi_tupK K rfl (pe_tup (pa_cons (pv 1) (pa_cons (pv 2) (pa_cons (pv 3) (pa_cons (pv 4) pa_nil)))))) (blkOk_by (own := [("one", 6)]) (N := ["self", "a", "b", "c", "d", "levels", "one"]) (sc := defScope st_Grove_joined) (by decide +kernel)) (fun _ _ _ _ _ _ => by exact (pg_name (i := 6) sc_Grove_joined.nd rfl (Or.inl rfl))) (fun V xe s H C cl fp bx => by exact (pe_orK (pe_mgP K rfl bx (pv 0) (T.cls 9) (T.meth 18) GX_Grove_asked (hr.mono (by decide)) (pa_cons (pv 6) pa_nil)) (pe_mgK K rfl (pv 0) (T.cls 9) (T.meth 18) G_Grove_asked (hr.mono (by decide)) (pa_cons (pv 6) pa_nil)))))
      (pss_cons (ps_if (PW.pt (pw_or (pt_cmpR (op_neDK K rfl hr.units) (pv 5) (pe_op op_rep (pe_lst (pa_cons (pe_ix (ix_listK K rfl) (pv 5) pe_int (fun _ _ => rfl)) pa_nil)) pe_int) (nomark _)) (pw_or1 (pt_cmpR op_ge (pe_ix (ix_listK K rfl) (pv 5) pe_int (fun _ _ => rfl)) (pe_gint (T.int 19) rfl) (nomark _))))) (pss_one (ps_raiseT K rfl (T.exf (List.mem_of_getElem? (i := 2) rfl)) (T.glo 20) rfl (L2N.takes_of rfl rfl rfl rfl) rfl)) pss_nil)
      (pss_one (ps_ret (pe_mgK K rfl (pv 0) (T.cls 9) (T.meth 13) G_Grove_knit (hr.mono (by decide)) (pa_cons (pv 1) (pa_cons (pv 2) (pa_cons (pv 3) (pa_cons (pv 4) pa_nil))))))))), ?_⟩
    walk_at "rd"
    refine rd_lcX ?_
    walk_at "rd"
    refine rd_new (hn := by show 4 ≤ sizeLine; decide) fun t ht => ?_
    have sm := same_upd (o := HO.tup [x, y, z, u]) ht
    have hT : (upd H t (HO.tup [x, y, z, u])) t = some (.tup [x, y, z, u]) := upd_same
    have G1 := G.same sm
    generalize upd H t (HO.tup [x, y, z, u]) = H1 at *
    refine ⟨t, rfl, ⟨_, SqT.of hT⟩, fun dl hdl => ?_⟩
    refine lc_tup (K := K) (xs := [x, y, z, u]) (fun i H' => ∃ ms : List Int, Same H1 H' ∧ H' dl = some (.lst (ms.map V.int)) ∧ ms.length = i ∧ ∀ (j : Nat) w, [x, y, z, u][j]? = some w → j < i → ∃ (n : Nat) (S : Sq), w = .int (n : Int) ∧ q[n]? = some S ∧ ms[j]? = some (S.level : Int)) ⟨[], same_upd hdl, upd_same, rfl, fun _ _ _ h => by omega⟩ (fun i H' _ ⟨_, s, _⟩ => SqT.of (s _ _ hT)) ?_ ?_
    · rintro i v H' hx ⟨ms, s2, L2, ml, hms⟩
      have i4 : i < 4 := (List.getElem?_eq_some_iff.mp hx).1
      have hv : GoodN q v ∨ (KindT H v ∧ BadN 999999999 v ∧ cls = "NoSquare") := by
        cases hd with
        | sq h1 h2 => exact (h1 v (List.mem_of_getElem? hx)).imp id fun z => ⟨z.1, z.2, rfl⟩
        | @lv x y z u A B C D h1 h2 h3 h4 h5 =>
          left
          match i, hx with
          | 0, hx => cases hx; exact ⟨x, A, rfl, h1⟩
          | 1, hx => cases hx; exact ⟨y, B, rfl, h2⟩
          | 2, hx => cases hx; exact ⟨z, C, rfl, h3⟩
          | 3, hx => cases hx; exact ⟨u, D, rfl, h4⟩
      have G2 := G1.same s2
      walk_at "rd"
      refine ⟨rfl, ?_⟩
      walk_at "rd"
      rcases hv with ⟨n, S, rfl, hn⟩ | ⟨hk, hb, rfl⟩
      · refine rd_ei (.inr ?_)
        walk_at "rd"
        refine rd_methR G2.ob (by rfl) ?_
        walk_at "rd"
        refine ⟨a, rows, q, n, S, rfl, G2, hn, hq, ms.map V.int, L2, by rw [List.length_map]; exact small1000 (by omega), ms ++ [(S.level : Int)], fun b o e => by rw [upd_ne (ne_of_none e hdl)]; exact s2 b o e, by rw [upd_same, List.map_append]; rfl, by rw [List.length_append, ml]; rfl, fun j w hj lt => ?_⟩
        by_cases c : j < i
        · obtain ⟨n', S', e1, e2, e3⟩ := hms j w hj c
          exact ⟨n', S', e1, e2, by rw [List.getElem?_append_left (by omega)]; exact e3⟩
        · obtain rfl : j = i := by omega
          rw [hj] at hx
          cases hx
          refine ⟨n, S, rfl, hn, ?_⟩
          rw [List.getElem?_append_right (by omega), ml, Nat.sub_self]
          rfl
      · refine rd_ei (.inl ?_)
        refine rd_methX ?_
        walk_at "rd"
        refine rd_methR G2.ob (by rfl) ?_
        walk_at "rd"
        exact ⟨a, rows, q, v, rfl, G2, hk.tups fun b xs e => s2 _ _ (sm _ _ e), hb, k _ (sm.trans s2)⟩
    · rintro H' ⟨ms, s2, L2, ml, hms⟩
      have ml : ms.length = 4 := ml
      cases hd with
      | sq h1 h2 =>
        obtain ⟨w, hw, hb⟩ := h2
        obtain ⟨j, hj⟩ := List.getElem?_of_mem hw
        obtain ⟨n, S, e1, e2, _⟩ := hms j w hj (List.getElem?_eq_some_iff.mp hj).1
        exact (good_bad ⟨n, S, e1, e2⟩ hq hb).elim
      | @lv x y z u A B C D h1 h2 h3 h4 h5 =>
        have lvl : ∀ (j : Nat) (n : Nat) (S : Sq), [V.int (x : Int), V.int (y : Int), V.int (z : Int), V.int (u : Int)][j]? = some (.int (n : Int)) → q[n]? = some S → ms[j]? = some (S.level : Int) := fun j n S hj hS => by
          obtain ⟨n', S', e1, e2, e3⟩ := hms j _ hj (List.getElem?_eq_some_iff.mp hj).1
          cases e1
          rw [hS] at e2
          cases e2
          exact e3
        obtain rfl : ms = [(A.level : Int), (B.level : Int), (C.level : Int), (D.level : Int)] := by
          have a0 := lvl 0 x A rfl h1
          have a1 := lvl 1 y B rfl h2
          have a2 := lvl 2 z C rfl h3
          have a3 := lvl 3 u D rfl h4
          match ms, ml with
          | [m0, m1, m2, m3], _ =>
            cases a0; cases a1; cases a2; cases a3
            rfl
        have sm2 := sm.trans s2
        walk_at "rd"
        refine rd_ixL (SqL.of L2) (v := .int (A.level : Int)) rfl ?_
        walk_at "rd"
        refine rd_new (hn := by show 1 ≤ sizeLine; decide) fun p1 hp1 => ?_
        walk_at "rd"
        refine rd_rep (xs := [V.int (A.level : Int)]) upd_same (by decide) (by decide) (by show 1 * 4 ≤ sizeLine; decide) fun p2 hp2 => ?_
        have kp1 := same_upd (o := .lst [V.int (A.level : Int)]) hp1
        have kp2 := same_upd (o := .lst (List.replicate (Int.toNat 4) [V.int (A.level : Int)]).flatten) hp2
        refine rd_neDI (ns := [(A.level : Int), (B.level : Int), (C.level : Int), (D.level : Int)]) (ms := [(A.level : Int), (A.level : Int), (A.level : Int), (A.level : Int)]) (SqL.of (kp2 _ _ (kp1 _ _ L2))) (SqL.of upd_same) rfl rfl ?_
        rw [show PyData.eqv (.list ([(A.level : Int), (B.level : Int), (C.level : Int), (D.level : Int)].map PyData.int)) (.list ([(A.level : Int), (A.level : Int), (A.level : Int), (A.level : Int)].map PyData.int)) = decide ([(A.level : Int), (B.level : Int), (C.level : Int), (D.level : Int)] = [(A.level : Int), (A.level : Int), (A.level : Int), (A.level : Int)]) from by
          rw [← eqvAll_ints]
          simp only [PyData.eqv]]
        have sm3 := (sm2.trans kp1).trans kp2
        by_cases c : B.level = A.level ∧ C.level = A.level ∧ D.level = A.level
        · rw [decide_eq_true (show [(A.level : Int), (B.level : Int), (C.level : Int), (D.level : Int)] = [(A.level : Int), (A.level : Int), (A.level : Int), (A.level : Int)] by rw [c.1, c.2.1, c.2.2])]
          walk_at "rd"
          refine rd_ixL (SqL.of (kp2 _ _ (kp1 _ _ L2))) (v := .int (A.level : Int)) rfl ?_
          walk_at "rd"
          refine ite_d (fun h => ?_) (fun h => ?_)
          · walk_at "rd"
            exact rd_raise (k _ sm3)
          · have := h5.resolve_left (fun z => z c)
            omega
        · rw [decide_eq_false (fun e => c (by
            simp only [List.cons.injEq, Int.natCast_inj, true_and, and_true] at e
            exact e))]
          walk_at "rd"
          exact rd_raise (k _ sm3)
end
end JF

/-! ### law k14: one refusal -/
namespace JF
open PySem PySem.Spec PyProof.Rows L2 LamX
/-- the classes, by their numbers -/
def refG : List (Str × Int) := [("NoSquare", 0), ("NoLevel", 1), ("NoState", 2)]
section
variable {P : Program} {w : World} {K : PySem.W.Frag} {mg : Str → Option Value} {base : Heap}
def sp_others (K : PySem.W.Frag) : Value → Option Addr → Addr → Sp := fun cls d a vs H Q _ => ∃ x n, (x, n) ∈ refG ∧ vs = [.ref a] ∧ cls = .ref (He.ga K x) ∧ d = none ∧ ∀ (H' : Hp) (p : Addr), Same H H' → H' p = some (.lst ((List.replicate 10 false).map V.bl)) → Q (.ref p) H'
set_option maxHeartbeats 32000000 in
theorem okE_others (T : Env fa fn K mg) : GoodE P w K mg base 1 ("_law_others", none) ["_law_e"] (sp_others K) := by
  refine good_mkE T 20 (d := d_w_others) (N := ["_law_e", "_law_some"]) (ps := ["_law_e"]) rfl rfl sc_w_others (fun _ _ _ _ _ _ us hl => match us, hl with | [_], _ => rfl) (fun cls d a vs H Q E h => ?_) (fun f cdv A outer s H vs Q E p cls d hz hf hr h => ?_)
  · obtain ⟨x, n, _, rfl, _⟩ := h; rfl
  obtain ⟨x, n, hx, rfl, rfl, rfl, k⟩ := h
  have hu := Nat.lt_of_le_of_lt (Nat.add_le_add_left (by decide : 1 ≤ 200) _) hr.un
  simp only [refG, List.mem_cons, Prod.mk.injEq, List.not_mem_nil, or_false] at hx
  rcases hx with ⟨rfl, rfl⟩ | ⟨rfl, rfl⟩ | ⟨rfl, rfl⟩
  · have ec := (T.exf (List.mem_of_getElem? (i := 0) rfl)).ec
    refine ⟨_, (pss_cons (ps_set (i := 1) sc_w_others.nd rfl (Or.inl rfl) (pe_lst (pa_cons (pe_callB (call_isP K rfl List.mem_cons_self hz hf) (by rfl) (T.free 1) (by decide +kernel) (pa_cons (pv 0) (pa_cons (pe_grefK K rfl (T.glo 23) rfl) pa_nil))) (pa_cons (pe_callB (call_isP K rfl List.mem_cons_self hz hf) (by rfl) (T.free 1) (by decide +kernel) (pa_cons (pv 0) (pa_cons (pe_grefK K rfl (T.glo 24) rfl) pa_nil))) (pa_cons (pe_callB (call_isP K rfl List.mem_cons_self hz hf) (by rfl) (T.free 1) (by decide +kernel) (pa_cons (pv 0) (pa_cons (pe_grefK K rfl (T.glo 25) rfl) pa_nil))) (pa_cons (pe_callB (call_isP K rfl List.mem_cons_self hz hf) (by rfl) (T.free 1) (by decide +kernel) (pa_cons (pv 0) (pa_cons (pe_grefK K rfl (T.glo 26) rfl) pa_nil))) pa_nil))))))
      (pss_cons (ps_set (i := 1) sc_w_others.nd rfl (Or.inl rfl) (pe_op op_cat (pv 1) (pe_lst (pa_cons (pe_callB (call_isP K rfl List.mem_cons_self hz hf) (by rfl) (T.free 1) (by decide +kernel) (pa_cons (pv 0) (pa_cons (pe_grefK K rfl (T.glo 27) rfl) pa_nil))) (pa_cons (pe_callB (call_isP K rfl List.mem_cons_self hz hf) (by rfl) (T.free 1) (by decide +kernel) (pa_cons (pv 0) (pa_cons (pe_grefK K rfl (T.glo 28) rfl) pa_nil))) (pa_cons (pe_callB (call_isP K rfl List.mem_cons_self hz hf) (by rfl) (T.free 1) (by decide +kernel) (pa_cons (pv 0) (pa_cons (pe_grefK K rfl (T.glo 29) rfl) pa_nil))) pa_nil))))))
      (pss_one (ps_ret (pe_op op_cat (pv 1) (pe_lst (pa_cons (pe_callB (call_isP K rfl List.mem_cons_self hz hf) (by rfl) (T.free 1) (by decide +kernel) (pa_cons (pv 0) (pa_cons (pe_grefK K rfl (T.glo 30) rfl) pa_nil))) (pa_cons (pe_callB (call_isP K rfl List.mem_cons_self hz hf) (by rfl) (T.free 1) (by decide +kernel) (pa_cons (pv 0) (pa_cons (pe_grefK K rfl (T.glo 31) rfl) pa_nil))) (pa_cons (pe_callB (call_isP K rfl List.mem_cons_self hz hf) (by rfl) (T.free 1) (by decide +kernel) (pa_cons (pv 0) (pa_cons (pe_grefK K rfl (T.glo 32) rfl) pa_nil))) pa_nil))))))))), ?_⟩
    walk_at "rd"
    refine rd_isX ec (T.exk (List.mem_of_getElem? (i := 0) rfl)) ?_
    walk_at "rd"
    refine rd_isX ec (T.exk (List.mem_of_getElem? (i := 1) rfl)) ?_
    walk_at "rd"
    refine rd_isX ec (T.exk (List.mem_of_getElem? (i := 2) rfl)) ?_
    walk_at "rd"
    refine rd_isX ec (T.exk (List.mem_of_getElem? (i := 3) rfl)) ?_
    walk_at "rd"
    refine rd_new (hn := by show 4 ≤ sizeLine; decide) fun p1 hp1 => ?_
    have s1 := same_upd (o := HO.lst [V.bl false, .bl false, .bl false, .bl false]) hp1
    have L1 : (upd H p1 (HO.lst [V.bl false, .bl false, .bl false, .bl false])) p1 = _ := upd_same
    generalize upd H p1 (HO.lst [V.bl false, .bl false, .bl false, .bl false]) = H1 at s1 L1 ⊢
    walk_at "rd"
    refine rd_isX ec (T.exk (List.mem_of_getElem? (i := 4) rfl)) ?_
    walk_at "rd"
    refine rd_isX ec (T.exk (List.mem_of_getElem? (i := 5) rfl)) ?_
    walk_at "rd"
    refine rd_isX ec (T.exk (List.mem_of_getElem? (i := 6) rfl)) ?_
    walk_at "rd"
    refine rd_new (hn := by show 3 ≤ sizeLine; decide) fun p2 hp2 => ?_
    have s2 := same_upd (o := HO.lst [V.bl false, .bl false, .bl false]) hp2
    have L2 : (upd H1 p2 (HO.lst [V.bl false, .bl false, .bl false])) p2 = _ := upd_same
    generalize upd H1 p2 (HO.lst [V.bl false, .bl false, .bl false]) = H2 at s2 L2 ⊢
    walk_at "rd"
    refine ⟨p1, p2, _, _, rfl, rfl, s2 _ _ L1, L2, by show 7 ≤ sizeLine; decide, fun p3 hp3 => ?_⟩
    have s3 := same_upd (o := HO.lst ([V.bl false, .bl false, .bl false, .bl false] ++ [V.bl false, .bl false, .bl false])) hp3
    have L3 : (upd H2 p3 (HO.lst ([V.bl false, .bl false, .bl false, .bl false] ++ [V.bl false, .bl false, .bl false]))) p3 = _ := upd_same
    generalize upd H2 p3 (HO.lst ([V.bl false, .bl false, .bl false, .bl false] ++ [V.bl false, .bl false, .bl false])) = H3 at s3 L3 ⊢
    walk_at "rd"
    refine rd_isX ec (T.exk (List.mem_of_getElem? (i := 7) rfl)) ?_
    walk_at "rd"
    refine rd_isX ec (T.exk (List.mem_of_getElem? (i := 8) rfl)) ?_
    walk_at "rd"
    refine rd_isX ec (T.exk (List.mem_of_getElem? (i := 9) rfl)) ?_
    walk_at "rd"
    refine rd_new (hn := by show 3 ≤ sizeLine; decide) fun p4 hp4 => ?_
    have s4 := same_upd (o := HO.lst [V.bl false, .bl false, .bl false]) hp4
    have L4 : (upd H3 p4 (HO.lst [V.bl false, .bl false, .bl false])) p4 = _ := upd_same
    generalize upd H3 p4 (HO.lst [V.bl false, .bl false, .bl false]) = H4 at s4 L4 ⊢
    walk_at "rd"
    refine ⟨p3, p4, _, _, rfl, rfl, s4 _ _ L3, L4, by show 10 ≤ sizeLine; decide, fun p5 hp5 => ?_⟩
    exact k _ p5 ((((s1.trans s2).trans s3).trans s4).trans (same_upd hp5)) upd_same
  · have ec := (T.exf (List.mem_of_getElem? (i := 2) rfl)).ec
    refine ⟨_, (pss_cons (ps_set (i := 1) sc_w_others.nd rfl (Or.inl rfl) (pe_lst (pa_cons (pe_callB (call_isP K rfl List.mem_cons_self hz hf) (by rfl) (T.free 1) (by decide +kernel) (pa_cons (pv 0) (pa_cons (pe_grefK K rfl (T.glo 23) rfl) pa_nil))) (pa_cons (pe_callB (call_isP K rfl List.mem_cons_self hz hf) (by rfl) (T.free 1) (by decide +kernel) (pa_cons (pv 0) (pa_cons (pe_grefK K rfl (T.glo 24) rfl) pa_nil))) (pa_cons (pe_callB (call_isP K rfl List.mem_cons_self hz hf) (by rfl) (T.free 1) (by decide +kernel) (pa_cons (pv 0) (pa_cons (pe_grefK K rfl (T.glo 25) rfl) pa_nil))) (pa_cons (pe_callB (call_isP K rfl List.mem_cons_self hz hf) (by rfl) (T.free 1) (by decide +kernel) (pa_cons (pv 0) (pa_cons (pe_grefK K rfl (T.glo 26) rfl) pa_nil))) pa_nil))))))
      (pss_cons (ps_set (i := 1) sc_w_others.nd rfl (Or.inl rfl) (pe_op op_cat (pv 1) (pe_lst (pa_cons (pe_callB (call_isP K rfl List.mem_cons_self hz hf) (by rfl) (T.free 1) (by decide +kernel) (pa_cons (pv 0) (pa_cons (pe_grefK K rfl (T.glo 27) rfl) pa_nil))) (pa_cons (pe_callB (call_isP K rfl List.mem_cons_self hz hf) (by rfl) (T.free 1) (by decide +kernel) (pa_cons (pv 0) (pa_cons (pe_grefK K rfl (T.glo 28) rfl) pa_nil))) (pa_cons (pe_callB (call_isP K rfl List.mem_cons_self hz hf) (by rfl) (T.free 1) (by decide +kernel) (pa_cons (pv 0) (pa_cons (pe_grefK K rfl (T.glo 29) rfl) pa_nil))) pa_nil))))))
      (pss_one (ps_ret (pe_op op_cat (pv 1) (pe_lst (pa_cons (pe_callB (call_isP K rfl List.mem_cons_self hz hf) (by rfl) (T.free 1) (by decide +kernel) (pa_cons (pv 0) (pa_cons (pe_grefK K rfl (T.glo 30) rfl) pa_nil))) (pa_cons (pe_callB (call_isP K rfl List.mem_cons_self hz hf) (by rfl) (T.free 1) (by decide +kernel) (pa_cons (pv 0) (pa_cons (pe_grefK K rfl (T.glo 31) rfl) pa_nil))) (pa_cons (pe_callB (call_isP K rfl List.mem_cons_self hz hf) (by rfl) (T.free 1) (by decide +kernel) (pa_cons (pv 0) (pa_cons (pe_grefK K rfl (T.glo 32) rfl) pa_nil))) pa_nil))))))))), ?_⟩
    walk_at "rd"
    refine rd_isX ec (T.exk (List.mem_of_getElem? (i := 30) rfl)) ?_
    walk_at "rd"
    refine rd_isX ec (T.exk (List.mem_of_getElem? (i := 31) rfl)) ?_
    walk_at "rd"
    refine rd_isX ec (T.exk (List.mem_of_getElem? (i := 32) rfl)) ?_
    walk_at "rd"
    refine rd_isX ec (T.exk (List.mem_of_getElem? (i := 33) rfl)) ?_
    walk_at "rd"
    refine rd_new (hn := by show 4 ≤ sizeLine; decide) fun p1 hp1 => ?_
    have s1 := same_upd (o := HO.lst [V.bl false, .bl false, .bl false, .bl false]) hp1
    have L1 : (upd H p1 (HO.lst [V.bl false, .bl false, .bl false, .bl false])) p1 = _ := upd_same
    generalize upd H p1 (HO.lst [V.bl false, .bl false, .bl false, .bl false]) = H1 at s1 L1 ⊢
    walk_at "rd"
    refine rd_isX ec (T.exk (List.mem_of_getElem? (i := 34) rfl)) ?_
    walk_at "rd"
    refine rd_isX ec (T.exk (List.mem_of_getElem? (i := 35) rfl)) ?_
    walk_at "rd"
    refine rd_isX ec (T.exk (List.mem_of_getElem? (i := 36) rfl)) ?_
    walk_at "rd"
    refine rd_new (hn := by show 3 ≤ sizeLine; decide) fun p2 hp2 => ?_
    have s2 := same_upd (o := HO.lst [V.bl false, .bl false, .bl false]) hp2
    have L2 : (upd H1 p2 (HO.lst [V.bl false, .bl false, .bl false])) p2 = _ := upd_same
    generalize upd H1 p2 (HO.lst [V.bl false, .bl false, .bl false]) = H2 at s2 L2 ⊢
    walk_at "rd"
    refine ⟨p1, p2, _, _, rfl, rfl, s2 _ _ L1, L2, by show 7 ≤ sizeLine; decide, fun p3 hp3 => ?_⟩
    have s3 := same_upd (o := HO.lst ([V.bl false, .bl false, .bl false, .bl false] ++ [V.bl false, .bl false, .bl false])) hp3
    have L3 : (upd H2 p3 (HO.lst ([V.bl false, .bl false, .bl false, .bl false] ++ [V.bl false, .bl false, .bl false]))) p3 = _ := upd_same
    generalize upd H2 p3 (HO.lst ([V.bl false, .bl false, .bl false, .bl false] ++ [V.bl false, .bl false, .bl false])) = H3 at s3 L3 ⊢
    walk_at "rd"
    refine rd_isX ec (T.exk (List.mem_of_getElem? (i := 37) rfl)) ?_
    walk_at "rd"
    refine rd_isX ec (T.exk (List.mem_of_getElem? (i := 38) rfl)) ?_
    walk_at "rd"
    refine rd_isX ec (T.exk (List.mem_of_getElem? (i := 39) rfl)) ?_
    walk_at "rd"
    refine rd_new (hn := by show 3 ≤ sizeLine; decide) fun p4 hp4 => ?_
    have s4 := same_upd (o := HO.lst [V.bl false, .bl false, .bl false]) hp4
    have L4 : (upd H3 p4 (HO.lst [V.bl false, .bl false, .bl false])) p4 = _ := upd_same
    generalize upd H3 p4 (HO.lst [V.bl false, .bl false, .bl false]) = H4 at s4 L4 ⊢
    walk_at "rd"
    refine ⟨p3, p4, _, _, rfl, rfl, s4 _ _ L3, L4, by show 10 ≤ sizeLine; decide, fun p5 hp5 => ?_⟩
    exact k _ p5 ((((s1.trans s2).trans s3).trans s4).trans (same_upd hp5)) upd_same
  · have ec := (T.exf (List.mem_of_getElem? (i := 1) rfl)).ec
    refine ⟨_, (pss_cons (ps_set (i := 1) sc_w_others.nd rfl (Or.inl rfl) (pe_lst (pa_cons (pe_callB (call_isP K rfl List.mem_cons_self hz hf) (by rfl) (T.free 1) (by decide +kernel) (pa_cons (pv 0) (pa_cons (pe_grefK K rfl (T.glo 23) rfl) pa_nil))) (pa_cons (pe_callB (call_isP K rfl List.mem_cons_self hz hf) (by rfl) (T.free 1) (by decide +kernel) (pa_cons (pv 0) (pa_cons (pe_grefK K rfl (T.glo 24) rfl) pa_nil))) (pa_cons (pe_callB (call_isP K rfl List.mem_cons_self hz hf) (by rfl) (T.free 1) (by decide +kernel) (pa_cons (pv 0) (pa_cons (pe_grefK K rfl (T.glo 25) rfl) pa_nil))) (pa_cons (pe_callB (call_isP K rfl List.mem_cons_self hz hf) (by rfl) (T.free 1) (by decide +kernel) (pa_cons (pv 0) (pa_cons (pe_grefK K rfl (T.glo 26) rfl) pa_nil))) pa_nil))))))
      (pss_cons (ps_set (i := 1) sc_w_others.nd rfl (Or.inl rfl) (pe_op op_cat (pv 1) (pe_lst (pa_cons (pe_callB (call_isP K rfl List.mem_cons_self hz hf) (by rfl) (T.free 1) (by decide +kernel) (pa_cons (pv 0) (pa_cons (pe_grefK K rfl (T.glo 27) rfl) pa_nil))) (pa_cons (pe_callB (call_isP K rfl List.mem_cons_self hz hf) (by rfl) (T.free 1) (by decide +kernel) (pa_cons (pv 0) (pa_cons (pe_grefK K rfl (T.glo 28) rfl) pa_nil))) (pa_cons (pe_callB (call_isP K rfl List.mem_cons_self hz hf) (by rfl) (T.free 1) (by decide +kernel) (pa_cons (pv 0) (pa_cons (pe_grefK K rfl (T.glo 29) rfl) pa_nil))) pa_nil))))))
      (pss_one (ps_ret (pe_op op_cat (pv 1) (pe_lst (pa_cons (pe_callB (call_isP K rfl List.mem_cons_self hz hf) (by rfl) (T.free 1) (by decide +kernel) (pa_cons (pv 0) (pa_cons (pe_grefK K rfl (T.glo 30) rfl) pa_nil))) (pa_cons (pe_callB (call_isP K rfl List.mem_cons_self hz hf) (by rfl) (T.free 1) (by decide +kernel) (pa_cons (pv 0) (pa_cons (pe_grefK K rfl (T.glo 31) rfl) pa_nil))) (pa_cons (pe_callB (call_isP K rfl List.mem_cons_self hz hf) (by rfl) (T.free 1) (by decide +kernel) (pa_cons (pv 0) (pa_cons (pe_grefK K rfl (T.glo 32) rfl) pa_nil))) pa_nil))))))))), ?_⟩
    walk_at "rd"
    refine rd_isX ec (T.exk (List.mem_of_getElem? (i := 15) rfl)) ?_
    walk_at "rd"
    refine rd_isX ec (T.exk (List.mem_of_getElem? (i := 16) rfl)) ?_
    walk_at "rd"
    refine rd_isX ec (T.exk (List.mem_of_getElem? (i := 17) rfl)) ?_
    walk_at "rd"
    refine rd_isX ec (T.exk (List.mem_of_getElem? (i := 18) rfl)) ?_
    walk_at "rd"
    refine rd_new (hn := by show 4 ≤ sizeLine; decide) fun p1 hp1 => ?_
    have s1 := same_upd (o := HO.lst [V.bl false, .bl false, .bl false, .bl false]) hp1
    have L1 : (upd H p1 (HO.lst [V.bl false, .bl false, .bl false, .bl false])) p1 = _ := upd_same
    generalize upd H p1 (HO.lst [V.bl false, .bl false, .bl false, .bl false]) = H1 at s1 L1 ⊢
    walk_at "rd"
    refine rd_isX ec (T.exk (List.mem_of_getElem? (i := 19) rfl)) ?_
    walk_at "rd"
    refine rd_isX ec (T.exk (List.mem_of_getElem? (i := 20) rfl)) ?_
    walk_at "rd"
    refine rd_isX ec (T.exk (List.mem_of_getElem? (i := 21) rfl)) ?_
    walk_at "rd"
    refine rd_new (hn := by show 3 ≤ sizeLine; decide) fun p2 hp2 => ?_
    have s2 := same_upd (o := HO.lst [V.bl false, .bl false, .bl false]) hp2
    have L2 : (upd H1 p2 (HO.lst [V.bl false, .bl false, .bl false])) p2 = _ := upd_same
    generalize upd H1 p2 (HO.lst [V.bl false, .bl false, .bl false]) = H2 at s2 L2 ⊢
    walk_at "rd"
    refine ⟨p1, p2, _, _, rfl, rfl, s2 _ _ L1, L2, by show 7 ≤ sizeLine; decide, fun p3 hp3 => ?_⟩
    have s3 := same_upd (o := HO.lst ([V.bl false, .bl false, .bl false, .bl false] ++ [V.bl false, .bl false, .bl false])) hp3
    have L3 : (upd H2 p3 (HO.lst ([V.bl false, .bl false, .bl false, .bl false] ++ [V.bl false, .bl false, .bl false]))) p3 = _ := upd_same
    generalize upd H2 p3 (HO.lst ([V.bl false, .bl false, .bl false, .bl false] ++ [V.bl false, .bl false, .bl false])) = H3 at s3 L3 ⊢
    walk_at "rd"
    refine rd_isX ec (T.exk (List.mem_of_getElem? (i := 22) rfl)) ?_
    walk_at "rd"
    refine rd_isX ec (T.exk (List.mem_of_getElem? (i := 23) rfl)) ?_
    walk_at "rd"
    refine rd_isX ec (T.exk (List.mem_of_getElem? (i := 24) rfl)) ?_
    walk_at "rd"
    refine rd_new (hn := by show 3 ≤ sizeLine; decide) fun p4 hp4 => ?_
    have s4 := same_upd (o := HO.lst [V.bl false, .bl false, .bl false]) hp4
    have L4 : (upd H3 p4 (HO.lst [V.bl false, .bl false, .bl false])) p4 = _ := upd_same
    generalize upd H3 p4 (HO.lst [V.bl false, .bl false, .bl false]) = H4 at s4 L4 ⊢
    walk_at "rd"
    refine ⟨p3, p4, _, _, rfl, rfl, s4 _ _ L3, L4, by show 10 ≤ sizeLine; decide, fun p5 hp5 => ?_⟩
    exact k _ p5 ((((s1.trans s2).trans s3).trans s4).trans (same_upd hp5)) upd_same
end
end JF

/-! ### law k14: a deed refused; what is drawn; a question asked -/
namespace JF
open PySem PySem.Spec PyProof.Rows L2 LamX
section
variable {P : Program} {w : World} {K : PySem.W.Frag} {mg : Str → Option Value} {base : Heap}
theorem Same.putE {H H' : Hp} {D : Addr} {o : HO} (s : Same H H') (h : H D = none) : Same H (upd H' D o) := fun b u e => by rw [upd_ne (ne_of_none e h)]; exact s b u e
theorem dp_bools {H : Hp} {bs : List Bool} : DpAll K H (bs.map V.bl) (bs.map PyData.bool) := by
  induction bs with
  | nil => exact .nil
  | cons n r ih => exact .cons (.bl n) ih
theorem rd_eqDB {H : Hp} {Q : VK} {p p' : Addr} {bs cs : List Bool} (h1 : SqL K H p (bs.map V.bl)) (h2 : SqL K H p' (cs.map V.bl)) (e : (SeqAt.shaped (.list (bs.map PyData.bool)) && SeqAt.shaped (.list (cs.map PyData.bool)) && PyData.eqv (.list (bs.map PyData.bool)) (.list (cs.map PyData.bool))) = true) (q : Q (.bl true) H) : rEqD K (.ref p) (.ref p') H Q := by
  simp only [Bool.and_eq_true] at e
  refine ⟨_, _, .lst h1 dp_bools, .lst h2 dp_bools, e.1.1, e.1.2, ?_⟩
  rw [e.2]
  exact q
def TTref (K : PySem.W.Frag) : V → (XK → Hp → VK → Prop) → Hp → VK → Prop := fun v2 tl H Q => ∃ x n, (x, n) ∈ refG ∧ v2 = .int n ∧ ∃ R : Hp → Prop, (∀ (E' : XK) (Q' : VK), (∀ H', R H' → E' (.ref (He.ga K x)) none H') → tl E' H Q') ∧ ∀ H' H'', R H' → Same H' H'' → Q (.bl true) H''
set_option maxHeartbeats 8000000 in
theorem okL_refused (T : Env fa fn K mg) (kk : Nat) (h2 : 2 ≤ kk) : GoodL P w K mg base kk "_law_refused" "_law_deed" "_law_due" (TTref K) := by
  have GE_w_others := okE_others (P := P) (w := w) (base := base) T
  refine goodL_mk T 21 (d := d_w_refused) (N := ["_law_deed", "_law_due", "_law_e", "_law_kinds"]) rfl rfl sc_w_refused (fun _ _ _ _ _ _ us hl => match us, hl with | [_, _], _ => rfl) rfl (Or.inl rfl) (fun cdv A outer s H Q v2 f c' q tl hr act hc h => ?_)
  obtain ⟨x, n, hx, rfl, R, ht, k⟩ := h
  have hr := hr.mono h2
  have hu := Nat.lt_of_le_of_lt (Nat.add_le_add_left (by decide : 1 ≤ 200) _) hr.un
  refine ⟨_, (pss_cons (ps_tryA K rfl (i := 2) rfl rfl sc_w_refused.nd rfl rfl ⟨rfl, by decide, .inl (T.glo 35)⟩ takes0N (fun W pn xe tk pw => (pss_one (ps_expr (act W pn xe _ _ tk))))
      (fun a oe cls d pn hz hf => (pss_cons (ps_if (PW.pt (pw_or (pt_not (pt_val (pe_callB (call_isP K rfl List.mem_cons_self (L2N.Zn.zc hz) hf) (by rfl) (T.free 1) (by decide +kernel) (pa_cons (pv 2) (pa_cons (pe_bltn (v := V.ty "ValueError") rfl (T.free 34) (by decide +kernel) rfl) pa_nil))))) (pw_or1 (pt_cmpR (op_inK K rfl) pe_bl (pe_callE K rfl GE_w_others (roomH_suite hr (by decide)) (hot_of rfl hz hf) List.mem_cons_self (L2N.Zn.zc hz) (T.glo 33) (pa_cons (pv 2) pa_nil)) (by first | exact nomark _ | rfl))))) (pss_one (ps_ret pe_bl)) pss_nil)
      (pss_cons (ps_set (i := 3) sc_w_refused.nd rfl (Or.inl rfl) (pe_lst (pa_cons (pe_callB (call_isP K rfl List.mem_cons_self (L2N.Zn.zc hz) hf) (by rfl) (T.free 1) (by decide +kernel) (pa_cons (pv 2) (pa_cons (pe_grefK K rfl (T.glo 15) rfl) pa_nil))) (pa_cons (pe_callB (call_isP K rfl List.mem_cons_self (L2N.Zn.zc hz) hf) (by rfl) (T.free 1) (by decide +kernel) (pa_cons (pv 2) (pa_cons (pe_grefK K rfl (T.glo 20) rfl) pa_nil))) (pa_cons (pe_callB (call_isP K rfl List.mem_cons_self (L2N.Zn.zc hz) hf) (by rfl) (T.free 1) (by decide +kernel) (pa_cons (pv 2) (pa_cons (pe_grefK K rfl (T.glo 17) rfl) pa_nil))) pa_nil)))))
      (pss_one (ps_ret (pe_cmpR (op_eqDK K rfl hr.units) (pv 3) (pe_lst (pa_cons (pe_cmpR op_eq (pv 1) pe_int (nomark _)) (pa_cons (pe_cmpR op_eq (pv 1) pe_int (nomark _)) (pa_cons (pe_cmpR op_eq (pv 1) pe_int (nomark _)) pa_nil)))) (nomark _))))))))
      (pss_one (ps_ret pe_bl))), ?_⟩
  walk_at "rd"
  refine rd_tryA ?_
  walk_at "rd"
  refine ⟨rfl, hc, ht _ _ (fun H1 hR => ?_)⟩
  have k1 : ∀ H'', Same H1 H'' → Q (.bl true) H'' := fun H'' s => k H1 H'' hR s
  have hx0 := hx
  simp only [refG, List.mem_cons, Prod.mk.injEq, List.not_mem_nil, or_false] at hx
  rcases hx with ⟨rfl, rfl⟩ | ⟨rfl, rfl⟩ | ⟨rfl, rfl⟩
  · have ec := (T.exf (List.mem_of_getElem? (i := 0) rfl)).ec
    refine wAs_yes (T.exm (List.mem_of_getElem? (i := 10) rfl)) fun b hb => ?_
    walk_at "rd"
    refine rd_isXT ec (T.exk (List.mem_of_getElem? (i := 11) rfl)) ?_
    walk_at "rd"
    refine rd_callE ?_
    walk_at "rd"
    refine ⟨_, _, hx0, rfl, rfl, rfl, fun H2 p2 s2 L2 => ?_⟩
    walk_at "rd"
    refine ⟨p2, _, rfl, .inl (SqL.of L2), rfl, by decide, ?_⟩
    rw [show (if false = true then !inV (V.bl true) ((List.replicate 10 false).map V.bl) else inV (V.bl true) ((List.replicate 10 false).map V.bl)) = false by decide]
    walk_at "rd"
    refine rd_isX ec (T.exk (List.mem_of_getElem? (i := 12) rfl)) ?_
    walk_at "rd"
    refine rd_isX ec (T.exk (List.mem_of_getElem? (i := 13) rfl)) ?_
    walk_at "rd"
    refine rd_isX ec (T.exk (List.mem_of_getElem? (i := 14) rfl)) ?_
    walk_at "rd"
    refine rd_new (hn := by show 3 ≤ sizeLine; decide) fun p3 hp3 => ?_
    have s3 := same_upd (o := HO.lst [V.bl true, .bl false, .bl false]) hp3
    have L3 : (upd H2 p3 (HO.lst [V.bl true, .bl false, .bl false])) p3 = some (.lst ([true, false, false].map V.bl)) := upd_same
    generalize upd H2 p3 (HO.lst [V.bl true, .bl false, .bl false]) = H3 at s3 L3 ⊢
    walk_at "rd"
    refine rd_new (hn := by show 3 ≤ sizeLine; decide) fun p4 hp4 => ?_
    have s4 := same_upd (o := HO.lst [V.bl true, .bl false, .bl false]) hp4
    refine rd_eqDB (bs := [true, false, false]) (cs := [true, false, false]) (SqL.of (s4 _ _ L3)) (SqL.of upd_same) (by decide +kernel) ?_
    exact k1 _ ((s2.trans s3).trans s4)
  · have ec := (T.exf (List.mem_of_getElem? (i := 2) rfl)).ec
    refine wAs_yes (T.exm (List.mem_of_getElem? (i := 40) rfl)) fun b hb => ?_
    walk_at "rd"
    refine rd_isXT ec (T.exk (List.mem_of_getElem? (i := 41) rfl)) ?_
    walk_at "rd"
    refine rd_callE ?_
    walk_at "rd"
    refine ⟨_, _, hx0, rfl, rfl, rfl, fun H2 p2 s2 L2 => ?_⟩
    walk_at "rd"
    refine ⟨p2, _, rfl, .inl (SqL.of L2), rfl, by decide, ?_⟩
    rw [show (if false = true then !inV (V.bl true) ((List.replicate 10 false).map V.bl) else inV (V.bl true) ((List.replicate 10 false).map V.bl)) = false by decide]
    walk_at "rd"
    refine rd_isX ec (T.exk (List.mem_of_getElem? (i := 42) rfl)) ?_
    walk_at "rd"
    refine rd_isX ec (T.exk (List.mem_of_getElem? (i := 43) rfl)) ?_
    walk_at "rd"
    refine rd_isX ec (T.exk (List.mem_of_getElem? (i := 44) rfl)) ?_
    walk_at "rd"
    refine rd_new (hn := by show 3 ≤ sizeLine; decide) fun p3 hp3 => ?_
    have s3 := same_upd (o := HO.lst [V.bl false, .bl true, .bl false]) hp3
    have L3 : (upd H2 p3 (HO.lst [V.bl false, .bl true, .bl false])) p3 = some (.lst ([false, true, false].map V.bl)) := upd_same
    generalize upd H2 p3 (HO.lst [V.bl false, .bl true, .bl false]) = H3 at s3 L3 ⊢
    walk_at "rd"
    refine rd_new (hn := by show 3 ≤ sizeLine; decide) fun p4 hp4 => ?_
    have s4 := same_upd (o := HO.lst [V.bl false, .bl true, .bl false]) hp4
    refine rd_eqDB (bs := [false, true, false]) (cs := [false, true, false]) (SqL.of (s4 _ _ L3)) (SqL.of upd_same) (by decide +kernel) ?_
    exact k1 _ ((s2.trans s3).trans s4)
  · have ec := (T.exf (List.mem_of_getElem? (i := 1) rfl)).ec
    refine wAs_yes (T.exm (List.mem_of_getElem? (i := 25) rfl)) fun b hb => ?_
    walk_at "rd"
    refine rd_isXT ec (T.exk (List.mem_of_getElem? (i := 26) rfl)) ?_
    walk_at "rd"
    refine rd_callE ?_
    walk_at "rd"
    refine ⟨_, _, hx0, rfl, rfl, rfl, fun H2 p2 s2 L2 => ?_⟩
    walk_at "rd"
    refine ⟨p2, _, rfl, .inl (SqL.of L2), rfl, by decide, ?_⟩
    rw [show (if false = true then !inV (V.bl true) ((List.replicate 10 false).map V.bl) else inV (V.bl true) ((List.replicate 10 false).map V.bl)) = false by decide]
    walk_at "rd"
    refine rd_isX ec (T.exk (List.mem_of_getElem? (i := 27) rfl)) ?_
    walk_at "rd"
    refine rd_isX ec (T.exk (List.mem_of_getElem? (i := 28) rfl)) ?_
    walk_at "rd"
    refine rd_isX ec (T.exk (List.mem_of_getElem? (i := 29) rfl)) ?_
    walk_at "rd"
    refine rd_new (hn := by show 3 ≤ sizeLine; decide) fun p3 hp3 => ?_
    have s3 := same_upd (o := HO.lst [V.bl false, .bl false, .bl true]) hp3
    have L3 : (upd H2 p3 (HO.lst [V.bl false, .bl false, .bl true])) p3 = some (.lst ([false, false, true].map V.bl)) := upd_same
    generalize upd H2 p3 (HO.lst [V.bl false, .bl false, .bl true]) = H3 at s3 L3 ⊢
    walk_at "rd"
    refine rd_new (hn := by show 3 ≤ sizeLine; decide) fun p4 hp4 => ?_
    have s4 := same_upd (o := HO.lst [V.bl false, .bl false, .bl true]) hp4
    refine rd_eqDB (bs := [false, false, true]) (cs := [false, false, true]) (SqL.of (s4 _ _ L3)) (SqL.of upd_same) (by decide +kernel) ?_
    exact k1 _ ((s2.trans s3).trans s4)
def KindB (H : Hp) (x : V) : Prop := ((∃ i, x = .int i) ∨ (∃ b, x = .bl b) ∨ (∃ z, x = .str z) ∨ x = .non) ∨ ∃ a n, x = .ref a ∧ H a = some (.tup [V.int n])
theorem KindB.t {H : Hp} {x : V} (h : KindB H x) : KindT H x := h.imp id fun ⟨a, n, e, h⟩ => ⟨a, _, e, h⟩
def sp_bad : Sp := fun vs H Q _ => ∃ c m : Int, vs = [.int c, .int m] ∧ 0 ≤ m ∧ ∀ H' v, Same H H' → KindT H' v → BadN m v → Q v H'
theorem ok_bad (T : Env fa fn K mg) : Good P w K mg base CX0 1 ("_law_bad", none) ["_law_cell", "_law_most"] sp_bad := by
  refine good_mk T 19 (d := d_w_bad) (N := ["_law_cell", "_law_most", "_law_way", "_law_far"]) (ps := ["_law_cell", "_law_most"]) rfl rfl sc_w_bad (fun _ _ _ _ _ _ us hl => match us, hl with | [_, _], _ => rfl) (fun vs H Q E h => ?_) (fun f cdv A outer σ0 H vs Q E hr h => ?_)
  · obtain ⟨c, m, rfl, _⟩ := h; rfl
  · obtain ⟨c, m, rfl, m0, k⟩ := h
    have e30 : (10 : Int) ^ Int.toNat 30 = 1000000000000000000000000000000 := by decide
    refine ⟨_, (pss_cons (ps_set (i := 2) sc_w_bad.nd rfl (Or.inl rfl) (pe_op op_mod (pv 0) pe_int))
      (pss_cons (ps_set (i := 3) sc_w_bad.nd rfl (Or.inl rfl) (pe_op op_mod (pe_op op_fdivW (pv 0) pe_int) (pe_op op_pow pe_int pe_int)))
      (pss_cons (ps_if (pt_cmpR op_eq (pv 2) pe_int (nomark _)) (pss_one (ps_ret (pe_op op_sub (pe_un un_neg pe_int) (pv 3)))) pss_nil)
      (pss_cons (ps_if (pt_cmpR op_eq (pv 2) pe_int (nomark _)) (pss_one (ps_ret (pe_op op_add (pe_op op_add (pv 1) pe_int) (pv 3)))) pss_nil)
      (pss_cons (ps_if (pt_cmpR op_eq (pv 2) pe_int (nomark _)) (pss_one (ps_ret (pe_op op_add (pv 1) pe_int))) pss_nil)
      (pss_cons (ps_if (pt_cmpR op_eq (pv 2) pe_int (nomark _)) (pss_one (ps_ret (pe_un un_neg pe_int))) pss_nil)
      (pss_cons (ps_if (pt_cmpR op_eq (pv 2) pe_int (nomark _)) (pss_one (ps_ret (pe_cmpR op_eq (pe_op op_mod (pv 3) pe_int) pe_int (nomark _)))) pss_nil)
      (pss_cons (ps_if (pt_cmpR op_eq (pv 2) pe_int (nomark _)) (pss_one (ps_ret pe_non)) pss_nil)
      (pss_cons (ps_if (pt_cmpR op_eq (pv 2) pe_int (nomark _)) (pss_one (ps_ret (pe_callTy call_str_int (by rfl) (T.free 22) (by decide +kernel) (pa_cons (pe_op op_mod (pv 3) pe_int) pa_nil)))) pss_nil)
      (pss_one (ps_ret (pe_tup (pa_cons (pe_op op_mod (pv 3) pe_int) pa_nil))))))))))))), ?_⟩
    walk_at "rd"
    refine rd_I (by refine ⟨by decide, by decide, by decide⟩) ?_
    rw [e30]
    refine rd_mod (by decide) ?_
    have f0 := Int.emod_nonneg (c / 8) (show (1000000000000000000000000000000 : Int) ≠ 0 by decide)
    generalize c / 8 % 1000000000000000000000000000000 = far at *
    generalize c % 8 = way at *
    walk_at "rd"
    refine ite_d (fun _ => ?_) (fun _ => ?_)
    · walk_at "rd"
      exact k H _ (Same.refl _) (.inl (.inl ⟨_, rfl⟩)) (.inr ⟨_, rfl, .inl (by omega)⟩)
    walk_at "rd"
    refine ite_d (fun _ => ?_) (fun _ => ?_)
    · walk_at "rd"
      exact k H _ (Same.refl _) (.inl (.inl ⟨_, rfl⟩)) (.inr ⟨_, rfl, .inr (by omega)⟩)
    walk_at "rd"
    refine ite_d (fun _ => ?_) (fun _ => ?_)
    · walk_at "rd"
      exact k H _ (Same.refl _) (.inl (.inl ⟨_, rfl⟩)) (.inr ⟨_, rfl, .inr (by omega)⟩)
    walk_at "rd"
    refine ite_d (fun _ => ?_) (fun _ => ?_)
    · walk_at "rd"
      exact k H _ (Same.refl _) (.inl (.inl ⟨_, rfl⟩)) (.inr ⟨_, rfl, .inl (by decide)⟩)
    walk_at "rd"
    refine ite_d (fun _ => ?_) (fun _ => ?_)
    · walk_at "rd"
      exact k H _ (Same.refl _) (.inl (.inr (.inl ⟨_, rfl⟩))) (.inl rfl)
    walk_at "rd"
    refine ite_d (fun _ => ?_) (fun _ => ?_)
    · walk_at "rd"
      exact k H _ (Same.refl _) (.inl (.inr (.inr (.inr rfl)))) (.inl rfl)
    walk_at "rd"
    refine ite_d (fun _ => ?_) (fun _ => ?_)
    · walk_at "rd"
      refine ⟨_, rfl, Nat.lt_of_le_of_lt (Nat.log2_le_self _) (by omega), ?_⟩
      exact k H _ (Same.refl _) (.inl (.inr (.inr (.inl ⟨_, rfl⟩)))) (.inl rfl)
    walk_at "rd"
    refine rd_new (hn := by show 1 ≤ sizeLine; decide) fun p hp => ?_
    exact k _ _ (same_upd hp) (.inr ⟨p, _, rfl, upd_same⟩) (.inl rfl)
/-- what a question refuses -/
inductive DueQ (H : Hp) (q : List Sq) : V → Int → Str → Prop where
  | sq {x : V} {w : Int} : KindT H x → BadN 999999999 x → DueQ H q x w "NoSquare"
  | qu {n : Nat} {S : Sq} : q[n]? = some S → S.level = 0 → DueQ H q (.int (n : Int)) 1 "NoLevel"
  | st {n : Nat} {S : Sq} : q[n]? = some S → 0 < S.level → DueQ H q (.int (n : Int)) 2 "NoLevel"
def sp_askX (K : PySem.W.Frag) : Sp := fun vs H _ E => ∃ (a : GA) (rows : List (Int × Addr)) (q : List Sq) (x : V) (wh : Int) (cls : Str), vs = [.ref a.g, x, .int wh] ∧ GAt (CG K) H a rows q ∧ q.length ≤ 16000000 ∧ DueQ H q x wh cls ∧ E (.ref (He.ga K cls)) none H
theorem okX_ask (T : Env fa fn K mg) : Good P w K mg base (L2N.CX P w) 4 ("_law_ask", none) ["_law_grove", "_law_thing", "_law_which"] (sp_askX K) := by
  have GX_Grove_level_of := okX_level_of (P := P) (w := w) (base := base) T
  have GX_Grove_quarters := okX_quarters (P := P) (w := w) (base := base) T
  have GX_Grove_state_of := okX_state_of (P := P) (w := w) (base := base) T
  have GX_Grove_living := okX_livingA (P := P) (w := w) (base := base) T
  have GX_Grove_span := okX_spanA (P := P) (w := w) (base := base) T
  refine good_mkX T 22 (d := d_w_ask) (N := ["_law_grove", "_law_thing", "_law_which"]) (ps := ["_law_grove", "_law_thing", "_law_which"]) rfl rfl sc_w_ask (fun _ _ _ _ _ _ us hl => match us, hl with | [_, _, _], _ => rfl) (fun vs H Q E h => ?_) (fun f cdv A outer s H vs Q E hr h => ?_)
  · obtain ⟨a, rows, q, x, wh, cls, rfl, _⟩ := h; rfl
  · obtain ⟨a, rows, q, x, wh, cls, rfl, G, hq, hd, k⟩ := h
    refine ⟨_, (pss_cons (ps_if (pt_cmpR op_eq (pv 2) pe_int (nomark _)) (pss_one (ps_ret (pe_mgX K rfl (L2N.takes_of rfl rfl rfl rfl) (pv 0) (T.cls 9) (T.meth 36) GX_Grove_level_of (hr.mono (by decide)) (pa_cons (pv 1) pa_nil)))) pss_nil)
      (pss_cons (ps_if (pt_cmpR op_eq (pv 2) pe_int (nomark _)) (pss_one (ps_ret (pe_mgX K rfl (L2N.takes_of rfl rfl rfl rfl) (pv 0) (T.cls 9) (T.meth 37) GX_Grove_quarters (hr.mono (by decide)) (pa_cons (pv 1) pa_nil)))) pss_nil)
      (pss_cons (ps_if (pt_cmpR op_eq (pv 2) pe_int (nomark _)) (pss_one (ps_ret (pe_mgX K rfl (L2N.takes_of rfl rfl rfl rfl) (pv 0) (T.cls 9) (T.meth 38) GX_Grove_state_of (hr.mono (by decide)) (pa_cons (pv 1) pa_nil)))) pss_nil)
      (pss_cons (ps_if (pt_cmpR op_eq (pv 2) pe_int (nomark _)) (pss_one (ps_ret (pe_mgX K rfl (L2N.takes_of rfl rfl rfl rfl) (pv 0) (T.cls 9) (T.meth 39) GX_Grove_living (hr.mono (by decide)) (pa_cons (pv 1) pa_nil)))) pss_nil)
      (pss_one (ps_ret (pe_mgX K rfl (L2N.takes_of rfl rfl rfl rfl) (pv 0) (T.cls 9) (T.meth 40) GX_Grove_span (hr.mono (by decide)) (pa_cons (pv 1) pa_nil)))))))), ?_⟩
    cases hd with
    | sq hk hb =>
      walk_at "rd"
      refine ite_d (fun _ => ?_) (fun _ => ?_)
      · walk_at "rd"
        refine rd_methX ?_
        walk_at "rd"
        refine rd_methR G.ob (by rfl) ?_
        walk_at "rd"
        exact ⟨a, rows, q, x, rfl, G, hk, hb, k⟩
      walk_at "rd"
      refine ite_d (fun _ => ?_) (fun _ => ?_)
      · walk_at "rd"
        refine rd_methX ?_
        walk_at "rd"
        refine rd_methR G.ob (by rfl) ?_
        walk_at "rd"
        exact .inl ⟨a, rows, q, x, rfl, G, hk, hb, k⟩
      walk_at "rd"
      refine ite_d (fun _ => ?_) (fun _ => ?_)
      · walk_at "rd"
        refine rd_methX ?_
        walk_at "rd"
        refine rd_methR G.ob (by rfl) ?_
        walk_at "rd"
        exact .inl ⟨a, rows, q, x, rfl, G, hk, hb, k⟩
      walk_at "rd"
      refine ite_d (fun _ => ?_) (fun _ => ?_)
      · walk_at "rd"
        refine rd_methX ?_
        walk_at "rd"
        refine rd_methR G.ob (by rfl) ?_
        walk_at "rd"
        exact ⟨a, rows, q, x, rfl, G, hk, hb, k⟩
      walk_at "rd"
      refine rd_methX ?_
      walk_at "rd"
      refine rd_methR G.ob (by rfl) ?_
      walk_at "rd"
      exact ⟨a, rows, q, x, rfl, G, hk, hb, k⟩
    | qu hn hl =>
      walk_at "rd"
      refine ite_d (fun z => absurd z (by decide)) (fun _ => ?_)
      walk_at "rd"
      refine ite_d (fun _ => ?_) (fun z => absurd rfl z)
      walk_at "rd"
      refine rd_methX ?_
      walk_at "rd"
      refine rd_methR G.ob (by rfl) ?_
      walk_at "rd"
      exact .inr ⟨a, rows, q, _, _, rfl, G, hn, hq, hl, k⟩
    | st hn hl =>
      walk_at "rd"
      refine ite_d (fun z => absurd z (by decide)) (fun _ => ?_)
      walk_at "rd"
      refine ite_d (fun z => absurd z (by decide)) (fun _ => ?_)
      walk_at "rd"
      refine ite_d (fun _ => ?_) (fun z => absurd rfl z)
      walk_at "rd"
      refine rd_methX ?_
      walk_at "rd"
      refine rd_methR G.ob (by rfl) ?_
      walk_at "rd"
      exact .inr ⟨a, rows, q, _, _, rfl, G, hn, hq, hl, k⟩
end
end JF

/-! ### law k14: numbers refused -/
namespace JF
open PySem PySem.Spec PyProof.Rows L2 LamX
theorem KindT.extN {H H' : Hp} {x : V} (h : KindT H x) (s : ExtN H H') : KindT H' x := h.tups fun b xs e => s _ _ e fun _ z => by cases z
section
variable {P : Program} {w : World} {K : PySem.W.Frag} {mg : Str → Option Value} {base : Heap}
theorem dueJ_of {H : Hp} {q : List Sq} {w0 w1 w2 w3 b : V} (all : ∀ w ∈ [w0, w1, w2, w3], GoodN q w ∨ w = b) (has : b ∈ [w0, w1, w2, w3]) (hk : KindT H b) (hb : BadN 999999999 b) : DueJ H q w0 w1 w2 w3 "NoSquare" :=
  .sq (fun w h => (all w h).imp id fun z => by subst z; exact ⟨hk, hb⟩) ⟨b, has, hb⟩
theorem ixN_nat {n i : Nat} (h : i < n) : ixN n (i : Int) = some i := by
  unfold ixN
  rw [if_pos (by omega), if_pos (by omega)]
  rfl
def FourN (q : List Sq) (ws : List V) : Prop := ws.length = 4 ∧ ∀ w ∈ ws, GoodN q w
def sp_numbers (K : PySem.W.Frag) : Sp := fun vs H Q _ => ∃ (a : GA) (rows : List (Int × Addr)) (q : List Sq) (b : V) (f : Addr) (ws : List V) (o : V), vs = [.ref a.g, b, .ref f, o] ∧ GAt (CG K) H a rows q ∧ q.length ≤ 16000000 ∧ KindT H b ∧ BadN 999999999 b ∧ H f = some (.lst ws) ∧ FourN q ws ∧ GoodN q o ∧ Tabs (tabsL K) H ∧ ∀ H', ExtN H H' → Tabs (tabsL K) H' → Q (.bl true) H'
set_option maxHeartbeats 8000000 in
theorem ok_numbers (T : Env fa fn K mg) (TB : ∀ p ∈ tfs, TabB base mg (He.codeOf K p) (He.tabOf K (He.codeOf K p))) : Good P w K mg base CX0 20 ("_law_numbers_refused", none) ["_law_grove", "_law_bad_here", "_law_four", "_law_other"] (sp_numbers K) := by
  have GL_w_refused := (okL_refused (P := P) (w := w) (base := base) T 10 (by decide))
  have GX_w_ask := okX_ask (P := P) (w := w) (base := base) T
  have GX_Grove_joined := okX_joined (P := P) (w := w) (base := base) T
  refine good_mkC T 23 (d := d_w_numbers_refused) (N := ["_law_grove", "_law_bad_here", "_law_four", "_law_other", "_law_k", "_law_some", "_law_which"]) (ps := ["_law_grove", "_law_bad_here", "_law_four", "_law_other"]) rfl rfl sc_w_numbers_refused (fun _ _ _ _ _ _ us hl => match us, hl with | [_, _, _, _], _ => rfl) (fun vs H Q E h => ?_) (fun fn_ A outer σ0 H vs Q E hr h => ?_)
  · obtain ⟨a, rows, q, b, f, ws, o, rfl, _⟩ := h; rfl
  · obtain ⟨a, rows, q, b, f, ws, o, rfl, G, hq, hk, hb, hf, hw, ho, tabs, k⟩ := h
    refine ⟨_, (pss_cons (ps_for PassesOwn.never rfl (pi_range1 (by rfl) (T.free 41) (pa_cons pe_int pa_nil)) (pg_name (i := 6) sc_w_numbers_refused.nd rfl (Or.inr rfl)) (pss_one (ps_if (pt_not (pt_val (pe_lam2 K rfl (T := tabsL K) GL_w_refused (by rfl) (T.glo 43) steady_int (TB _ (List.mem_of_getElem? (i := 0) rfl)) rfl (tl_mem 0 rfl) (tl_u T 0 rfl) (hr.mono (by decide)) (by decide) (show LamS (defScope st_w_numbers_refused) _ from lamS_by (by decide +kernel)) (by rfl) (fun _ _ _ _ _ => by rfl) (fun A' outer' s' H' E' f' c' hr => by exact (pe_cgX K rfl lamN_takes GX_w_ask (hr.mono (by decide)) (T.glo 42) (pa_cons (pv 0) (pa_cons (pv 1) (pa_cons (pv 6) pa_nil)))))))) (pss_one (ps_ret pe_bl)) pss_nil)))
      (pss_cons (ps_for PassesOwn.never rfl (pi_range1 (by rfl) (T.free 41) (pa_cons pe_int pa_nil)) (pg_name (i := 4) sc_w_numbers_refused.nd rfl (Or.inl rfl)) (pss_cons (ps_set (i := 5) sc_w_numbers_refused.nd rfl (Or.inr rfl) (pe_callTy (call_listK K rfl) (by rfl) (T.free 44) (by decide +kernel) (pa_cons (pv 2) pa_nil)))
      (pss_cons (ps_asg (pv 1) (pg_sub (pv 5) (pv 4) set_list))
      (pss_cons (ps_if (pt_not (pt_val (pe_lam2 K rfl (T := tabsL K) GL_w_refused (by rfl) (T.glo 43) steady_int (TB _ (List.mem_of_getElem? (i := 0) rfl)) rfl (tl_mem 0 rfl) (tl_u T 0 rfl) (hr.mono (by decide)) (by decide) (show LamS (defScope st_w_numbers_refused) _ from lamS_by (by decide +kernel)) (by rfl) (fun _ _ _ _ _ => by rfl) (fun A' outer' s' H' E' f' c' hr => by exact (pe_mgX K rfl lamN_takes (pv 0) (T.cls 9) (T.meth 45) GX_Grove_joined (hr.mono (by decide)) (pa_cons (pe_ix (ix_listK K rfl) (pv 5) pe_int (fun _ _ => rfl)) (pa_cons (pe_ix (ix_listK K rfl) (pv 5) pe_int (fun _ _ => rfl)) (pa_cons (pe_ix (ix_listK K rfl) (pv 5) pe_int (fun _ _ => rfl)) (pa_cons (pe_ix (ix_listK K rfl) (pv 5) pe_int (fun _ _ => rfl)) pa_nil))))))))) (pss_one (ps_ret pe_bl)) pss_nil)
      (pss_cons (ps_asg (pv 3) (pg_sub (pv 5) (pe_op op_sub (pv 4) pe_int) set_list))
      (pss_one (ps_if (pt_not (pt_val (pe_lam2 K rfl (T := tabsL K) GL_w_refused (by rfl) (T.glo 43) steady_int (TB _ (List.mem_of_getElem? (i := 0) rfl)) rfl (tl_mem 0 rfl) (tl_u T 0 rfl) (hr.mono (by decide)) (by decide) (show LamS (defScope st_w_numbers_refused) _ from lamS_by (by decide +kernel)) (by rfl) (fun _ _ _ _ _ => by rfl) (fun A' outer' s' H' E' f' c' hr => by exact (pe_mgX K rfl lamN_takes (pv 0) (T.cls 9) (T.meth 45) GX_Grove_joined (hr.mono (by decide)) (pa_cons (pe_ix (ix_listK K rfl) (pv 5) pe_int (fun _ _ => rfl)) (pa_cons (pe_ix (ix_listK K rfl) (pv 5) pe_int (fun _ _ => rfl)) (pa_cons (pe_ix (ix_listK K rfl) (pv 5) pe_int (fun _ _ => rfl)) (pa_cons (pe_ix (ix_listK K rfl) (pv 5) pe_int (fun _ _ => rfl)) pa_nil))))))))) (pss_one (ps_ret pe_bl)) pss_nil)))))))
      (pss_one (ps_ret pe_bl)))), ?_⟩
    walk_at "rd"
    refine ⟨5, rfl, by decide, by decide, ?_⟩
    refine for_it (walk_r0 (n := 5)) (fun i σ Hx => ∃ x6 : Option V, σ = [some (.ref a.g), some b, some (.ref f), some o, none, none, x6] ∧ ExtN H Hx ∧ Tabs (tabsL K) Hx) ⟨none, rfl, ExtN.refl _, tabs⟩ (fun _ _ _ _ _ => trivial) ?_ ?_
    · rintro i v σ Ha Hb hi ⟨x6, rfl, x1, t1⟩ ⟨rfl, rfl⟩
      walk_at "rd"
      refine ⟨t1, _, rfl, fun H1 x2 t2 => ?_⟩
      have x3 := x1.trans x2
      refine ⟨"NoSquare", 0, by simp [refG], rfl, Same H1, fun E' Q' hE => ?_, fun H2 H3 s2 s3 => ?_⟩
      · walk_at "rd"
        refine rd_callS ?_
        walk_at "rd"
        exact ⟨a, rows, q, b, _, "NoSquare", rfl, G.extN x3, hq, .sq (hk.extN x3) hb, hE H1 (Same.refl _)⟩
      walk_at "rd"
      exact ⟨_, rfl, x3.trans (ExtN.of (s2.trans s3)), tabsL_same t2 (s2.trans s3)⟩
    · rintro σ Hx ⟨x6, rfl, x1, t1⟩
      walk_at "rd"
      refine ⟨4, rfl, by decide, by decide, ?_⟩
      refine for_it (walk_r0 (n := 4)) (fun i σ Hx => ∃ x4 x5 : Option V, σ = [some (.ref a.g), some b, some (.ref f), some o, x4, x5, x6] ∧ ExtN H Hx ∧ Tabs (tabsL K) Hx) ⟨none, none, rfl, x1, t1⟩ (fun _ _ _ _ _ => trivial) ?_ ?_
      · rintro i v σ Ha Hb hi ⟨x4, x5, rfl, x1, t1⟩ ⟨rfl, rfl⟩
        walk_at "rd"
        have i4 : i < 4 := hi
        refine ⟨f, ws, rfl, .inl (SqL.of (x1 _ _ hf (fun _ z => by cases z))), fun p hp => ?_⟩
        have L0 : (upd Hb p (.lst ws)) p = some (.lst ws) := upd_same
        walk_at "rd"
        refine ⟨p, ws, (i : Int), i, rfl, rfl, L0, ixN_nat (by rw [hw.1]; exact i4), ?_⟩
        have L1 : (upd (upd Hb p (.lst ws)) p (.lst (ws.set i b))) p = some (.lst (ws.set i b)) := upd_same
        have sp := Same.putE (o := .lst (ws.set i b)) (Same.putE (Same.refl Hb) hp (o := .lst ws)) hp
        have x2 := x1.trans (ExtN.of sp)
        have t2 := tabsL_same t1 sp
        generalize upd (upd Hb p (.lst ws)) p (.lst (ws.set i b)) = H2 at *
        have len1 : (ws.set i b).length = 4 := by rw [List.length_set]; exact hw.1
        have all1 : ∀ w ∈ ws.set i b, GoodN q w ∨ w = b := fun w h => (List.mem_or_eq_of_mem_set h).imp (hw.2 w) id
        have at1 : (ws.set i b)[i]? = some b := List.getElem?_set_self (by rw [hw.1]; exact i4)
        generalize ws.set i b = w1 at *
        obtain ⟨y0, y1, y2, y3, rfl⟩ : ∃ y0 y1 y2 y3, w1 = [y0, y1, y2, y3] := by
          match w1, len1 with
          | [y0, y1, y2, y3], _ => exact ⟨y0, y1, y2, y3, rfl⟩
        walk_at "rd"
        refine ⟨t2, _, rfl, fun H3 x3 t3 => ?_⟩
        have x4 := x2.trans x3
        have L3 := x3 _ _ L1 (fun _ z => by cases z)
        refine ⟨"NoSquare", 0, by simp [refG], rfl, Same H3, fun E' Q' hE => ?_, fun H4 H5 s4 s5 => ?_⟩
        · walk_at "rd"
          refine rd_methX ?_
          walk_at "rd"
          refine rd_methR ((G.extN x4).ob) (by rfl) ?_
          walk_at "rd"
          refine rd_ixL (SqL.of L3) (atI_nat (j := 0) rfl) ?_
          walk_at "rd"
          refine rd_ixL (SqL.of L3) (atI_nat (j := 1) rfl) ?_
          walk_at "rd"
          refine rd_ixL (SqL.of L3) (atI_nat (j := 2) rfl) ?_
          walk_at "rd"
          refine rd_ixL (SqL.of L3) (atI_nat (j := 3) rfl) ?_
          walk_at "rd"
          exact ⟨a, rows, q, _, _, _, _, "NoSquare", rfl, G.extN x4, hq, dueJ_of all1 (List.mem_of_getElem? at1) (hk.extN x4) hb, fun H' s => hE H' s⟩
        have s35 := s4.trans s5
        have x5 := x4.trans (ExtN.of s35)
        have t5 := tabsL_same t3 s35
        have L5 := s35 _ _ L3
        walk_at "rd"
        obtain ⟨j, hj, hj4, hji⟩ : ∃ j, ixN 4 ((i : Int) - 1) = some j ∧ j < 4 ∧ j ≠ i := by
          match i, i4 with
          | 0, _ => exact ⟨3, by decide, by decide, by decide⟩
          | 1, _ => exact ⟨0, by decide, by decide, by decide⟩
          | 2, _ => exact ⟨1, by decide, by decide, by decide⟩
          | 3, _ => exact ⟨2, by decide, by decide, by decide⟩
        refine ⟨p, [y0, y1, y2, y3], (i : Int) - 1, j, rfl, rfl, L5, hj, ?_⟩
        have L6 : (upd H5 p (.lst ([y0, y1, y2, y3].set j o))) p = some (.lst ([y0, y1, y2, y3].set j o)) := upd_same
        have x6 : ExtN H (upd H5 p (.lst ([y0, y1, y2, y3].set j o))) := fun c v e n => by
          rw [upd_ne (ne_of_none (x1 c v e n) hp)]
          exact x5 c v e n
        have t6 : Tabs (tabsL K) (upd H5 p (.lst ([y0, y1, y2, y3].set j o))) := tabsL_fr t5 fun c v e y => by
          rw [upd_ne (fun z => ?_)]
          · exact e
          · rw [z, L5] at e
            cases e
            rcases y with ⟨_, y⟩ | ⟨_, y⟩ <;> cases y
        generalize upd H5 p (.lst ([y0, y1, y2, y3].set j o)) = H6 at *
        have len2 : ([y0, y1, y2, y3].set j o).length = 4 := by rw [List.length_set]; rfl
        have all2 : ∀ w ∈ [y0, y1, y2, y3].set j o, GoodN q w ∨ w = b := fun w h => (List.mem_or_eq_of_mem_set h).elim (all1 w) fun z => .inl (z ▸ ho)
        have at2 : ([y0, y1, y2, y3].set j o)[i]? = some b := by rw [List.getElem?_set_ne hji]; exact at1
        generalize [y0, y1, y2, y3].set j o = w2 at *
        obtain ⟨z0, z1, z2, z3, rfl⟩ : ∃ z0 z1 z2 z3, w2 = [z0, z1, z2, z3] := by
          match w2, len2 with
          | [z0, z1, z2, z3], _ => exact ⟨z0, z1, z2, z3, rfl⟩
        walk_at "rd"
        refine ⟨t6, _, rfl, fun H7 x7 t7 => ?_⟩
        have x8 := x6.trans x7
        have L7 := x7 _ _ L6 (fun _ z => by cases z)
        refine ⟨"NoSquare", 0, by simp [refG], rfl, Same H7, fun E' Q' hE => ?_, fun H8 H9 s8 s9 => ?_⟩
        · walk_at "rd"
          refine rd_methX ?_
          walk_at "rd"
          refine rd_methR ((G.extN x8).ob) (by rfl) ?_
          walk_at "rd"
          refine rd_ixL (SqL.of L7) (atI_nat (j := 0) rfl) ?_
          walk_at "rd"
          refine rd_ixL (SqL.of L7) (atI_nat (j := 1) rfl) ?_
          walk_at "rd"
          refine rd_ixL (SqL.of L7) (atI_nat (j := 2) rfl) ?_
          walk_at "rd"
          refine rd_ixL (SqL.of L7) (atI_nat (j := 3) rfl) ?_
          walk_at "rd"
          exact ⟨a, rows, q, _, _, _, _, "NoSquare", rfl, G.extN x8, hq, dueJ_of all2 (List.mem_of_getElem? at2) (hk.extN x8) hb, fun H' s => hE H' s⟩
        walk_at "rd"
        exact ⟨_, _, rfl, x8.trans (ExtN.of (s8.trans s9)), tabsL_same t7 (s8.trans s9)⟩
      · rintro σ Hx ⟨x4, x5, rfl, x1, t1⟩
        walk_at "rd"
        exact k _ x1 t1
end
end JF

/-! ### law k14: levels refused -/
namespace JF
open PySem PySem.Spec PyProof.Rows L2 LamX
/-- a step of a grove in which tables of code objects may grow -/
structure LStep (C : Addr) (H : Hp) (a : GA) (rows : List (Int × Addr)) (q : List Sq) (H' : Hp) (rows' : List (Int × Addr)) (q' : List Sq) : Prop where
  gat : GAt C H' a rows' q'
  pre : q <+: q'
  own : ∀ b o, H b = some o → b ∉ a.muts rows → (∀ ps, o ≠ .tbl ps) → H' b = some o ∧ b ∉ a.muts rows'
section
variable {C : Addr} {H H1 H2 : Hp} {a : GA} {rows r1 r2 : List (Int × Addr)} {q q1 q2 : List Sq}
theorem LStep.refl (G : GAt C H a rows q) : LStep C H a rows q H rows q := ⟨G, List.prefix_refl _, fun _ _ e n _ => ⟨e, n⟩⟩
theorem LStep.of (x : GStep C H a rows q H1 r1 q1) : LStep C H a rows q H1 r1 q1 := ⟨x.gat, x.pre, fun _ _ e n _ => x.own e n⟩
theorem LStep.trans (x : LStep C H a rows q H1 r1 q1) (y : LStep C H1 a r1 q1 H2 r2 q2) : LStep C H a rows q H2 r2 q2 :=
  ⟨y.gat, x.pre.trans y.pre, fun b o e n t => let ⟨e1, n1⟩ := x.own b o e n t; y.own b o e1 n1 t⟩
theorem LStep.ext (G : GAt C H a rows q) (x : ExtN H H1) : LStep C H a rows q H1 rows q := ⟨G.extN x, List.prefix_refl _, fun b o e n t => ⟨x b o e t, n⟩⟩
theorem LStep.kind {x : V} (s : LStep C H a rows q H1 r1 q1) (G : GAt C H a rows q) (h : KindT H x) : KindT H1 x := h.tups fun b xs e => (s.own b _ e (G.tup_out e) fun _ z => by cases z).1
end
section
variable {P : Program} {w : World} {K : PySem.W.Frag} {mg : Str → Option Value} {base : Heap}
def sp_levels (K : PySem.W.Frag) : Sp := fun vs H Q _ => ∃ (a : GA) (rows : List (Int × Addr)) (q : List Sq) (b : V) (lv : Nat) (f : Addr) (n0 n1 n2 n3 no : Nat) (A B C D O : Sq), vs = [.ref a.g, b, .int (lv : Int), .ref f, .int (no : Int)] ∧ GAt (CG K) H a rows q ∧ q.length + 300 < 16000000 ∧ KindT H b ∧ BadN 48 b ∧ H f = some (.lst [.int (n0 : Int), .int (n1 : Int), .int (n2 : Int), .int (n3 : Int)]) ∧ f ∉ a.muts rows ∧
  q[n0]? = some A ∧ q[n1]? = some B ∧ q[n2]? = some C ∧ q[n3]? = some D ∧ q[no]? = some O ∧ A.level = lv ∧ B.level = lv ∧ C.level = lv ∧ D.level = lv ∧ O.level ≠ lv ∧ Tabs (tabsL K) H ∧
  ∀ H' rows' q', LStep (CG K) H a rows q H' rows' q' → q'.length ≤ q.length + 60 → Tabs (tabsL K) H' → Q (.bl true) H'
set_option maxHeartbeats 16000000 in
theorem ok_levels (T : Env fa fn K mg) (TB : ∀ p ∈ tfs, TabB base mg (He.codeOf K p) (He.tabOf K (He.codeOf K p))) : Good P w K mg base CX0 20 ("_law_levels_refused", none) ["_law_grove", "_law_bad_here", "_law_level", "_law_four", "_law_other"] (sp_levels K) := by
  have GL_w_refused := (okL_refused (P := P) (w := w) (base := base) T 10 (by decide))
  have GX_w_ask := okX_ask (P := P) (w := w) (base := base) T
  have GX_Grove_joined := okX_joined (P := P) (w := w) (base := base) T
  have GX_Grove_solid := okX_solid (P := P) (w := w) (base := base) T
  have GX_Grove_state_of := okX_state_of (P := P) (w := w) (base := base) T
  have G_Grove_leaf := ok_leaf (P := P) (w := w) (base := base) T
  have G_Grove_solid := ok_solid (P := P) (w := w) (base := base) T
  refine good_mkC T 24 (d := d_w_levels_refused) (N := ["_law_grove", "_law_bad_here", "_law_level", "_law_four", "_law_other", "_law_k", "_law_high", "_law_leaf", "_law_some"]) (ps := ["_law_grove", "_law_bad_here", "_law_level", "_law_four", "_law_other"]) rfl rfl sc_w_levels_refused (fun _ _ _ _ _ _ us hl => match us, hl with | [_, _, _, _, _], _ => rfl) (fun vs H Q E h => ?_) (fun fn_ A outer σ0 H vs Q E hr h => ?_)
  · obtain ⟨a, rows, q, b, lv, f, n0, n1, n2, n3, no, A, B, C, D, O, rfl, _⟩ := h; rfl
  · obtain ⟨a, rows, q, b, lv, f, n0, n1, n2, n3, no, A, B, C, D, O, rfl, G, hq, hk, hb, hf, hfo, h0, h1, h2, h3, ho, e0, e1, e2, e3, eo, tabs, k⟩ := h
    refine ⟨_, (pss_cons (ps_set (i := 7) sc_w_levels_refused.nd rfl (Or.inr rfl) (pe_mgK K rfl (pv 0) (T.cls 9) (T.meth 46) G_Grove_leaf (hr.mono (by decide)) (pa_cons pe_int pa_nil)))
      (pss_cons (ps_set (i := 6) sc_w_levels_refused.nd rfl (Or.inr rfl) (pe_mgK K rfl (pv 0) (T.cls 9) (T.meth 47) G_Grove_solid (hr.mono (by decide)) (pa_cons pe_int (pa_cons pe_int pa_nil))))
      (pss_cons (ps_for PassesOwn.never rfl (pi_tupK K rfl (pe_tup (pa_cons pe_int (pa_cons pe_int pa_nil)))) (pg_name (i := 8) sc_w_levels_refused.nd rfl (Or.inr rfl)) (pss_one (ps_if (pt_not (pt_val (pe_lam2 K rfl (T := tabsL K) GL_w_refused (by rfl) (T.glo 43) steady_int (TB _ (List.mem_of_getElem? (i := 1) rfl)) rfl (tl_mem 1 rfl) (tl_u T 1 rfl) (hr.mono (by decide)) (by decide) (show LamS (defScope st_w_levels_refused) _ from lamS_by (by decide +kernel)) (by rfl) (fun _ _ _ _ _ => by rfl) (fun A' outer' s' H' E' f' c' hr => by exact (pe_mgX K rfl lamN_takes (pv 0) (T.cls 9) (T.meth 47) GX_Grove_solid (hr.mono (by decide)) (pa_cons (pv 1) (pa_cons (pv 8) pa_nil))))))) (pss_one (ps_ret pe_bl)) pss_nil)))
      (pss_cons (ps_if (pt_not (pt_val (pe_lam2 K rfl (T := tabsL K) GL_w_refused (by rfl) (T.glo 43) steady_int (TB _ (List.mem_of_getElem? (i := 1) rfl)) rfl (tl_mem 1 rfl) (tl_u T 1 rfl) (hr.mono (by decide)) (by decide) (show LamS (defScope st_w_levels_refused) _ from lamS_by (by decide +kernel)) (by rfl) (fun _ _ _ _ _ => by rfl) (fun A' outer' s' H' E' f' c' hr => by exact (pe_cgX K rfl lamN_takes GX_w_ask (hr.mono (by decide)) (T.glo 42) (pa_cons (pv 0) (pa_cons (pv 7) (pa_cons pe_int pa_nil)))))))) (pss_one (ps_ret pe_bl)) pss_nil)
      (pss_cons (ps_if (pt_not (pt_val (pe_lam2 K rfl (T := tabsL K) GL_w_refused (by rfl) (T.glo 43) steady_int (TB _ (List.mem_of_getElem? (i := 1) rfl)) rfl (tl_mem 1 rfl) (tl_u T 1 rfl) (hr.mono (by decide)) (by decide) (show LamS (defScope st_w_levels_refused) _ from lamS_by (by decide +kernel)) (by rfl) (fun _ _ _ _ _ => by rfl) (fun A' outer' s' H' E' f' c' hr => by exact (pe_cgX K rfl lamN_takes GX_w_ask (hr.mono (by decide)) (T.glo 42) (pa_cons (pv 0) (pa_cons (pv 6) (pa_cons pe_int pa_nil)))))))) (pss_one (ps_ret pe_bl)) pss_nil)
      (pss_cons (ps_if (pt_not (pt_val (pe_lam2 K rfl (T := tabsL K) GL_w_refused (by rfl) (T.glo 43) steady_int (TB _ (List.mem_of_getElem? (i := 1) rfl)) rfl (tl_mem 1 rfl) (tl_u T 1 rfl) (hr.mono (by decide)) (by decide) (show LamS (defScope st_w_levels_refused) _ from lamS_by (by decide +kernel)) (by rfl) (fun _ _ _ _ _ => by rfl) (fun A' outer' s' H' E' f' c' hr => by exact (pe_mgX K rfl lamN_takes (pv 0) (T.cls 9) (T.meth 45) GX_Grove_joined (hr.mono (by decide)) (pa_cons (pv 6) (pa_cons (pv 6) (pa_cons (pv 6) (pa_cons (pv 6) pa_nil))))))))) (pss_one (ps_ret pe_bl)) pss_nil)
      (pss_cons (ps_for PassesOwn.never rfl (pi_range1 (by rfl) (T.free 41) (pa_cons pe_int pa_nil)) (pg_name (i := 5) sc_w_levels_refused.nd rfl (Or.inl rfl)) (pss_cons (ps_set (i := 8) sc_w_levels_refused.nd rfl (Or.inr rfl) (pe_callTy (call_listK K rfl) (by rfl) (T.free 44) (by decide +kernel) (pa_cons (pv 3) pa_nil)))
      (pss_cons (ps_asg (pv 4) (pg_sub (pv 8) (pv 5) set_list))
      (pss_one (ps_if (pt_not (pt_val (pe_lam2 K rfl (T := tabsL K) GL_w_refused (by rfl) (T.glo 43) steady_int (TB _ (List.mem_of_getElem? (i := 1) rfl)) rfl (tl_mem 1 rfl) (tl_u T 1 rfl) (hr.mono (by decide)) (by decide) (show LamS (defScope st_w_levels_refused) _ from lamS_by (by decide +kernel)) (by rfl) (fun _ _ _ _ _ => by rfl) (fun A' outer' s' H' E' f' c' hr => by exact (pe_mgX K rfl lamN_takes (pv 0) (T.cls 9) (T.meth 45) GX_Grove_joined (hr.mono (by decide)) (pa_cons (pe_ix (ix_listK K rfl) (pv 8) pe_int (fun _ _ => rfl)) (pa_cons (pe_ix (ix_listK K rfl) (pv 8) pe_int (fun _ _ => rfl)) (pa_cons (pe_ix (ix_listK K rfl) (pv 8) pe_int (fun _ _ => rfl)) (pa_cons (pe_ix (ix_listK K rfl) (pv 8) pe_int (fun _ _ => rfl)) pa_nil))))))))) (pss_one (ps_ret pe_bl)) pss_nil)))))
      (pss_one (ps_ret (L2.pe_or (pe_cmpR op_eq (pv 2) pe_int (nomark _)) (pe_one (pe_lam2 K rfl (T := tabsL K) GL_w_refused (by rfl) (T.glo 43) steady_int (TB _ (List.mem_of_getElem? (i := 1) rfl)) rfl (tl_mem 1 rfl) (tl_u T 1 rfl) (hr.mono (by decide)) (by decide) (show LamS (defScope st_w_levels_refused) _ from lamS_by (by decide +kernel)) (by rfl) (fun _ _ _ _ _ => by rfl) (fun A' outer' s' H' E' f' c' hr => by exact (pe_mgX K rfl lamN_takes (pv 0) (T.cls 9) (T.meth 38) GX_Grove_state_of (hr.mono (by decide)) (pa_cons (pe_ix (ix_listK K rfl) (pv 3) pe_int (fun _ _ => rfl)) pa_nil))))))))))))))), ?_⟩
    walk_at "rd"
    refine rd_methR G.ob (by rfl) ?_
    walk_at "rd"
    refine ⟨a, rows, q, 3, rfl, G, by decide, by decide, by omega, fun H1 q1 nl g1 p1 l1 el f1 => ?_⟩
    have S1 := (GStep.refl G).m5 g1 p1 f1
    have t1 := tabsL_step tabs G S1
    have Z1 := LStep.of S1
    walk_at "rd"
    refine rd_methR Z1.gat.ob (by rfl) ?_
    walk_at "rd"
    refine ⟨a, rows, q1, 48, 2, rfl, Z1.gat, by decide, by decide, by decide, by omega, fun H2 r2 q2 nh S2 l2 eh => ?_⟩
    have t2 := tabsL_step t1 Z1.gat S2
    have Z2 := Z1.trans (LStep.of S2)
    have el2 := pre_get S2.pre el
    have hk2 := Z2.kind G hk
    have hf2 := Z2.own f _ hf hfo (fun _ z => by cases z)
    have lq2 : q2.length ≤ q.length + 55 := by omega
    have g0 := pre_get Z2.pre h0
    have g1' := pre_get Z2.pre h1
    have g2 := pre_get Z2.pre h2
    have g3 := pre_get Z2.pre h3
    have go := pre_get Z2.pre ho
    have G2 := Z2.gat
    have fin : ∀ H', ExtN H2 H' → Tabs (tabsL K) H' → Q (.bl true) H' := fun H' x t => k H' r2 q2 (Z2.trans (LStep.ext G2 x)) (by omega) t
    clear k h0 h1 h2 h3 ho S1 S2 t1 Z1 el f1 g1 p1 G hk hf hfo tabs
    walk_at "rd"
    refine rd_new (hn := by show 2 ≤ sizeLine; decide) fun tt htt => ?_
    have s3 := same_upd (o := HO.tup [V.int 1, V.int 9]) htt
    have T3 : (upd H2 tt (HO.tup [V.int 1, V.int 9])) tt = some (.tup [V.int 1, V.int 9]) := upd_same
    have x3 : ExtN H2 (upd H2 tt (HO.tup [V.int 1, V.int 9])) := ExtN.of s3
    have t3 := tabsL_same t2 s3
    generalize upd H2 tt (HO.tup [V.int 1, V.int 9]) = H3 at *
    walk_at "rd"
    refine ⟨tt, rfl, ⟨_, SqT.of T3⟩, ?_⟩
    refine for_it (walk_tup (K := K) (a := tt) (xs := [V.int 1, V.int 9])) (fun i σ Hx => ∃ x8 : Option V, σ = [some (.ref a.g), some b, some (.int (lv : Int)), some (.ref f), some (.int (no : Int)), none, some (.int (nh : Int)), some (.int (nl : Int)), x8] ∧ ExtN H2 Hx ∧ Tabs (tabsL K) Hx ∧ Hx tt = some (.tup [V.int 1, V.int 9])) ⟨none, rfl, x3, t3, T3⟩ (fun i σ Hx _ ⟨_, _, _, _, z⟩ => SqT.of z) ?_ ?_
    · rintro i v σ Ha Hb hi ⟨x8, rfl, x4, t4, T4⟩ ⟨rfl, hv⟩
      walk_at "rd"
      refine ⟨t4, _, rfl, fun H5 x5 t5 => ?_⟩
      have x6 := x4.trans x5
      refine ⟨"NoLevel", 1, by simp [refG], rfl, Same H5, fun E' Q' hE => ?_, fun H6 H7 s6 s7 => ?_⟩
      · walk_at "rd"
        refine rd_methX ?_
        walk_at "rd"
        refine rd_methR ((G2.extN x6).ob) (by rfl) ?_
        walk_at "rd"
        exact ⟨a, r2, q2, b, v, rfl, G2.extN x6, .inl ⟨hk2.extN x6, hb, hE H5 (Same.refl _)⟩⟩
      walk_at "rd"
      exact ⟨_, rfl, x6.trans (ExtN.of (s6.trans s7)), tabsL_same t5 (s6.trans s7), (s6.trans s7) _ _ (x5 _ _ T4 (fun _ z => by cases z))⟩
    · rintro σ Hx ⟨x8, rfl, x4, t4, T4⟩
      clear T4 T3 s3 x3 t3
      walk_at "rd"
      refine ⟨t4, _, rfl, fun H5 x5 t5 => ?_⟩
      have x6 := x4.trans x5
      refine ⟨"NoLevel", 1, by simp [refG], rfl, Same H5, fun E' Q' hE => ?_, fun H6 H7 s6 s7 => ?_⟩
      · walk_at "rd"
        refine rd_callS ?_
        walk_at "rd"
        exact ⟨a, r2, q2, _, 1, "NoLevel", rfl, G2.extN x6, by omega, .qu el2 rfl, hE H5 (Same.refl _)⟩
      have x7 := x6.trans (ExtN.of (s6.trans s7))
      have t7 := tabsL_same t5 (s6.trans s7)
      walk_at "rd"
      refine ⟨t7, _, rfl, fun H8 x8' t8 => ?_⟩
      have x9 := x7.trans x8'
      refine ⟨"NoLevel", 1, by simp [refG], rfl, Same H8, fun E' Q' hE => ?_, fun H9 HA s9 sA => ?_⟩
      · walk_at "rd"
        refine rd_callS ?_
        walk_at "rd"
        exact ⟨a, r2, q2, _, 2, "NoLevel", rfl, G2.extN x9, by omega, .st eh (by rw [Sq.level_even]; decide), hE H8 (Same.refl _)⟩
      have xA := x9.trans (ExtN.of (s9.trans sA))
      have tA := tabsL_same t8 (s9.trans sA)
      walk_at "rd"
      refine ⟨tA, _, rfl, fun HB xB tB => ?_⟩
      have xC := xA.trans xB
      refine ⟨"NoLevel", 1, by simp [refG], rfl, Same HB, fun E' Q' hE => ?_, fun HC HD sC sD => ?_⟩
      · walk_at "rd"
        refine rd_methX ?_
        walk_at "rd"
        refine rd_methR ((G2.extN xC).ob) (by rfl) ?_
        walk_at "rd"
        exact ⟨a, r2, q2, _, _, _, _, "NoLevel", rfl, G2.extN xC, by omega, .lv eh eh eh eh (.inr (by rw [Sq.level_even]; decide)), fun H' s => hE H' s⟩
      have xD := xC.trans (ExtN.of (sC.trans sD))
      have tD := tabsL_same tB (sC.trans sD)
      clear xA tA x9 t8 x7 t7 x6 t5 xC tB s6 s7 s9 sA sC sD x8' xB x5 x4 t4
      walk_at "rd"
      refine ⟨4, rfl, by decide, by decide, ?_⟩
      refine for_it (walk_r0 (n := 4)) (fun i σ Hx => ∃ x5 x8 : Option V, σ = [some (.ref a.g), some b, some (.int (lv : Int)), some (.ref f), some (.int (no : Int)), x5, some (.int (nh : Int)), some (.int (nl : Int)), x8] ∧ ExtN H2 Hx ∧ Tabs (tabsL K) Hx) ⟨none, x8, rfl, xD, tD⟩ (fun _ _ _ _ _ => trivial) ?_ ?_
      · rintro i v σ Ha Hb hi ⟨x5, x8, rfl, x1, t1⟩ ⟨rfl, rfl⟩
        have i4 : i < 4 := hi
        walk_at "rd"
        refine ⟨f, _, rfl, .inl (SqL.of (x1 _ _ hf2.1 (fun _ z => by cases z))), fun p hp => ?_⟩
        have L0 : (upd Hb p (.lst [.int (n0 : Int), .int (n1 : Int), .int (n2 : Int), .int (n3 : Int)])) p = some (.lst [.int (n0 : Int), .int (n1 : Int), .int (n2 : Int), .int (n3 : Int)]) := upd_same
        walk_at "rd"
        refine ⟨p, _, (i : Int), i, rfl, rfl, L0, ixN_nat i4, ?_⟩
        obtain ⟨y0, y1, y2, y3, A', B', C', D', ey, f0, f1, f2, f3, fl⟩ : ∃ (y0 y1 y2 y3 : Nat) (A' B' C' D' : Sq), [V.int (n0 : Int), .int (n1 : Int), .int (n2 : Int), .int (n3 : Int)].set i (.int (no : Int)) = [V.int (y0 : Int), .int (y1 : Int), .int (y2 : Int), .int (y3 : Int)] ∧ q2[y0]? = some A' ∧ q2[y1]? = some B' ∧ q2[y2]? = some C' ∧ q2[y3]? = some D' ∧ ¬ (B'.level = A'.level ∧ C'.level = A'.level ∧ D'.level = A'.level) := by
          match i, i4 with
          | 0, _ => exact ⟨no, n1, n2, n3, O, B, C, D, rfl, go, g1', g2, g3, by omega⟩
          | 1, _ => exact ⟨n0, no, n2, n3, A, O, C, D, rfl, g0, go, g2, g3, by omega⟩
          | 2, _ => exact ⟨n0, n1, no, n3, A, B, O, D, rfl, g0, g1', go, g3, by omega⟩
          | 3, _ => exact ⟨n0, n1, n2, no, A, B, C, O, rfl, g0, g1', g2, go, by omega⟩
        rw [ey]
        have L1 : (upd (upd Hb p (.lst [.int (n0 : Int), .int (n1 : Int), .int (n2 : Int), .int (n3 : Int)])) p (.lst [V.int (y0 : Int), .int (y1 : Int), .int (y2 : Int), .int (y3 : Int)])) p = some (.lst [V.int (y0 : Int), .int (y1 : Int), .int (y2 : Int), .int (y3 : Int)]) := upd_same
        have sp := Same.putE (o := .lst [V.int (y0 : Int), .int (y1 : Int), .int (y2 : Int), .int (y3 : Int)]) (Same.putE (Same.refl Hb) hp (o := .lst [.int (n0 : Int), .int (n1 : Int), .int (n2 : Int), .int (n3 : Int)])) hp
        have x2 := x1.trans (ExtN.of sp)
        have t2 := tabsL_same t1 sp
        generalize upd (upd Hb p (.lst [.int (n0 : Int), .int (n1 : Int), .int (n2 : Int), .int (n3 : Int)])) p (.lst [V.int (y0 : Int), .int (y1 : Int), .int (y2 : Int), .int (y3 : Int)]) = H4 at *
        walk_at "rd"
        refine ⟨t2, _, rfl, fun H5 x5' t5 => ?_⟩
        have x6 := x2.trans x5'
        have L5 := x5' _ _ L1 (fun _ z => by cases z)
        refine ⟨"NoLevel", 1, by simp [refG], rfl, Same H5, fun E' Q' hE => ?_, fun H6 H7 s6 s7 => ?_⟩
        · walk_at "rd"
          refine rd_methX ?_
          walk_at "rd"
          refine rd_methR ((G2.extN x6).ob) (by rfl) ?_
          walk_at "rd"
          refine rd_ixL (SqL.of L5) (atI_nat (j := 0) rfl) ?_
          walk_at "rd"
          refine rd_ixL (SqL.of L5) (atI_nat (j := 1) rfl) ?_
          walk_at "rd"
          refine rd_ixL (SqL.of L5) (atI_nat (j := 2) rfl) ?_
          walk_at "rd"
          refine rd_ixL (SqL.of L5) (atI_nat (j := 3) rfl) ?_
          walk_at "rd"
          exact ⟨a, r2, q2, _, _, _, _, "NoLevel", rfl, G2.extN x6, by omega, .lv f0 f1 f2 f3 (.inl fl), fun H' s => hE H' s⟩
        walk_at "rd"
        exact ⟨_, _, rfl, x6.trans (ExtN.of (s6.trans s7)), tabsL_same t5 (s6.trans s7)⟩
      · rintro σ Hx ⟨x5, x8, rfl, x1, t1⟩
        walk_at "rd"
        refine ite_d (fun _ => ?_) (fun lz => ?_)
        · walk_at "rd"
          exact fin _ x1 t1
        walk_at "rd"
        refine ⟨t1, _, rfl, fun H5 x5' t5 => ?_⟩
        have x6 := x1.trans x5'
        refine ⟨"NoLevel", 1, by simp [refG], rfl, Same H5, fun E' Q' hE => ?_, fun H6 H7 s6 s7 => ?_⟩
        · walk_at "rd"
          refine rd_methX ?_
          walk_at "rd"
          refine rd_methR ((G2.extN x6).ob) (by rfl) ?_
          walk_at "rd"
          refine rd_ixL (SqL.of (x6 _ _ hf2.1 (fun _ z => by cases z))) (atI_nat (j := 0) rfl) ?_
          walk_at "rd"
          exact .inr ⟨a, r2, q2, n0, A, rfl, G2.extN x6, g0, by omega, (show 0 < A.level by omega), hE H5 (Same.refl _)⟩
        exact fin _ (x6.trans (ExtN.of (s6.trans s7))) (tabsL_same t5 (s6.trans s7))
end
end JF

/-! ### law k14: four joined; the law -/
namespace JF
open PySem PySem.Spec PyProof.Rows L2 LamX
/-- the script, beside what the grove owns -/
def ScJ (K : PySem.W.Frag) (a0 : Addr) (xs : List V) (L : List Addr) (H : Hp) : Prop := (∀ H', SqL K H' a0 xs) ∨ ∃ o, H a0 = some o ∧ (∀ ps, o ≠ .tbl ps) ∧ (∀ H', H' a0 = some o → SqL K H' a0 xs) ∧ a0 ∉ L
section
variable {K : PySem.W.Frag} {H H1 : Hp} {a0 : Addr} {xs : List V} {L L' : List Addr}
theorem ScJ.of (hS : SqL K H a0 xs) (n : ∀ o, H a0 = some o → a0 ∉ L) : ScJ K a0 xs L H := by
  rcases hS with (e | ⟨u, e⟩) | e
  · exact .inr ⟨_, e, (fun ps z => by cases z), fun H' z => .inl (.inl z), n _ e⟩
  · exact .inr ⟨_, e, (fun ps z => by cases z), fun H' z => .inl (.inr ⟨u, z⟩), n _ e⟩
  · exact .inl fun _ => .inr e
theorem ScJ.sq (h : ScJ K a0 xs L H) : SqL K H a0 xs := h.elim (fun z => z H) fun ⟨_, e, _, z, _⟩ => z H e
theorem ScJ.ext (h : ScJ K a0 xs L H) (s : ExtN H H1) : ScJ K a0 xs L H1 := h.imp id fun ⟨o, e, t, r⟩ => ⟨o, s _ _ e t, t, r⟩
theorem ScJ.ls {C : Addr} {a : GA} {rows r1 : List (Int × Addr)} {q q1 : List Sq} (h : ScJ K a0 xs (a.muts rows) H) (s : LStep C H a rows q H1 r1 q1) : ScJ K a0 xs (a.muts r1) H1 := h.imp id fun ⟨o, e, t, z, n⟩ => ⟨o, (s.own _ _ e n t).1, t, z, (s.own _ _ e n t).2⟩
end
section
variable {P : Program} {w : World} {K : PySem.W.Frag} {mg : Str → Option Value} {base : Heap}
def sp_joinedG (K : PySem.W.Frag) : Sp := fun vs H Q _ => ∃ (a : GA) (rows : List (Int × Addr)) (q : List Sq) (f : Addr) (n0 n1 n2 n3 : Nat) (A B C D : Sq), vs = [.ref a.g, .ref f] ∧ GAt (CG K) H a rows q ∧ q.length + 100 < 16000000 ∧ H f = some (.lst [.int (n0 : Int), .int (n1 : Int), .int (n2 : Int), .int (n3 : Int)]) ∧ f ∉ a.muts rows ∧
  q[n0]? = some A ∧ q[n1]? = some B ∧ q[n2]? = some C ∧ q[n3]? = some D ∧ B.level = A.level ∧ C.level = A.level ∧ D.level = A.level ∧ A.level ≤ 47 ∧
  ∀ H' rows' q', GStep (CG K) H a rows q H' rows' q' → q'.length ≤ q.length + 1 → Q (.bl true) H'
set_option maxHeartbeats 8000000 in
theorem ok_joinedG (T : Env fa fn K mg) : Good P w K mg base CX0 6 ("_law_joined", none) ["_law_grove", "_law_four"] (sp_joinedG K) := by
  have G_Grove_joined := ok_joined (P := P) (w := w) (base := base) T
  have G_Grove_quarters := ok_quarters (P := P) (w := w) (base := base) T
  refine good_mk T 25 (d := d_w_joined) (N := ["_law_grove", "_law_four", "_law_square"]) (ps := ["_law_grove", "_law_four"]) rfl rfl sc_w_joined (fun _ _ _ _ _ _ us hl => match us, hl with | [_, _], _ => rfl) (fun vs H Q E h => ?_) (fun fn_ cdv A outer σ0 H vs Q E hr h => ?_)
  · obtain ⟨a, rows, q, f, n0, n1, n2, n3, A, B, C, D, rfl, _⟩ := h; rfl
  · obtain ⟨a, rows, q, f, n0, n1, n2, n3, A, B, C, D, rfl, G, hq, hf, hfo, h0, h1, h2, h3, e1, e2, e3, l47, k⟩ := h
    refine ⟨_, (pss_cons (ps_set (i := 2) sc_w_joined.nd rfl (Or.inl rfl) (pe_mgK K rfl (pv 0) (T.cls 9) (T.meth 45) G_Grove_joined (hr.mono (by decide)) (pa_cons (pe_ix (ix_listK K rfl) (pv 1) pe_int (fun _ _ => rfl)) (pa_cons (pe_ix (ix_listK K rfl) (pv 1) pe_int (fun _ _ => rfl)) (pa_cons (pe_ix (ix_listK K rfl) (pv 1) pe_int (fun _ _ => rfl)) (pa_cons (pe_ix (ix_listK K rfl) (pv 1) pe_int (fun _ _ => rfl)) pa_nil))))))
      (pss_one (ps_ret (pe_cmpR (op_eqDK K rfl hr.units) (pe_mgK K rfl (pv 0) (T.cls 9) (T.meth 37) G_Grove_quarters (hr.mono (by decide)) (pa_cons (pv 2) pa_nil)) (pe_tup (pa_cons (pe_ix (ix_listK K rfl) (pv 1) pe_int (fun _ _ => rfl)) (pa_cons (pe_ix (ix_listK K rfl) (pv 1) pe_int (fun _ _ => rfl)) (pa_cons (pe_ix (ix_listK K rfl) (pv 1) pe_int (fun _ _ => rfl)) (pa_cons (pe_ix (ix_listK K rfl) (pv 1) pe_int (fun _ _ => rfl)) pa_nil))))) (nomark _))))), ?_⟩
    walk_at "rd"
    refine rd_methR G.ob (by rfl) ?_
    walk_at "rd"
    refine rd_ixL (SqL.of hf) (atI_nat (j := 0) rfl) ?_
    walk_at "rd"
    refine rd_ixL (SqL.of hf) (atI_nat (j := 1) rfl) ?_
    walk_at "rd"
    refine rd_ixL (SqL.of hf) (atI_nat (j := 2) rfl) ?_
    walk_at "rd"
    refine rd_ixL (SqL.of hf) (atI_nat (j := 3) rfl) ?_
    walk_at "rd"
    refine ⟨a, rows, q, A, B, C, D, n0, n1, n2, n3, rfl, G, h0, h1, h2, h3, e1, e2, e3, l47, by omega, fun H1 q1 m S1 l1 em f1 => ?_⟩
    have hf1 := (S1.own hf hfo).1
    walk_at "rd"
    refine rd_methR S1.gat.ob (by rfl) ?_
    walk_at "rd"
    refine ⟨a, rows, q1, m, A, B, C, D, rfl, S1.gat, em, by omega, fun t x y z u ht hx hy hz hu => ?_⟩
    have i0 : x = n0 := nodup_at S1.gat.qn hx (pre_get S1.pre h0)
    have i1 : y = n1 := nodup_at S1.gat.qn hy (pre_get S1.pre h1)
    have i2 : z = n2 := nodup_at S1.gat.qn hz (pre_get S1.pre h2)
    have i3 : u = n3 := nodup_at S1.gat.qn hu (pre_get S1.pre h3)
    subst i0 i1 i2 i3
    walk_at "rd"
    refine rd_ixL (SqL.of hf1) (atI_nat (j := 0) rfl) ?_
    walk_at "rd"
    refine rd_ixL (SqL.of hf1) (atI_nat (j := 1) rfl) ?_
    walk_at "rd"
    refine rd_ixL (SqL.of hf1) (atI_nat (j := 2) rfl) ?_
    walk_at "rd"
    refine rd_ixL (SqL.of hf1) (atI_nat (j := 3) rfl) ?_
    walk_at "rd"
    refine rd_new (hn := by show 4 ≤ sizeLine; decide) fun t2 ht2 => ?_
    have s2 := same_upd (o := HO.tup [V.int (x : Int), .int (y : Int), .int (z : Int), .int (u : Int)]) ht2
    have ht' : (upd H1 t2 (HO.tup [V.int (x : Int), V.int (y : Int), V.int (z : Int), V.int (u : Int)])) t = some (.tup ([(x : Int), (y : Int), (z : Int), (u : Int)].map V.int)) := s2 _ _ ht
    have hu' : (upd H1 t2 (HO.tup [V.int (x : Int), V.int (y : Int), V.int (z : Int), V.int (u : Int)])) t2 = some (.tup ([(x : Int), (y : Int), (z : Int), (u : Int)].map V.int)) := upd_same
    refine ⟨_, _, .tup (SqT.of ht') dp_ints, .tup (SqT.of hu') dp_ints, shaped_tup, shaped_tup, ?_⟩
    rw [eqvT_refl]
    exact k _ rows q1 (S1.same s2) l1
theorem LStep.put {C : Addr} {H H1 : Hp} {a : GA} {rows r1 : List (Int × Addr)} {q q1 : List Sq} {D : Addr} {xs : List V} {o : HO} (s : LStep C H a rows q H1 r1 q1) (hD : H D = none) (h1 : H1 D = some (.lst xs)) (nD : D ∉ a.muts r1) : LStep C H a rows q (upd H1 D o) r1 q1 :=
  ⟨s.gat.upd (fun u z => by rw [h1] at z; cases z; exact id) nD, s.pre, fun b v e n t => ⟨by rw [upd_ne (ne_of_none e hD)]; exact (s.own b v e n t).1, (s.own b v e n t).2⟩⟩
theorem tabsL_put {T : List (Addr × Str)} {H : Hp} {D : Addr} {xs : List V} {o : HO} (t : Tabs T H) (h : H D = some (.lst xs)) : Tabs T (upd H D o) := tabsL_fr t fun c v e y => by
  rw [upd_ne (fun z => ?_)]
  · exact e
  · rw [z, h] at e
    cases e
    rcases y with ⟨_, y⟩ | ⟨_, y⟩ <;> cases y
def sp_lawT (K : PySem.W.Frag) : Sp := fun vs H Q _ => ∃ (a : Addr) (ns : List Int), vs = [.ref a] ∧ SqL K H a (ns.map V.int) ∧ ns.length ≤ 63 ∧ Tabs (tabsL K) H ∧ ∀ H', Q (.bl true) H'
theorem sp_lawT_in {K : PySem.W.Frag} (H : Hp) (a : Addr) (ns : List Int) (hl : ns.length ≤ 63) (hT : ∀ p ∈ tfs, H (He.cT K p).2 = some (.tbl #[])) (hS : SqL K H a (ns.map V.int)) : sp_lawT K [.ref a] H (fun v _ => v = .bl true) (fun _ _ _ => False) :=
  ⟨a, ns, rfl, hS, hl, fun p hp => by
    obtain ⟨q, hq, rfl⟩ := List.mem_map.mp hp
    exact TabS.nil (hT q hq), fun _ => rfl⟩
def lawLevel : Nat := 60
set_option maxHeartbeats 64000000 in
theorem ok_law (T : Env fa fn K mg) (TB : ∀ p ∈ tfs, TabB base mg (He.codeOf K p) (He.tabOf K (He.codeOf K p))) : Good P w K mg base CX0 lawLevel ("law", none) ["_law_script"] (sp_lawT K) := by
  have G_Grove_init := ok_ginit (P := P) (w := w) (base := base) T
  have GL_w_refused := (okL_refused (P := P) (w := w) (base := base) T 10 (by decide))
  have GX_Grove_leaf := okX_leafT (P := P) (w := w) (base := base) T
  have GX_Grove_solid := okX_solid (P := P) (w := w) (base := base) T
  have G_w_at := ok_at (P := P) (w := w) (base := base) T
  have G_w_bad := ok_bad (P := P) (w := w) (base := base) T
  have G_w_numbers_refused := ok_numbers (P := P) (w := w) (base := base) T TB
  have G_w_levels_refused := ok_levels (P := P) (w := w) (base := base) T TB
  have G_w_joined := ok_joinedG (P := P) (w := w) (base := base) T
  have G_Grove_leaf := ok_leaf (P := P) (w := w) (base := base) T
  have G_Grove_solid := ok_solid (P := P) (w := w) (base := base) T
  have G_Grove_level_of := ok_level_of (P := P) (w := w) (base := base) T
  refine good_mkC T 26 (d := d_law) (N := ["_law_script", "_law_first", "_law_at_here", "_law_cell", "_law_state", "_law_four", "_law_other", "_law_grove", "_law_level", "_law_none", "_law_k"]) (ps := ["_law_script"]) rfl rfl sc_law (fun _ _ _ _ _ _ us hl => match us, hl with | [_], _ => rfl) (fun vs H Q E h => ?_) (fun fn_ A outer σ0 H vs Q E hr h => ?_)
  · obtain ⟨a, ns, rfl, _⟩ := h; rfl
  · obtain ⟨a0, ns, rfl, hS, hlen, tabs, k⟩ := h
    have hu := hu_of hr
    have hsz := sizeBig
    refine ⟨_, (pss_cons (ps_set (i := 7) sc_law.nd rfl (Or.inr rfl) (pe_mk0K K rfl (T.mkr 48) G_Grove_init (hr.mono (by decide)) (T.glo 49)))
      (pss_cons (ps_set (i := 1) sc_law.nd rfl (Or.inl rfl) (pe_mgK K rfl (pv 7) (T.cls 9) (T.meth 46) G_Grove_leaf (hr.mono (by decide)) (pa_cons (pe_op op_mod (pe_cgK K rfl G_w_at (hr.mono (by decide)) (T.glo 50) (pa_cons (pv 0) (pa_cons pe_int pa_nil))) pe_int) pa_nil)))
      (pss_cons (ps_for PassesOwn.never rfl (pi_range2 (by rfl) (T.free 41) (pa_cons pe_int (pa_cons (pe_callB (call_max2 rfl) (by rfl) (T.free 4) (by decide +kernel) (pa_cons pe_int (pa_cons (pe_callB (call_min2 rfl) (by rfl) (T.free 3) (by decide +kernel) (pa_cons (pe_callB (call_lenK K rfl) (by rfl) (T.free 8) (by decide +kernel) (pa_cons (pv 0) pa_nil)) (pa_cons pe_int pa_nil))) pa_nil))) pa_nil))) (pg_name (i := 2) sc_law.nd rfl (Or.inl rfl)) (pss_cons (ps_set (i := 3) sc_law.nd rfl (Or.inr rfl) (pe_cgK K rfl G_w_at (hr.mono (by decide)) (T.glo 50) (pa_cons (pv 0) (pa_cons (pv 2) pa_nil))))
      (pss_cons (ps_set (i := 8) sc_law.nd rfl (Or.inr rfl) (pe_op op_mod (pe_op op_fdivW (pv 3) pe_int) pe_int))
      (pss_cons (ps_set (i := 4) sc_law.nd rfl (Or.inr rfl) (pe_op op_mod (pe_op op_fdivW (pv 3) pe_int) pe_int))
      (pss_cons (ps_setLc (i := 5) (own := [("_law_k", 10)]) (tt := tYes) rfl sc_law.nd rfl rfl (sw_true rfl rfl rfl (by decide +kernel)) (pi_range1 (by rfl) (T.free 41) (pa_cons pe_int pa_nil)) (blkOk_by (own := [("_law_k", 10)]) (N := ["_law_script", "_law_first", "_law_at_here", "_law_cell", "_law_state", "_law_four", "_law_other", "_law_grove", "_law_level", "_law_none", "_law_k"]) (sc := defScope st_law) (by decide +kernel)) (fun _ _ _ _ _ => by exact (pg_name (i := 10) sc_law.nd rfl (Or.inl rfl))) (fun _ _ _ _ _ => by exact pts_nil) (fun _ _ _ _ _ => by exact (pe_mgK K rfl (pv 7) (T.cls 9) (T.meth 47) G_Grove_solid (hr.mono (by decide)) (pa_cons (pv 8) (pa_cons (pe_op op_mod (pe_op op_add (pv 4) (pe_op op_mulW (pv 10) (pe_op op_mod (pv 3) pe_int))) pe_int) pa_nil)))))
      (pss_cons (ps_set (i := 6) sc_law.nd rfl (Or.inl rfl) (pe_mgK K rfl (pv 7) (T.cls 9) (T.meth 47) G_Grove_solid (hr.mono (by decide)) (pa_cons (pe_op op_mod (pe_op op_add (pe_op op_add (pv 8) pe_int) (pe_op op_mod (pe_op op_fdivW (pv 3) pe_int) pe_int)) pe_int) (pa_cons (pv 4) pa_nil))))
      (pss_cons (ps_if (pt_not (pt_val (pe_cgK K rfl G_w_numbers_refused (hr.mono (by decide)) (T.glo 51) (pa_cons (pv 7) (pa_cons (pe_cgK K rfl G_w_bad (hr.mono (by decide)) (T.glo 52) (pa_cons (pv 3) (pa_cons (pe_op op_sub (pe_op op_pow pe_int pe_int) pe_int) pa_nil))) (pa_cons (pv 5) (pa_cons (pv 6) pa_nil))))))) (pss_one (ps_ret pe_bl)) pss_nil)
      (pss_cons (ps_if (pt_not (pt_val (pe_cgK K rfl G_w_levels_refused (hr.mono (by decide)) (T.glo 53) (pa_cons (pv 7) (pa_cons (pe_cgK K rfl G_w_bad (hr.mono (by decide)) (T.glo 52) (pa_cons (pe_op op_fdivW (pv 3) pe_int) (pa_cons pe_int pa_nil))) (pa_cons (pv 8) (pa_cons (pv 5) (pa_cons (pv 6) pa_nil)))))))) (pss_one (ps_ret pe_bl)) pss_nil)
      (pss_cons (ps_set (i := 9) sc_law.nd rfl (Or.inr rfl) (pe_cgK K rfl G_w_bad (hr.mono (by decide)) (T.glo 52) (pa_cons (pe_op op_fdivW (pv 3) pe_int) (pa_cons pe_int pa_nil))))
      (pss_cons (ps_if (pt_not (pt_val (pe_lam2 K rfl (T := tabsL K) GL_w_refused (by rfl) (T.glo 43) steady_int (TB _ (List.mem_of_getElem? (i := 2) rfl)) rfl (tl_mem 2 rfl) (tl_u T 2 rfl) (hr.mono (by decide)) (by decide) (show LamS (defScope st_law) _ from lamS_by (by decide +kernel)) (by rfl) (fun _ _ _ _ _ => by rfl) (fun A' outer' s' H' E' f' c' hr => by exact (pe_mgX K rfl lamN_takes (pv 7) (T.cls 9) (T.meth 46) GX_Grove_leaf (hr.mono (by decide)) (pa_cons (pv 9) pa_nil)))))) (pss_one (ps_ret pe_bl)) pss_nil)
      (pss_cons (ps_if (pt_not (pt_val (pe_lam2 K rfl (T := tabsL K) GL_w_refused (by rfl) (T.glo 43) steady_int (TB _ (List.mem_of_getElem? (i := 2) rfl)) rfl (tl_mem 2 rfl) (tl_u T 2 rfl) (hr.mono (by decide)) (by decide) (show LamS (defScope st_law) _ from lamS_by (by decide +kernel)) (by rfl) (fun _ _ _ _ _ => by rfl) (fun A' outer' s' H' E' f' c' hr => by exact (pe_mgX K rfl lamN_takes (pv 7) (T.cls 9) (T.meth 47) GX_Grove_solid (hr.mono (by decide)) (pa_cons (pv 8) (pa_cons (pv 9) pa_nil))))))) (pss_one (ps_ret pe_bl)) pss_nil)
      (pss_one (ps_if (PW.pt (pw_and (pt_cmpR op_lt (pv 8) pe_int (nomark _)) (pw_and1 (pt_not (pt_val (pe_cgK K rfl G_w_joined (hr.mono (by decide)) (T.glo 54) (pa_cons (pv 7) (pa_cons (pv 5) pa_nil)))))))) (pss_one (ps_ret pe_bl)) pss_nil)))))))))))))
      (pss_one (ps_ret (pe_and (pe_cmpR op_eq (pe_mgK K rfl (pv 7) (T.cls 9) (T.meth 46) G_Grove_leaf (hr.mono (by decide)) (pa_cons (pe_op op_mod (pe_cgK K rfl G_w_at (hr.mono (by decide)) (T.glo 50) (pa_cons (pv 0) (pa_cons pe_int pa_nil))) pe_int) pa_nil)) (pv 1) (nomark _)) (pe_one (pe_cmpR op_eq (pe_mgK K rfl (pv 7) (T.cls 9) (T.meth 36) G_Grove_level_of (hr.mono (by decide)) (pa_cons (pv 1) pa_nil)) pe_int (nomark _))))))))), ?_⟩
    walk_at "rd"
    refine rd_grove fun a H1 G1 hnew1 sm1 => ?_
    have S1 : ScJ K a0 (ns.map V.int) (a.muts []) H1 := (ScJ.of (L := a.muts []) hS fun o e z => by rw [hnew1 _ z] at e; cases e).ext (ExtN.of sm1)
    have t1 := tabsL_same tabs sm1
    clear tabs hS hnew1 sm1
    walk_at "rd"
    refine rd_methR G1.ob (by rfl) ?_
    walk_at "rd"
    refine rd_at S1.sq (by decide) ?_
    walk_at "rd"
    generalize hs0 : atN ns (Int.toNat 0) % 8 = s0
    have s00 : 0 ≤ s0 ∧ s0 ≤ 7 := by omega
    refine ⟨a, [], [], s0, rfl, G1, s00.1, s00.2, by decide, fun H2 q2 nf g2 p2 l2 ef f2 => ?_⟩
    have g2' := (GStep.refl G1).m5 g2 p2 f2
    have t2 := tabsL_step t1 G1 g2'
    have S2 := S1.ls (LStep.of g2')
    have G2 := g2'.gat
    clear g2 p2 f2 g2' t1 S1 G1
    have l2 : q2.length ≤ 1 := l2
    walk_at "rd"
    refine rd_len S2.sq ?_
    rw [List.length_map]
    walk_at "rd"
    generalize hm : (if (if (17 : Int) < (ns.length : Int) then (17 : Int) else (ns.length : Int)) > 2 then (if (17 : Int) < (ns.length : Int) then (17 : Int) else (ns.length : Int)) else 2) = m
    have m0 : 2 ≤ m ∧ m ≤ 17 := by
      rw [← hm]
      split <;> split <;> omega
    clear hm
    refine ⟨⟨by omega, by omega, by omega, by omega⟩, ?_⟩
    refine for_it (walk_range (lo := 1) (n := (m - 1).toNat)) (fun i σ Hx => ∃ (r : List (Int × Addr)) (qq : List Sq) (x2 x3 x4 x5 x6 x8 x9 x10 : Option V), σ = [some (.ref a0), some (.int (nf : Int)), x2, x3, x4, x5, x6, some (.ref a.g), x8, x9, x10] ∧ LStep (CG K) H2 a [] q2 Hx r qq ∧ qq.length ≤ 1 + 400 * i ∧ ScJ K a0 (ns.map V.int) (a.muts r) Hx ∧ Tabs (tabsL K) Hx) ⟨[], q2, none, none, none, none, none, none, none, none, rfl, LStep.refl G2, by omega, S2, t2⟩ (fun _ _ _ _ _ => trivial) ?_ ?_
    · rintro i v σ Ha Hb hi ⟨r, qq, x2, x3, x4, x5, x6, x8, x9, x10, rfl, Z, hq, S, t⟩ ⟨rfl, rfl⟩
      have i17 : i < 16 := by have : i < (m - 1).toNat := hi; omega
      walk_at "rd"
      refine rd_at S.sq (by omega) ?_
      walk_at "rd"
      generalize atN ns (1 + (i : Int)).toNat = c
      obtain ⟨lv, hlv⟩ := nat_of (Int.emod_nonneg (c / 5) (show (49 : Int) ≠ 0 by decide))
      have lv48 : lv ≤ 48 := by omega
      rw [hlv]
      generalize hst : c / 3 % 8 = st
      have st0 : 0 ≤ st ∧ st ≤ 7 := by omega
      refine ⟨4, rfl, by decide, by decide, fun D hD => ?_⟩
      refine lc_it (walk_r0 (n := 4)) (fun j H' => ∃ (r' : List (Int × Addr)) (q' : List Sq) (ms : List Nat), LStep (CG K) Hb a r qq H' r' q' ∧ q'.length ≤ qq.length + 50 * j ∧ H' D = some (.lst (ms.map fun m : Nat => V.int (m : Int))) ∧ D ∉ a.muts r' ∧ ms.length = j ∧ (∀ mm ∈ ms, ∃ S, q'[mm]? = some S ∧ S.level = lv) ∧ Tabs (tabsL K) H') ⟨r, qq, [], LStep.ext Z.gat (ExtN.of (same_upd hD)), by omega, upd_same, Z.gat.new_out hD, rfl, (fun mm h => by cases h), tabsL_same t (same_upd hD)⟩ (fun _ _ _ _ => trivial) ?_ ?_
      · rintro j v Hc Hd hj ⟨r1, q1, ms, Z1, lq1, L1, nD, ml, hms, t1⟩ ⟨rfl, rfl⟩
        have j4 : j < 4 := hj
        have c30 := Int.emod_nonneg c (show (3 : Int) ≠ 0 by decide)
        have c31 := Int.emod_lt_of_pos c (show (0 : Int) < 3 by decide)
        walk_at "rd"
        refine ⟨rfl, ?_⟩
        walk_at "rd"
        refine rd_methR Z1.gat.ob (by rfl) ?_
        walk_at "rd"
        refine rd_I (mulW_of (by omega) (by omega) (by omega) (by omega)) ?_
        walk_at "rd"
        refine ⟨a, r1, q1, lv, _, rfl, Z1.gat, lv48, Int.emod_nonneg _ (by decide), by omega, by omega, fun H5 r5 q5 n5 g5 l5 e5 => ?_⟩
        obtain ⟨L5, nD5⟩ := g5.own L1 nD
        have t5 := tabsL_step t1 Z1.gat g5
        refine ⟨_, L5, by rw [List.length_map]; exact small1000 (by omega), r5, q5, ms ++ [n5], (Z1.trans (LStep.of g5)).put hD L5 nD5, by omega, by rw [upd_same, List.map_append]; rfl, nD5, by rw [List.length_append, ml]; rfl, fun mm h => ?_, tabsL_put t5 L5⟩
        rcases List.mem_append.mp h with h | h
        · obtain ⟨S', e1, e2⟩ := hms mm h
          exact ⟨S', pre_get g5.pre e1, e2⟩
        · rw [List.mem_singleton.mp h]
          exact ⟨_, e5, Sq.level_even _ _⟩
      rintro H5 ⟨r5, q5, ms, Z5, lq5, L5, nD5, ml, hms, t5⟩
      obtain ⟨m0', m1', m2', m3', rfl⟩ : ∃ m0 m1 m2 m3, ms = [m0, m1, m2, m3] := by
        match ms, ml with
        | [m0, m1, m2, m3], _ => exact ⟨m0, m1, m2, m3, rfl⟩
      have L5 : H5 D = some (.lst [V.int (m0' : Int), .int (m1' : Int), .int (m2' : Int), .int (m3' : Int)]) := L5
      have lq5 : q5.length ≤ qq.length + 200 := lq5
      obtain ⟨A, hA, lA⟩ := hms m0' (by simp)
      obtain ⟨B, hB, lB⟩ := hms m1' (by simp)
      obtain ⟨C, hC, lC⟩ := hms m2' (by simp)
      obtain ⟨D', hD', lD⟩ := hms m3' (by simp)
      have S5 := S.ls Z5
      have Z5 := Z.trans Z5
      clear S t hms hD ml
      walk_at "rd"
      refine rd_methR Z5.gat.ob (by rfl) ?_
      walk_at "rd"
      obtain ⟨lo, hlo⟩ := nat_of (Int.emod_nonneg ((lv : Int) + 1 + c / 7 % 48) (show (49 : Int) ≠ 0 by decide))
      have lo48 : lo ≤ 48 ∧ lo ≠ lv := by omega
      rw [hlo]
      refine ⟨a, r5, q5, lo, st, rfl, Z5.gat, lo48.1, st0.1, st0.2, by omega, fun H6 r6 q6 no g6 l6 e6 => ?_⟩
      obtain ⟨L6, nD6⟩ := g6.own L5 nD5
      have t6 := tabsL_step t5 Z5.gat g6
      have S6 := S5.ls (LStep.of g6)
      have Z6 := Z5.trans (LStep.of g6)
      have hA := pre_get g6.pre hA
      have hB := pre_get g6.pre hB
      have hC := pre_get g6.pre hC
      have hD' := pre_get g6.pre hD'
      clear S5 t5 L5 nD5 g6
      walk_at "rd"
      refine rd_I (by refine ⟨by decide, by decide, by decide⟩) ?_
      rw [show (10 : Int) ^ Int.toNat 9 = 1000000000 by decide]
      walk_at "rd"
      refine ⟨_, _, rfl, by decide, fun H7 bv s7 hk7 hb7 => ?_⟩
      have hb7 : BadN 999999999 bv := hb7
      have Z7 := Z6.trans (LStep.ext Z6.gat (ExtN.of s7))
      walk_at "rd"
      refine ⟨a, r6, q6, bv, D, _, _, rfl, Z7.gat, by omega, hk7, hb7, s7 _ _ L6, ⟨rfl, fun w hw => ?_⟩, ⟨no, _, rfl, e6⟩, tabsL_same t6 s7, fun H8 x8 t8 => ?_⟩
      · simp only [List.mem_cons, List.not_mem_nil, or_false] at hw
        rcases hw with rfl | rfl | rfl | rfl
        · exact ⟨m0', _, rfl, hA⟩
        · exact ⟨m1', _, rfl, hB⟩
        · exact ⟨m2', _, rfl, hC⟩
        · exact ⟨m3', _, rfl, hD'⟩
      have Z8 := Z7.trans (LStep.ext Z7.gat x8)
      have S8 := (S6.ext (ExtN.of s7)).ext x8
      have L8 := x8 _ _ (s7 _ _ L6) (fun _ z => by cases z)
      clear t6 S6 L6 s7
      walk_at "rd"
      refine ⟨_, _, rfl, by decide, fun H9 bw s9 hk9 hb9 => ?_⟩
      have Z9 := Z8.trans (LStep.ext Z8.gat (ExtN.of s9))
      walk_at "rd"
      refine ⟨a, r6, q6, bw, lv, D, m0', m1', m2', m3', no, A, B, C, D', _, rfl, Z9.gat, by omega, hk9, hb9, s9 _ _ L8, nD6, hA, hB, hC, hD', e6, lA, lB, lC, lD, by rw [Sq.level_even]; exact lo48.2, tabsL_same t8 s9, fun H10 r10 q10 Z10 l10 t10 => ?_⟩
      obtain ⟨L10, nD10⟩ := Z10.own D _ (s9 _ _ L8) nD6 (fun _ z => by cases z)
      have S10 := (S8.ext (ExtN.of s9)).ls Z10
      have ZA := Z9.trans Z10
      have hA := pre_get Z10.pre hA
      have hB := pre_get Z10.pre hB
      have hC := pre_get Z10.pre hC
      have hD' := pre_get Z10.pre hD'
      clear S8 t8 L8 s9 Z10
      walk_at "rd"
      refine ⟨_, _, rfl, by decide, fun H11 nv s11 hk11 hb11 => ?_⟩
      have S11 := S10.ext (ExtN.of s11)
      have t11 := tabsL_same t10 s11
      have Z11 := ZA.trans (LStep.ext ZA.gat (ExtN.of s11))
      have L11 := s11 _ _ L10
      clear S10 t10 L10 s11
      walk_at "rd"
      refine ⟨t11, _, rfl, fun H12 x12 t12 => ?_⟩
      refine ⟨"NoState", 2, by simp [refG], rfl, Same H12, fun E' Q' hE => ?_, fun H13 H14 s13 s14 => ?_⟩
      · walk_at "rd"
        refine rd_methX ?_
        walk_at "rd"
        refine rd_methR ((Z11.gat.extN x12).ob) (by rfl) ?_
        walk_at "rd"
        exact ⟨a, r10, q10, nv, rfl, Z11.gat.extN x12, hk11.extN x12, hb11, hE H12 (Same.refl _)⟩
      have x14 := x12.trans (ExtN.of (s13.trans s14))
      have t14 := tabsL_same t12 (s13.trans s14)
      walk_at "rd"
      refine ⟨t14, _, rfl, fun H15 x15 t15 => ?_⟩
      have x16 := x14.trans x15
      refine ⟨"NoState", 2, by simp [refG], rfl, Same H15, fun E' Q' hE => ?_, fun H17 H18 s17 s18 => ?_⟩
      · walk_at "rd"
        refine rd_methX ?_
        walk_at "rd"
        refine rd_methR ((Z11.gat.extN x16).ob) (by rfl) ?_
        walk_at "rd"
        exact ⟨a, r10, q10, _, nv, rfl, Z11.gat.extN x16, .inr ⟨⟨_, rfl, by omega, by omega⟩, hk11.extN x16, hb11, hE H15 (Same.refl _)⟩⟩
      have x18 := x16.trans (ExtN.of (s17.trans s18))
      have t18 := tabsL_same t15 (s17.trans s18)
      have Z18 := Z11.trans (LStep.ext Z11.gat x18)
      have S18 := S11.ext x18
      have L18 := x18 _ _ L11 (fun _ z => by cases z)
      clear x16 x14 x15 t12 t14 t15 s13 s14 s17 s18 x18 t11 S11 L11 hk11
      walk_at "rd"
      refine ite_d (fun l48 => ?_) (fun _ => ?_)
      · walk_at "rd"
        refine ⟨a, r10, q10, D, m0', m1', m2', m3', A, B, C, D', rfl, Z18.gat, by omega, L18, nD10, hA, hB, hC, hD', by omega, by omega, by omega, by omega, fun H19 r19 q19 g19 l19 => ?_⟩
        walk_at "rd"
        exact ⟨r19, q19, _, _, _, _, _, _, _, _, rfl, Z18.trans (LStep.of g19), by omega, S18.ls (LStep.of g19), tabsL_step t18 Z18.gat g19⟩
      · walk_at "rd"
        exact ⟨r10, q10, _, _, _, _, _, _, _, _, rfl, Z18, by omega, S18, t18⟩
    · rintro σ Hz ⟨r, qq, x2, x3, x4, x5, x6, x8, x9, x10, rfl, Z, hq, S, t⟩
      have hq : qq.length ≤ 1 + 400 * (m - 1).toNat := hq
      walk_at "rd"
      refine rd_methR Z.gat.ob (by rfl) ?_
      walk_at "rd"
      refine rd_at S.sq (by decide) ?_
      walk_at "rd"
      rw [hs0]
      refine ⟨a, r, qq, s0, rfl, Z.gat, s00.1, s00.2, by omega, fun H3 q3 n3 g3 p3 l3 e3 f3 => ?_⟩
      have S3 := (GStep.refl Z.gat).m5 g3 p3 f3
      have en : n3 = nf := nodup_at S3.gat.qn e3 (pre_get (Z.pre.trans S3.pre) ef)
      subst en
      walk_at "rd"
      refine ite_d (fun _ => ?_) (fun z => absurd rfl z)
      walk_at "rd"
      refine rd_methR S3.gat.ob (by rfl) ?_
      walk_at "rd"
      refine ⟨a, r, q3, n3, _, rfl, S3.gat, e3, by omega, ?_⟩
      walk_at "rd"
      exact k _
end
end JF

namespace JF
open PySem PySem.Spec PyProof.Rows L2
/-! ### the head: facts by names, the run; the end, with tables of code objects -/
theorem fn_ofT {P : Program} {w : World} {K : PySem.W.Frag} {mg : Str → Option Value} {k : Nat} {sp : Sp} {f : Addr} (hfa : mg ("law" : Str) = some (.ref f)) (T : Env fa fn K mg)
    (ok : ∀ base : Heap, K.In base → base.Ns mainGlobals mg → (∀ p ∈ tfs, LamX.TabB base mg (He.codeOf K p) (He.tabOf K (He.codeOf K p))) → Good P w K mg base CX0 k ("law", none) ["_law_script"] sp) :
    ∃ fd : FuncData, (∀ (s : Shared) (v : Value), BindsTo s fd ⟨[v], []⟩ [("_law_script", v)]) ∧ ∀ base : Heap, K.In base → base.Ns mainGlobals mg → (∀ p ∈ tfs.map (He.cT K), LamX.TabB base mg p.1 p.2) → FnOk P w K mg base CX0 k f fd ["_law_script"] sp := by
  obtain ⟨fd, F⟩ := T.c.def_ (d := d_law) 26 rfl
  have e := hfa.symm.trans (T.glo 61)
  cases e
  have b := FunD.bindsA (ps := ["_law_script"]) F fun _ _ _ _ _ _ us hl => match us, hl with | [_], _ => rfl
  refine ⟨fd, fun s v => b s [v] rfl, fun base h1 h2 h3 => ?_⟩
  obtain ⟨fd2, F2, _, _, l2⟩ := ok base h1 h2 fun p hp => h3 _ (List.mem_map.mpr ⟨p, hp, rfl⟩)
  cases (fdAt_of (p := ("law", none)) F).eq l2
  exact F2
end JF
open PySem PySem.W PySem.Calls PyProof.Rows
theorem PySem.Challenge.cw_jumpfield_k14_refused_squares_holds : PySem.Challenge.rw_jumpfield_k14_refused_squares.Holds := by
  w_on; o_law
  refine HandSHeadRun.head_any (r := OpenLaw.row PySem.Challenge.rw_jumpfield_k14_refused_squares) (q := view (OpenLaw.row PySem.Challenge.rw_jumpfield_k14_refused_squares).prog [33]) (H := JF.hk) (ob := JF.ob) (M := 100000) (loose := JF.looseN) (d := HandSHeadRun.topDef (OpenLaw.row PySem.Challenge.rw_jumpfield_k14_refused_squares).prog 33) (kwd := []) JF.ob_eq
    (by kernel_rfl) (fun s => by kernel_rfl) JF.run (by kernel_rfl) (by kernel_rfl) (by kernel_rfl) (by rfl) (by first | assumption | decide +kernel) (by decide +kernel) ⟨rfl, rfl, rfl, rfl, rfl, by decide +kernel⟩ ?hw ?hc
  case hw => w_witness2
  case hc =>
    refine JF.walk_ofTE (l := PySem.Challenge.rw_jumpfield_k14_refused_squares) (n := 63) (k := JF.lawLevel) (x := "_law_script") (CX := L2.CX0) rfl (by decide) (by kernel_rfl) ⟨rfl, by decide, by decide⟩ ?F (fun _ _ _ _ z => z)
    intro w mg fa h Y G hmg0
    obtain ⟨K, KX, c⟩ := Y
    have hmg : mg ("law" : PySem.Str) = some (.ref fa) := by
      have e : (HandSHeadRun.topDef (OpenLaw.row PySem.Challenge.rw_jumpfield_k14_refused_squares).prog 33).name = ("law" : PySem.Str) := by kernel_rfl
      rw [← e]
      exact hmg0
    have T : JF.Env JF.fa JF.fn K mg := ⟨c.t.d, ⟨h, KX, G⟩, c.more⟩
    obtain ⟨fd, hb, hF⟩ := JF.fn_ofT (P := (PySem.Challenge.rw_jumpfield_k14_refused_squares).prog) (w := w) hmg T (fun base h1 h2 h3 => JF.ok_law T h3)
    refine ⟨K, KX, fd, JF.tfs.map (He.cT K), JF.sp_lawT K, fun p hp => ?_, fun p hp => ?_, fun p hp => ?_, hb, fun H a ns hl _ hT hS => JF.sp_lawT_in H a ns hl (fun p hp => hT _ (List.mem_map.mpr ⟨p, hp, rfl⟩)) hS, hF⟩
    · obtain ⟨q, hq, rfl⟩ := List.mem_map.mp hp
      exact c.empty q hq
    · obtain ⟨q, hq, rfl⟩ := List.mem_map.mp hp
      exact c.out q hq
    · obtain ⟨q, hq, rfl⟩ := List.mem_map.mp hp
      exact PySem.W.codeHd_of_K KX (c.hd q hq)
#print axioms PySem.Challenge.cw_jumpfield_k14_refused_squares_holds

