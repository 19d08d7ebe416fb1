import PyProof.Rows.All
import Wide.All
import OpenK.AllK
import Wide.FinOn
import KE.KStateDown
import KE.GoesMore
import KE.GoesZip
import PyProof.EnumMake
import HandS.ForMost
import HandS.ForExc
import HandS.Flow
import HandS.Wide
import HandS.WideMore
import HandS.IsInst
import HandS.SetKeys
import HandS.Style
import HandS.TupLe
import HandS.Zip
import HandS.Defaults
import HandS.Head0
import HandS.Head1
import HandS.Head2
import HandS.HeadEnd
import HandS.HeadHook1
import HandS.HeadHook2
import HandS.Walk
import PyProof.DictMoreH
import HandS.SetFor
import HandS.ExcCtx
import HandS.ExcIs
import HandS.HotCalls
import HandS.Conv
import KE.KDictSum
import KE.KDictCopyH
import HandS.SortOrd
import HandS.DictTup
import HandS.HeadHook4
import KE.SortUse
import HandS.SortKw
import HandS.Nested
import HandS.EndTab
import HandS.Lambda
import PySem.Challenge.RW_jumpfield_k26_fields_refused
set_option Elab.async false
set_option linter.all false
set_option maxRecDepth 100000
set_option maxHeartbeats 4000000
/-! ### the frame: facts of the top, defs by their places, calls -/
namespace JF
open PySem PySem.Spec PyProof.Rows L2

/-! ### what the top has left, by facts with numbers -/
/-- the module's tuples of numbers -/
def tb : List (Str × List He.Dv) := []
/-- the module's tuples of tuples of numbers -/
def tb2 : List (Str × List (List Int)) := []
def tup2L (K : PySem.W.Frag) : List (List Int) → List Value → Bool
  | [], [] => true
  | x :: xs, .ref p :: us => (match K.lookup p with
    | some ⟨.type c, _, .seq its _, _⟩ => decide (c = "tuple") && (decide (its.size ≤ sizeLine) && He.relAll (x.map V.int) its.toList)
    | _ => false) && tup2L K xs us
  | _, _ => false
def tup2B (K : PySem.W.Frag) (x : Str) (xs : List (List Int)) : Bool := match K.lookup (He.ga K x) with
  | some ⟨.type c, _, .seq its _, _⟩ => decide (c = "tuple") && (decide (its.size ≤ sizeLine) && tup2L K xs its.toList)
  | _ => false
theorem tup2L_ok {K : PySem.W.Frag} : ∀ {xs : List (List Int)} {us : List Value}, tup2L K xs us = true → ∃ rs : List Addr, Vals (rs.map V.ref) us ∧ rs.length = xs.length ∧ ∀ (i : Nat) (r : Addr) (x : List Int), rs[i]? = some r → xs[i]? = some x → ∀ H : Hp, SqT K H r (x.map V.int)
  | [], [], _ => ⟨[], .nil, rfl, fun i r x h _ => by cases h⟩
  | [], _ :: _, h => by cases h
  | x :: xs, [], h => by cases h
  | x :: xs, u :: us, h => by
    cases u with
    | ref p =>
      obtain ⟨h1, h2⟩ := Bool.and_eq_true_iff.mp (show ((match K.lookup p with
        | some ⟨.type c, _, .seq its _, _⟩ => decide (c = "tuple") && (decide (its.size ≤ sizeLine) && He.relAll (x.map V.int) its.toList)
        | _ => false) && tup2L K xs us) = true from h)
      obtain ⟨rs, v, e, k⟩ := tup2L_ok h2
      refine ⟨p :: rs, .cons rfl v, by rw [List.length_cons, List.length_cons, e], fun i r y hi hy H => ?_⟩
      cases i with
      | succ i => exact k i r y hi hy H
      | zero =>
        cases hi; cases hy
        cases q : K.lookup p with
        | none => rw [q] at h1; cases h1
        | some o =>
          obtain ⟨oc, od, dt, osl⟩ := o
          rw [q] at h1
          cases oc with
          | type c =>
            cases dt with
            | seq its n =>
              obtain ⟨a1, a2⟩ := Bool.and_eq_true_iff.mp (show (decide (c = "tuple") && (decide (its.size ≤ sizeLine) && He.relAll (x.map V.int) its.toList)) = true from h1)
              obtain ⟨a3, a4⟩ := Bool.and_eq_true_iff.mp a2
              exact .inr ⟨_, its, n, q, congrArg Value.type (of_decide_eq_true a1), rfl, of_decide_eq_true a3, He.relAll_ok a4⟩
            | _ => cases h1
          | _ => cases dt <;> cases h1
    | _ => cases h
theorem tup2B_ok {K : PySem.W.Frag} {x : Str} {xs : List (List Int)} (h : tup2B K x xs = true) : ∃ rs : List Addr, (∀ H : Hp, SqT K H (He.ga K x) (rs.map V.ref)) ∧ rs.length = xs.length ∧ ∀ (i : Nat) (r : Addr) (y : List Int), rs[i]? = some r → xs[i]? = some y → ∀ H : Hp, SqT K H r (y.map V.int) := by
  unfold tup2B at h
  cases q : K.lookup (He.ga K x) with
  | none => rw [q] at h; cases h
  | some o =>
    obtain ⟨oc, od, dt, osl⟩ := o
    rw [q] at h
    cases oc with
    | type c =>
      cases dt with
      | seq its n =>
        obtain ⟨a1, a2⟩ := Bool.and_eq_true_iff.mp (show (decide (c = "tuple") && (decide (its.size ≤ sizeLine) && tup2L K xs its.toList)) = true from h)
        obtain ⟨a3, a4⟩ := Bool.and_eq_true_iff.mp a2
        obtain ⟨rs, v, e, k⟩ := tup2L_ok a4
        exact ⟨rs, fun H => .inr ⟨_, its, n, q, congrArg Value.type (of_decide_eq_true a1), rfl, of_decide_eq_true a3, v⟩, e, k⟩
      | _ => cases h
    | _ => cases dt <;> cases h
/-- the module's own exceptions that are raised; how each stands to the classes that are asked for -/
def exN : List Str := ["NoSquare", "NoState", "NoLevel", "TooFar", "TooMany"]
def exP : List (Str × Sum Str String × Bool) := ([("NoSquare", .inl "FieldError", true), ("NoSquare", .inl "TooFar", false), ("NoSquare", .inl "NoState", false), ("NoSquare", .inl "TooMany", false), ("NoSquare", .inl "NoSquare", true), ("NoSquare", .inl "NoLevel", false), ("NoSquare", .inr "ValueError", true), ("NoState", .inl "FieldError", true), ("NoState", .inl "TooFar", false), ("NoState", .inl "NoState", true), ("NoState", .inl "TooMany", false), ("NoState", .inl "NoSquare", false), ("NoState", .inl "NoLevel", false), ("NoState", .inr "ValueError", true), ("NoLevel", .inl "FieldError", true), ("NoLevel", .inl "TooFar", false), ("NoLevel", .inl "NoState", false), ("NoLevel", .inl "TooMany", false), ("NoLevel", .inl "NoSquare", false), ("NoLevel", .inl "NoLevel", true), ("NoLevel", .inr "ValueError", true), ("TooFar", .inl "FieldError", true), ("TooFar", .inl "TooFar", true), ("TooFar", .inl "NoState", false), ("TooFar", .inl "TooMany", false), ("TooFar", .inl "NoSquare", false), ("TooFar", .inl "NoLevel", false), ("TooFar", .inr "ValueError", true), ("TooMany", .inl "FieldError", true), ("TooMany", .inl "TooFar", false)] : List (Str × Sum Str String × Bool)) ++ ([("TooMany", .inl "NoState", false), ("TooMany", .inl "TooMany", true), ("TooMany", .inl "NoSquare", false), ("TooMany", .inl "NoLevel", false), ("TooMany", .inr "ValueError", true)] : List (Str × Sum Str String × Bool))
def veT : List Value := [.type "ValueError", .type "Exception", .type "BaseException", .type "object"]
def exV (K : PySem.W.Frag) : Sum Str String → Value
  | .inl y => .ref (He.ga K y)
  | .inr t => .type t
def exB1 (K : PySem.W.Frag) (x : Str) : Bool :=
  PySem.W.excIn K (He.ga K x) veT "ValueError.__new__" && PySem.W.keepIn K (.ref (He.ga K x)) && (PySem.W.subIn K (.ref (He.ga K x)) (.type "BaseException") == some true) && (PySem.W.typeIn K (.ref (He.ga K x)) == some (.type "type")) &&
  (PySem.W.findIn K (.ref (He.ga K x)) "__getattribute__" == some (some (.builtin "BaseException.__getattribute__"))) && (PySem.W.findIn K (.ref (He.ga K x)) "__getattr__" == some none) && PySem.W.hasDictIn K (He.ga K x) &&
  (PySem.W.findIn K (.ref (He.ga K x)) "__class__" == some (some (.builtin "object.__class__"))) && (PySem.W.specialIn K (.builtin "object.__class__") "__get__" == some (some (.builtin "getset_descriptor.__get__"))) &&
  (PySem.W.takesIn K (.builtin "object.__class__") == some true) && (PySem.W.mroIn K (He.ga K x) (.type "object") == some true)
def exB2 (K : PySem.W.Frag) (t : Str × Sum Str String × Bool) : Bool :=
  (PySem.W.exmOne K (.ref (He.ga K t.1)) (exV K t.2.1) == some t.2.2) && (PySem.W.kitOne K (.ref (He.ga K t.1)) (exV K t.2.1) == some t.2.2)
/-- the defs in which lambdas are made; their tables of code objects are unlike -/
def tfsP : List (Str × Option Str) := [("_law_many", none), ("_law_levels", none), ("law", none)]
def ndB : List Addr → Bool
  | [] => true
  | a :: l => !l.contains a && ndB l
theorem ndB_ok : ∀ {l : List Addr}, ndB l = true → l.Nodup
  | [], _ => List.nodup_nil
  | a :: l, h => by
    obtain ⟨h1, h2⟩ := Bool.and_eq_true_iff.mp (show (!l.contains a && ndB l) = true from h)
    exact List.nodup_cons.mpr ⟨(fun z => by rw [List.contains_iff_mem.mpr z] at h1; cases h1), ndB_ok h2⟩
def tbB (K : PySem.W.Frag) : Bool := (tb.all fun t => He.tupB K t.1 t.2) && (exN.all (exB1 K) && (exP.all (exB2 K) && ((tb2.all fun t => tup2B K t.1 t.2) && ndB (tfsP.map fun p => He.tabOf K (He.codeOf K p)))))
structure Env (fa : List He.Fa) (fn : List He.DefD) (K : PySem.W.Frag) (mg : Str → Option Value) : Prop where
  c : He.SaysD fa fn K
  ex : ∃ h : Heap, K.In h ∧ h.Ns mainGlobals mg
  tb : tbB K = true
section
variable {fa : List He.Fa} {fn : List He.DefD} {K : PySem.W.Frag} {mg : Str → Option Value}
theorem Env.glo (T : Env fa fn K mg) (i : Nat) {x : Str} (h : fa[i]? = some (.glo x) := by rfl) : mg x = some (.ref (He.ga K x)) := by
  obtain ⟨hp, X, G⟩ := T.ex
  exact He.glo_ok X G (T.c.fact i h)
theorem Env.tup (T : Env fa fn K mg) (i : Nat) {x : Str} {vs : List He.Dv} (H : Hp) (h : JF.tb[i]? = some (x, vs) := by rfl) : SqT K H (He.ga K x) (vs.map (He.Dv.v K)) :=
  He.tupB_ok (List.all_eq_true.mp (Bool.and_eq_true_iff.mp T.tb).1 _ (List.mem_of_getElem? h)) H
theorem Env.ex1 (T : Env fa fn K mg) {x : Str} (h : x ∈ JF.exN) : exB1 K x = true := List.all_eq_true.mp (Bool.and_eq_true_iff.mp (Bool.and_eq_true_iff.mp T.tb).2).1 _ h
theorem Env.ex2 (T : Env fa fn K mg) {t : Str × Sum Str String × Bool} (h : t ∈ JF.exP) : exB2 K t = true := List.all_eq_true.mp (Bool.and_eq_true_iff.mp (Bool.and_eq_true_iff.mp (Bool.and_eq_true_iff.mp T.tb).2).2).1 _ h
theorem Env.tup2 (T : Env fa fn K mg) (i : Nat) {x : Str} {xs : List (List Int)} (h : JF.tb2[i]? = some (x, xs) := by rfl) : ∃ rs : List Addr, (∀ H : Hp, SqT K H (He.ga K x) (rs.map V.ref)) ∧ rs.length = xs.length ∧ ∀ (i : Nat) (r : Addr) (y : List Int), rs[i]? = some r → xs[i]? = some y → ∀ H : Hp, SqT K H r (y.map V.int) :=
  tup2B_ok (List.all_eq_true.mp (Bool.and_eq_true_iff.mp (Bool.and_eq_true_iff.mp (Bool.and_eq_true_iff.mp (Bool.and_eq_true_iff.mp T.tb).2).2).2).1 _ (List.mem_of_getElem? h))
theorem Env.tnd (T : Env fa fn K mg) : (JF.tfsP.map fun p => He.tabOf K (He.codeOf K p)).Nodup := ndB_ok (Bool.and_eq_true_iff.mp (Bool.and_eq_true_iff.mp (Bool.and_eq_true_iff.mp (Bool.and_eq_true_iff.mp T.tb).2).2).2).2
theorem Env.free (T : Env fa fn K mg) (i : Nat) {x : Str} (h : fa[i]? = some (.free x) := by rfl) : mg x = none := by
  obtain ⟨hp, X, G⟩ := T.ex
  exact He.free_ok X G (T.c.fact i h)
theorem Env.int (T : Env fa fn K mg) (i : Nat) {x : Str} {n : Int} (h : fa[i]? = some (.int x n) := by rfl) : ∃ t, mg x = some (.int n t) := by
  obtain ⟨hp, X, G⟩ := T.ex
  exact He.int_ok X G (T.c.fact i h)
theorem Env.str (T : Env fa fn K mg) (i : Nat) {x z : Str} (h : fa[i]? = some (.str x z) := by rfl) : ∃ t, mg x = some (.str z t) := by
  obtain ⟨hp, X, G⟩ := T.ex
  exact He.str_ok X G (T.c.fact i h)
theorem Env.cls (T : Env fa fn K mg) (i : Nat) {x : Str} (h : fa[i]? = some (.cls x) := by rfl) : Cls K (He.ga K x) := He.cls_ok (T.c.fact i h)
theorem Env.noat (T : Env fa fn K mg) (i : Nat) {x f : Str} (h : fa[i]? = some (.noat x f) := by rfl) : NoAttr K (He.ga K x) f := He.noat_ok (T.c.fact i h)
theorem Env.meth (T : Env fa fn K mg) (i : Nat) {x m : Str} (h : fa[i]? = some (.meth x m) := by rfl) : Meth K (He.ga K x) m (He.ma K (He.ga K x) m) := He.meth_ok (T.c.fact i h)
theorem Env.mkr (T : Env fa fn K mg) (i : Nat) {x : Str} (h : fa[i]? = some (.mkr x) := by rfl) : Mk K (He.ga K x) (He.ma K (He.ga K x) "__init__") := He.mkr_ok (T.c.fact i h)
end

/-! ### a def that keeps its promise, by its place -/
/-- the def's datum stands there -/
def FdAt (K : PySem.W.Frag) (p : Str × Option Str) (fd : FuncData) : Prop := ∃ oc od osl, K.lookup (He.fAd K p) = some ⟨oc, od, .func fd, osl⟩
theorem FdAt.eq {K : PySem.W.Frag} {p : Str × Option Str} {fd fd' : FuncData} (h : FdAt K p fd) (h' : FdAt K p fd') : fd = fd' := by
  obtain ⟨a, b, c, e⟩ := h
  obtain ⟨a', b', c', e'⟩ := h'
  rw [e] at e'
  cases e'
  rfl
theorem fdAt_of {K : PySem.W.Frag} {x qual : Str} {params : Arguments} {body : List Stmt} {scope : Scope} {dvs : List V} {kws : List (Str × V)} {p : Str × Option Str} {fd : FuncData} (F : FunD K x qual params body scope dvs kws (He.fAd K p) fd) : FdAt K p fd := by
  obtain ⟨oc, od, dV, kV, doc, pm, an, cdv, ct, osl, e, lk, hcd, _, _⟩ := F.ex
  exact ⟨oc, od, osl, lk⟩
def Good (P : Program) (w : World) (K : PySem.W.Frag) (mg : Str → Option Value) (base : Heap) (CX : CXT) (k : Nat) (p : Str × Option Str) (ps : List Str) (sp : Sp) : Prop :=
  ∃ fd, FnOk P w K mg base CX k (He.fAd K p) fd ps sp ∧ Binds K fd ps [] ∧ PySem.W.keepIn K (.ref (He.fAd K p)) = true ∧ FdAt K p fd
section
variable {P : Program} {w : World} {K : PySem.W.Frag} {mg : Str → Option Value} {base : Heap} {fa : List He.Fa} {fn : List He.DefD}
theorem Good.mono {CX : CXT} {j k : Nat} {p : Str × Option Str} {ps : List Str} {sp : Sp} (G : Good P w K mg base CX j p ps sp) (h : j ≤ k) : Good P w K mg base CX k p ps sp := by
  obtain ⟨fd, F, b, kp, lk⟩ := G
  exact ⟨fd, F.mono h, b, kp, lk⟩
theorem Good.imp {CX : CXT} {k : Nat} {p : Str × Option Str} {ps : List Str} {sp sp' : Sp} (G : Good P w K mg base CX k p ps sp) (h : ∀ vs H Q E, sp' vs H Q E → sp vs H Q E) : Good P w K mg base CX k p ps sp' := by
  obtain ⟨fd, F, b, kp, lk⟩ := G
  exact ⟨fd, F.imp h, b, kp, lk⟩
/-- THE RULE of a def: nothing leaves it but by return -/
theorem good_mk (T : Env fa fn K mg) (i : Nat) {d : He.DefD} {k : Nat} {N ps : List Str} {sp : Sp} {x qual : Str} {st : Stmt} {at_ : Str × Option Str} (hi : fn[i]? = some d) (hd : d = ⟨at_, x, qual, defArgs st, defBody st, defScope st, [], []⟩) (S : FnScope N ps (defScope st))
    (hb : ∀ (kV doc pm : Value) (an : Option Addr) (cdv ct : Value) (us : List Value), us.length = ps.length → bindArgs (PySem.W.fnOf x qual (defArgs st) (defBody st) (defScope st) .none kV doc pm an cdv ct) ⟨us, []⟩ = pure (ps.zip us))
    (len : ∀ vs H Q E, sp vs H Q E → vs.length = ps.length)
    (hbody : ∀ (f : Addr) (cdv : Value) (A : Around) (outer : List PySem.Env) (s : Shared) (H : Hp) (vs : List V) (Q : VK) (E : XK), Room k (A.deeper (envOfC qual (defScope st) s.heap.objs.size f cdv)) → sp vs H Q E →
      ∃ t, PSs (cxOf CX0 P w K mg base N qual (defScope st) f cdv A outer s H E).nox (defBody st) t ∧ t { nx := fun _ H' => Q .non H', rt := Q } (start N vs) H) : Good P w K mg base CX0 (k + 1) at_ ps sp := by
  subst hd
  obtain ⟨fd, F⟩ := T.c.def_ i hi
  refine ⟨fd, ?_, FunD.bindsN F hb, F.kp, fdAt_of F⟩
  refine FunD.ok F S len fun cdv A outer s H vs Q E hr h => ?_
  obtain ⟨t, h1, h2⟩ := hbody _ cdv A outer s H vs Q E hr h
  exact ⟨t, h1.nox, h2⟩
end

/-! ### calls -/
section
variable {X : Cx} {k : Nat} {x m : Str} {ps : List Str} {sp : Sp} {p pos apos : Pos} {e o : Expr} {es : List Expr} {ta : TE} {t : TA} {C : Addr}
theorem pe_cg (G : Good X.prog X.w X.K X.mg X.base CX0 k (x, none) ps sp) (hr : Room k X.A) (hm : X.mg x = some (.ref (He.ga X.K x))) (ha : PA X (e :: es) t) (hg : Gl X x := by rfl)
    (hdb : (x == ("__debug__" : Str)) = false := by decide) (he : starEach (e :: es) X.env = (false, eval e X.env) :: starEach es X.env := by rfl) (hpl : (backTo pos (starEach es X.env)).any (·.1) = false := by rfl) :
    PE X (.Call (.Name x p) (e :: es) [] pos) (tCall sp [] E0 t) := by
  obtain ⟨fd, F, b, kp, lk⟩ := G
  exact pe_call F hr hg hm kp b .nil pass0 ha hdb he hpl
theorem pe_cg0 (G : Good X.prog X.w X.K X.mg X.base CX0 k (x, none) ps sp) (hr : Room k X.A) (hm : X.mg x = some (.ref (He.ga X.K x))) (hg : Gl X x := by rfl) (hdb : (x == ("__debug__" : Str)) = false := by decide) :
    PE X (.Call (.Name x p) [] [] pos) (tCall sp [] E0 tNil) := by
  obtain ⟨fd, F, b, kp, lk⟩ := G
  exact pe_call0 F hr hg hm kp b .nil pass0 hdb
theorem pe_mg {cn : Str} {pl : Sem Bool} (he : PE X o ta) (c : Cls X.K (He.ga X.K cn)) (hm : Meth X.K (He.ga X.K cn) m (He.ma X.K (He.ga X.K cn) m)) (G : Good X.prog X.w X.K X.mg X.base CX0 k (cn, some m) ps sp) (hr : Room k X.A) (ha : PA X (e :: es) t)
    (hst : starEach (e :: es) X.env = (false, eval e X.env) :: starEach es X.env := by rfl) (hpl : (backTo pos (starEach es X.env)).any (·.1) = false := by rfl)
    (ht : eval (.Call (.Attribute o m apos) (e :: es) [] pos) X.env = (do
      let ov ← eval o X.env
      standAt apos.atName
      let (f, first) ← holding [ov] (getMethod ov m pl)
      callWith pos f first (backTo pos (starEach (e :: es) X.env)) (backToKw pos (keywordEach [] X.env))) := by rfl) :
    PE X (.Call (.Attribute o m apos) (e :: es) [] pos) (tMeth (He.ga X.K cn) m sp [] E0 ta t) := by
  obtain ⟨fd, F, b, kp, lk⟩ := G
  exact pe_meth he c hm F hr b .nil pass0 ha hst hpl ht
theorem pe_mg0 {cn : Str} {pl : Sem Bool} (he : PE X o ta) (c : Cls X.K (He.ga X.K cn)) (hm : Meth X.K (He.ga X.K cn) m (He.ma X.K (He.ga X.K cn) m)) (G : Good X.prog X.w X.K X.mg X.base CX0 k (cn, some m) ps sp) (hr : Room k X.A)
    (ht : eval (.Call (.Attribute o m apos) [] [] pos) X.env = (do
      let ov ← eval o X.env
      standAt apos.atName
      let (f, first) ← holding [ov] (getMethod ov m pl)
      callWith pos f first (backTo pos (starEach [] X.env)) (backToKw pos (keywordEach [] X.env))) := by rfl) :
    PE X (.Call (.Attribute o m apos) [] [] pos) (tMeth (He.ga X.K cn) m sp [] E0 ta tNil) := by
  obtain ⟨fd, F, b, kp, lk⟩ := G
  exact pe_meth0 he c hm F hr b .nil pass0 ht
theorem pe_mk0 (M : Mk X.K (He.ga X.K x) (He.ma X.K (He.ga X.K x) "__init__")) (G : Good X.prog X.w X.K X.mg X.base CX0 k (x, some "__init__") ps sp) (hr : Room (k + 1) X.A) (hm : X.mg x = some (.ref (He.ga X.K x))) (hg : Gl X x := by rfl)
    (hdb : (x == ("__debug__" : Str)) = false := by decide) : PE X (.Call (.Name x p) [] [] pos) (tMake (He.ga X.K x) sp [] E0 tNil) := by
  obtain ⟨fd, F, b, kp, lk⟩ := G
  exact pe_make0 M F hr hg hm b .nil pass0 hdb
theorem pe_gint {i : Int} (h : ∃ t, X.mg x = some (.int i t)) (hg : Gl X x) (hd : (x == ("__debug__" : Str)) = false := by decide) : PE X (.Name x pos) (tC (.int i)) := by
  obtain ⟨t, e⟩ := h
  exact pe_glob hg e ⟨_, rfl⟩ hd
theorem pe_gstr {z : Str} (h : ∃ t, X.mg x = some (.str z t)) (hg : Gl X x) (hd : (x == ("__debug__" : Str)) = false := by decide) : PE X (.Name x pos) (tC (.str z)) := by
  obtain ⟨t, e⟩ := h
  exact pe_glob hg e ⟨_, rfl⟩ hd
theorem pe_gref (h : X.mg x = some (.ref (He.ga X.K x))) (hg : Gl X x) (hd : (x == ("__debug__" : Str)) = false := by decide) : PE X (.Name x pos) (tC (.ref (He.ga X.K x))) :=
  pe_glob hg h rfl hd
theorem pe_mk0K (K : PySem.W.Frag) (hK : X.K = K) (M : Mk K (He.ga K x) (He.ma K (He.ga K x) "__init__")) (G : Good X.prog X.w K X.mg X.base CX0 k (x, some "__init__") ps sp) (hr : Room (k + 1) X.A) (hm : X.mg x = some (.ref (He.ga K x))) (hg : Gl X x := by rfl)
    (hdb : (x == ("__debug__" : Str)) = false := by decide) : PE X (.Call (.Name x p) [] [] pos) (tMake (He.ga K x) sp [] E0 tNil) := by subst hK; exact pe_mk0 M G hr hm hg hdb
theorem pe_mkgK (K : PySem.W.Frag) (hK : X.K = K) (M : Mk K (He.ga K x) (He.ma K (He.ga K x) "__init__")) (G : Good X.prog X.w K X.mg X.base CX0 k (x, some "__init__") ps sp) (hr : Room (k + 1) X.A) (hm : X.mg x = some (.ref (He.ga K x))) (ha : PA X (e :: es) t) (hg : Gl X x := by rfl)
    (hdb : (x == ("__debug__" : Str)) = false := by decide) (hst : starEach (e :: es) X.env = (false, eval e X.env) :: starEach es X.env := by rfl) (hpl : (backTo pos (starEach es X.env)).any (·.1) = false := by rfl) : PE X (.Call (.Name x p) (e :: es) [] pos) (tMake (He.ga K x) sp [] E0 t) := by
  subst hK
  obtain ⟨fd, F, b, kp, lk⟩ := G
  exact pe_make M F hr hg hm b .nil pass0 ha hdb hst hpl
/-- one of two readings -/
theorem pe_or {t1 t2 : TE} (h1 : PE X e t1) (h2 : PE X e t2) : PE X e (fun σ H Q => t1 σ H Q ∨ t2 σ H Q) := ⟨fun pins s σ H Q I h => h.elim (h1.run pins s σ H Q I) (h2.run pins s σ H Q I)⟩
/-! the written part said outright (in a comprehension's block it is another word for the same) -/
variable {K : PySem.W.Frag} {f : Str} {a b i : Expr} {tb : TE}
theorem pe_fldK (K : PySem.W.Frag) (hK : X.K = K) (he : PE X e ta) (hb : attributeBase e f X.env (eval e X.env) = eval e X.env) : PE X (.Attribute e f pos) (tFld K ta f) := by subst hK; exact pe_fld he hb
theorem ix_listK (K : PySem.W.Frag) (hK : X.K = K) : IxR X (rIxL K) := by subst hK; exact ix_list
theorem ix_tupK (K : PySem.W.Frag) (hK : X.K = K) : IxR X (rIxT K) := by subst hK; exact ix_tup
theorem sl_listK (K : PySem.W.Frag) (hK : X.K = K) : SlR X (rSlL K) := by subst hK; exact sl_list
theorem sl_tupK (K : PySem.W.Frag) (hK : X.K = K) : SlR X (rSlT K) := by subst hK; exact sl_tup
theorem op_inK (K : PySem.W.Frag) (hK : X.K = K) : OpR X (compareOp .In) (rIn K false) := by subst hK; exact op_in_seq
theorem op_notInK (K : PySem.W.Frag) (hK : X.K = K) : OpR X (compareOp .NotIn) (rIn K true) := by subst hK; exact op_notIn_seq
theorem op_eqDK (K : PySem.W.Frag) (hK : X.K = K) (hu : X.A.units + 64 < cLine) : OpR X (compareOp .Eq) (rEqD K) := by subst hK; exact op_eqD hu
theorem op_neDK (K : PySem.W.Frag) (hK : X.K = K) (hu : X.A.units + 64 < cLine) : OpR X (compareOp .NotEq) (rNeD K) := by subst hK; exact op_neD hu
theorem op_catTK (K : PySem.W.Frag) (hK : X.K = K) : OpR X (binaryOp .Add) (rCatT K) := by subst hK; exact op_catT
theorem call_isiK (K : PySem.W.Frag) (hK : X.K = K) : CallR X (.builtin "isinstance") (rIsi K) := by subst hK; exact call_isi
def rLenS (K : PySem.W.Frag) : List V → Hp → VK → Prop := fun xs H Q => ∃ p ys, xs = [.ref p] ∧ (SqL K H p ys ∨ SqT K H p ys) ∧ Q (.int ys.length) H
theorem call_lenK (K : PySem.W.Frag) (hK : X.K = K) : CallR X (.builtin "len") (rLenS K) := by subst hK; exact call_len_seq
def rListOf (K : PySem.W.Frag) : List V → Hp → VK → Prop := fun xs H Q => ∃ p ys, xs = [.ref p] ∧ (SqL K H p ys ∨ SqT K H p ys) ∧ ∀ l, H l = none → Q (.ref l) (upd H l (.lst ys))
theorem call_listK (K : PySem.W.Frag) (hK : X.K = K) : CallR X (.type "list") (rListOf K) := by subst hK; exact call_list_of
theorem cr_sumK (K : PySem.W.Frag) (hK : X.K = K) (hc : X.calm = true) : CallR X (.builtin "sum") (rSum K) := by subst hK; exact cr_sum hc
theorem cr_maxK (K : PySem.W.Frag) (hK : X.K = K) (hc : X.calm = true) : CallR X (.builtin "max") (rMax K) := by subst hK; exact cr_max hc
theorem cr_minK (K : PySem.W.Frag) (hK : X.K = K) (hc : X.calm = true) : CallR X (.builtin "min") (rMin K) := by subst hK; exact cr_min hc
theorem pi_listK (K : PySem.W.Frag) (hK : X.K = K) {tg l : Expr} {tl : TE} (hl : PE X l tl) : PI X tg l (iList K tl) := by subst hK; exact pi_list hl
theorem pi_tupK (K : PySem.W.Frag) (hK : X.K = K) {tg l : Expr} {tl : TE} (hl : PE X l tl) : PI X tg l (iTup K tl) := by subst hK; exact pi_tup hl
theorem pe_mgK (K : PySem.W.Frag) (hK : X.K = K) {cn : Str} {pl : Sem Bool} (he : PE X o ta) (c : Cls K (He.ga K cn)) (hm : Meth K (He.ga K cn) m (He.ma K (He.ga K cn) m)) (G : Good X.prog X.w K X.mg X.base CX0 k (cn, some m) ps sp) (hr : Room k X.A) (ha : PA X (e :: es) t)
    (hst : starEach (e :: es) X.env = (false, eval e X.env) :: starEach es X.env := by rfl) (hpl : (backTo pos (starEach es X.env)).any (·.1) = false := by rfl)
    (ht : eval (.Call (.Attribute o m apos) (e :: es) [] pos) X.env = (do
      let ov ← eval o X.env
      standAt apos.atName
      let (f, first) ← holding [ov] (getMethod ov m pl)
      callWith pos f first (backTo pos (starEach (e :: es) X.env)) (backToKw pos (keywordEach [] X.env))) := by rfl) :
    PE X (.Call (.Attribute o m apos) (e :: es) [] pos) (tMeth (He.ga K cn) m sp [] E0 ta t) := by subst hK; exact pe_mg he c hm G hr ha hst hpl ht
theorem pe_mg0K (K : PySem.W.Frag) (hK : X.K = K) {cn : Str} {pl : Sem Bool} (he : PE X o ta) (c : Cls K (He.ga K cn)) (hm : Meth K (He.ga K cn) m (He.ma K (He.ga K cn) m)) (G : Good X.prog X.w K X.mg X.base CX0 k (cn, some m) ps sp) (hr : Room k X.A)
    (ht : eval (.Call (.Attribute o m apos) [] [] pos) X.env = (do
      let ov ← eval o X.env
      standAt apos.atName
      let (f, first) ← holding [ov] (getMethod ov m pl)
      callWith pos f first (backTo pos (starEach [] X.env)) (backToKw pos (keywordEach [] X.env))) := by rfl) :
    PE X (.Call (.Attribute o m apos) [] [] pos) (tMeth (He.ga K cn) m sp [] E0 ta tNil) := by subst hK; exact pe_mg0 he c hm G hr ht
theorem pe_cgK (K : PySem.W.Frag) (hK : X.K = K) (G : Good X.prog X.w K X.mg X.base CX0 k (x, none) ps sp) (hr : Room k X.A) (hm : X.mg x = some (.ref (He.ga K x))) (ha : PA X (e :: es) t) (hg : Gl X x := by rfl)
    (hdb : (x == ("__debug__" : Str)) = false := by decide) (he : starEach (e :: es) X.env = (false, eval e X.env) :: starEach es X.env := by rfl) (hpl : (backTo pos (starEach es X.env)).any (·.1) = false := by rfl) :
    PE X (.Call (.Name x p) (e :: es) [] pos) (tCall sp [] E0 t) := by subst hK; exact pe_cg G hr hm ha hg hdb he hpl
theorem pe_grefK (K : PySem.W.Frag) (hK : X.K = K) (h : X.mg x = some (.ref (He.ga K x))) (hg : Gl X x) (hd : (x == ("__debug__" : Str)) = false := by decide) : PE X (.Name x pos) (tC (.ref (He.ga K x))) := by subst hK; exact pe_gref h hg hd
end
end JF

/-! ### squares as trees: the mathematics of a grove, no program in sight -/
namespace JF
open PySem PySem.Spec PyProof.Rows L2

inductive Sq where
  | leaf (s : Int)
  | node (a b c d : Sq)
  deriving DecidableEq
abbrev Box := Int × Int × Int × Int
def rb : Option Box → Box → Box
  | none, o => o
  | some b, o => (min b.1 o.1, min b.2.1 o.2.1, max (b.1 + b.2.2.1) (o.1 + o.2.2.1) - min b.1 o.1, max (b.2.1 + b.2.2.2) (o.2.1 + o.2.2.2) - min b.2.1 o.2.1)
def r4step (half : Int) (at_ : Int) (f : Option Box) : Option Box → Option Box
  | none => f
  | some b => some (rb f (b.1 + half * (at_ % 2), b.2.1 + half * (at_ / 2), b.2.2.1, b.2.2.2))
def r4 (half : Int) (a b c d : Option Box) : Option Box := r4step half 3 (r4step half 2 (r4step half 1 (r4step half 0 none a) b) c) d
namespace Sq
def level : Sq → Nat
  | leaf _ => 0
  | node a _ _ _ => a.level + 1
def lives : Sq → Int
  | leaf s => if s = 0 then 0 else 1
  | node a b c d => a.lives + b.lives + c.lives + d.lives
def span : Sq → Option Box
  | leaf s => if s = 0 then none else some (0, 0, 1, 1)
  | node a b c d => r4 (2 ^ a.level : Int) a.span b.span c.span d.span
def wf : Sq → Prop
  | leaf s => 0 ≤ s ∧ s ≤ 7
  | node a b c d => a.wf ∧ b.wf ∧ c.wf ∧ d.wf ∧ b.level = a.level ∧ c.level = a.level ∧ d.level = a.level
def even : Nat → Int → Sq
  | 0, s => leaf s
  | k + 1, s => node (even k s) (even k s) (even k s) (even k s)
theorem level_even (k : Nat) (s : Int) : (even k s).level = k := by
  induction k with
  | zero => rfl
  | succ k ih => show (even k s).level + 1 = k + 1; rw [ih]
theorem wf_even {s : Int} (h0 : 0 ≤ s) (h1 : s ≤ 7) (k : Nat) : (even k s).wf := by
  induction k with
  | zero => exact ⟨h0, h1⟩
  | succ k ih => exact ⟨ih, ih, ih, ih, rfl, rfl, rfl⟩
theorem lives_nonneg : ∀ S : Sq, 0 ≤ S.lives
  | leaf s => by unfold lives; split <;> omega
  | node a b c d => by
    have h1 := lives_nonneg a; have h2 := lives_nonneg b; have h3 := lives_nonneg c; have h4 := lives_nonneg d
    unfold lives; omega
end Sq

/-! ### the dict of a grove: what was made, by numbers -/
def kvsOf : List (List Int) → Nat → List (List Key × V)
  | [], _ => []
  | m :: r, i => (m.map Sum.inl, V.int (i : Int)) :: kvsOf r (i + 1)
def lookI : List (List Int) → List Int → Nat → Option Nat
  | [], _, _ => none
  | m :: r, k, i => if m = k then some i else lookI r k (i + 1)
theorem inl_inj : ∀ {a b : List Int}, a.map (Sum.inl : Int → Key) = b.map Sum.inl → a = b
  | [], [], _ => rfl
  | [], _ :: _, h => by cases h
  | _ :: _, [], h => by cases h
  | x :: a, y :: b, h => by
    simp only [List.map_cons, List.cons.injEq, Sum.inl.injEq] at h
    rw [h.1, inl_inj h.2]
theorem kvsOf_len : ∀ (mk : List (List Int)) (i : Nat), (kvsOf mk i).length = mk.length
  | [], _ => rfl
  | _ :: r, i => by show (kvsOf r (i + 1)).length + 1 = r.length + 1; rw [kvsOf_len r]
theorem kvsOf_app : ∀ (mk : List (List Int)) (m : List Int) (i : Nat), kvsOf (mk ++ [m]) i = kvsOf mk i ++ [(m.map Sum.inl, V.int ((i + mk.length : Nat) : Int))]
  | [], m, i => rfl
  | x :: r, m, i => by
    show _ :: kvsOf (r ++ [m]) (i + 1) = _ :: (kvsOf r (i + 1) ++ _)
    rw [kvsOf_app r m (i + 1)]
    have e : i + 1 + r.length = i + (x :: r).length := by simp; omega
    rw [e]
theorem valV_kvsOf : ∀ (mk : List (List Int)) (k : List Int) (i : Nat), valV (kvsOf mk i) (k.map Sum.inl) = (lookI mk k i).map fun n : Nat => V.int (n : Int)
  | [], _, _ => rfl
  | m :: r, k, i => by
    by_cases h : m = k
    · subst h
      simp [kvsOf, lookI, valV]
    · have h' : ¬ (m.map (Sum.inl : Int → Key) = k.map Sum.inl) := fun e => h (inl_inj e)
      have ih := valV_kvsOf r k (i + 1)
      simp only [kvsOf, lookI, valV, List.find?_cons, h, h', decide_false, if_false] at ih ⊢
      exact ih
theorem lookI_some : ∀ {mk : List (List Int)} {k : List Int} {i n : Nat}, lookI mk k i = some n → i ≤ n ∧ mk[n - i]? = some k
  | [], _, _, _, h => by cases h
  | m :: r, k, i, n, h => by
    by_cases e : m = k
    · simp only [lookI, e, if_true, Option.some.injEq] at h
      subst h
      simp [e]
    · simp only [lookI, e, if_false] at h
      obtain ⟨h1, h2⟩ := lookI_some h
      refine ⟨by omega, ?_⟩
      have e2 : n - i = (n - (i + 1)) + 1 := by omega
      rw [e2, List.getElem?_cons_succ]
      exact h2
theorem lookI_none : ∀ {mk : List (List Int)} {k : List Int} {i : Nat}, lookI mk k i = none → k ∉ mk
  | [], _, _, _ => by simp
  | m :: r, k, i, h => by
    by_cases e : m = k
    · simp [lookI, e] at h
    · simp only [lookI, e, if_false] at h
      have := lookI_none h
      simp only [List.mem_cons, not_or]
      exact ⟨fun z => e z.symm, this⟩

/-- what a square is made of, by the numbers of its quarters -/
def Made (q : List Sq) : Sq → List Int → Prop
  | .leaf s, m => m = [s]
  | .node A B C D, m => ∃ a b c d : Nat, m = [(a : Int), (b : Int), (c : Int), (d : Int)] ∧ q[a]? = some A ∧ q[b]? = some B ∧ q[c]? = some C ∧ q[d]? = some D
theorem getElem?_app {α : Type} {q : List α} {i : Nat} {x : α} (h : q[i]? = some x) (t : List α) : (q ++ t)[i]? = some x := by
  rw [List.getElem?_append_left (List.getElem?_eq_some_iff.mp h).1]
  exact h
theorem Made.app {q : List Sq} {S : Sq} {m : List Int} (h : Made q S m) (t : List Sq) : Made (q ++ t) S m := by
  cases S with
  | leaf s => exact h
  | node A B C D =>
    obtain ⟨a, b, c, d, e, h1, h2, h3, h4⟩ := h
    exact ⟨a, b, c, d, e, getElem?_app h1 t, getElem?_app h2 t, getElem?_app h3 t, getElem?_app h4 t⟩
theorem nodup_at {q : List Sq} (hq : q.Nodup) {i j : Nat} {S : Sq} (a : q[i]? = some S) (b : q[j]? = some S) : i = j := by
  obtain ⟨h1, e1⟩ := List.getElem?_eq_some_iff.mp a
  obtain ⟨h2, e2⟩ := List.getElem?_eq_some_iff.mp b
  exact (List.getElem_inj hq).mp (e1.trans e2.symm)
theorem made_inj {q : List Sq} (hq : q.Nodup) {S : Sq} {m m' : List Int} (a : Made q S m) (b : Made q S m') : m = m' := by
  cases S with
  | leaf s => exact (show m = [s] from a).trans (show m' = [s] from b).symm
  | node A B C D =>
    obtain ⟨a1, b1, c1, d1, rfl, h1, h2, h3, h4⟩ := a
    obtain ⟨a2, b2, c2, d2, rfl, k1, k2, k3, k4⟩ := b
    rw [nodup_at hq h1 k1, nodup_at hq h2 k2, nodup_at hq h3 k3, nodup_at hq h4 k4]
theorem made_same {q : List Sq} {S S' : Sq} {m : List Int} (a : Made q S m) (b : Made q S' m) : S = S' := by
  cases S with
  | leaf s =>
    cases S' with
    | leaf s' =>
      have e : [s] = [s'] := (show m = [s] from a).symm.trans (show m = [s'] from b)
      simp only [List.cons.injEq, and_true] at e
      rw [e]
    | node A B C D =>
      obtain ⟨a2, b2, c2, d2, e, _⟩ := b
      have e1 : m = [s] := a
      rw [e1] at e
      simp at e
  | node A B C D =>
    obtain ⟨a1, b1, c1, d1, e1, h1, h2, h3, h4⟩ := a
    cases S' with
    | leaf s' =>
      have e2 : m = [s'] := b
      rw [e1] at e2
      simp at e2
    | node A' B' C' D' =>
      obtain ⟨a2, b2, c2, d2, e2, k1, k2, k3, k4⟩ := b
      rw [e1] at e2
      simp only [List.cons.injEq, Int.ofNat_inj, and_true] at e2
      obtain ⟨rfl, rfl, rfl, rfl⟩ := e2
      rw [h1] at k1; rw [h2] at k2; rw [h3] at k3; rw [h4] at k4
      cases k1; cases k2; cases k3; cases k4
      rfl
end JF

namespace JF
open PySem PySem.Spec PyProof.Rows L2
def top (i : Nat) : Stmt := PySem.Challenge.pw_jumpfield_k26_fields_refused.main.body.getD i (.Pass ⟨0, 0, 0, 0⟩)
abbrev st_x_wall : Stmt := top 0
theorem sc_x_wall : FnScope ["k"] ["k"] (defScope st_x_wall) := ⟨rfl, rfl, rfl, by decide +kernel, rfl, by decide +kernel, by decide +kernel⟩
def d_x_wall : He.DefD := ⟨("_wall", none), "_wall", "_wall", defArgs (top 0), defBody (top 0), defScope (top 0), [], []⟩
abbrev st_is_whole : Stmt := top 9
theorem sc_is_whole : FnScope ["thing"] ["thing"] (defScope st_is_whole) := ⟨rfl, rfl, rfl, by decide +kernel, rfl, by decide +kernel, by decide +kernel⟩
def d_is_whole : He.DefD := ⟨("is_whole", none), "is_whole", "is_whole", defArgs (top 9), defBody (top 9), defScope (top 9), [], []⟩
abbrev st_round_both : Stmt := top 13
theorem sc_round_both : FnScope ["one", "other", "left", "top", "right", "low"] ["one", "other"] (defScope st_round_both) := ⟨rfl, rfl, rfl, by decide +kernel, rfl, by decide +kernel, by decide +kernel⟩
def d_round_both : He.DefD := ⟨("round_both", none), "round_both", "round_both", defArgs (top 13), defBody (top 13), defScope (top 13), [], []⟩
abbrev st_round_four : Stmt := top 14
theorem sc_round_four : FnScope ["spans", "half", "found", "at", "span", "left", "top"] ["spans", "half"] (defScope st_round_four) := ⟨rfl, rfl, rfl, by decide +kernel, rfl, by decide +kernel, by decide +kernel⟩
def d_round_four : He.DefD := ⟨("round_four", none), "round_four", "round_four", defArgs (top 14), defBody (top 14), defScope (top 14), [], []⟩
abbrev st_is_state : Stmt := top 15
theorem sc_is_state : FnScope ["thing"] ["thing"] (defScope st_is_state) := ⟨rfl, rfl, rfl, by decide +kernel, rfl, by decide +kernel, by decide +kernel⟩
def d_is_state : He.DefD := ⟨("is_state", none), "is_state", "is_state", defArgs (top 15), defBody (top 15), defScope (top 15), [], []⟩
abbrev st_Grove_init : Stmt := inClass (top 16) 0
theorem sc_Grove_init : FnScope ["self"] ["self"] (defScope st_Grove_init) := ⟨rfl, rfl, rfl, by decide +kernel, rfl, by decide +kernel, by decide +kernel⟩
def d_Grove_init : He.DefD := ⟨("Grove", some "__init__"), "__init__", "Grove.__init__", defArgs (inClass (top 16) 0), defBody (inClass (top 16) 0), defScope (inClass (top 16) 0), [], []⟩
abbrev st_Grove_kept : Stmt := inClass (top 16) 1
theorem sc_Grove_kept : FnScope ["self", "made", "level", "lives", "span", "number"] ["self", "made", "level", "lives", "span"] (defScope st_Grove_kept) := ⟨rfl, rfl, rfl, by decide +kernel, rfl, by decide +kernel, by decide +kernel⟩
def d_Grove_kept : He.DefD := ⟨("Grove", some "kept"), "kept", "Grove.kept", defArgs (inClass (top 16) 1), defBody (inClass (top 16) 1), defScope (inClass (top 16) 1), [], []⟩
abbrev st_Grove_cell : Stmt := inClass (top 16) 2
theorem sc_Grove_cell : FnScope ["self", "state", "made"] ["self", "state"] (defScope st_Grove_cell) := ⟨rfl, rfl, rfl, by decide +kernel, rfl, by decide +kernel, by decide +kernel⟩
def d_Grove_cell : He.DefD := ⟨("Grove", some "cell"), "cell", "Grove.cell", defArgs (inClass (top 16) 2), defBody (inClass (top 16) 2), defScope (inClass (top 16) 2), [], []⟩
abbrev st_Grove_knit : Stmt := inClass (top 16) 3
theorem sc_Grove_knit : FnScope ["self", "a", "b", "c", "d", "made", "level", "lives", "span", "one"] ["self", "a", "b", "c", "d"] (defScope st_Grove_knit) := ⟨rfl, rfl, rfl, by decide +kernel, rfl, by decide +kernel, by decide +kernel⟩
def d_Grove_knit : He.DefD := ⟨("Grove", some "knit"), "knit", "Grove.knit", defArgs (inClass (top 16) 3), defBody (inClass (top 16) 3), defScope (inClass (top 16) 3), [], []⟩
abbrev st_Grove_even : Stmt := inClass (top 16) 4
theorem sc_Grove_even : FnScope ["self", "level", "state", "row", "one"] ["self", "level", "state"] (defScope st_Grove_even) := ⟨rfl, rfl, rfl, by decide +kernel, rfl, by decide +kernel, by decide +kernel⟩
def d_Grove_even : He.DefD := ⟨("Grove", some "even"), "even", "Grove.even", defArgs (inClass (top 16) 4), defBody (inClass (top 16) 4), defScope (inClass (top 16) 4), [], []⟩
abbrev st_Grove_asked : Stmt := inClass (top 16) 5
theorem sc_Grove_asked : FnScope ["self", "square"] ["self", "square"] (defScope st_Grove_asked) := ⟨rfl, rfl, rfl, by decide +kernel, rfl, by decide +kernel, by decide +kernel⟩
def d_Grove_asked : He.DefD := ⟨("Grove", some "asked"), "asked", "Grove.asked", defArgs (inClass (top 16) 5), defBody (inClass (top 16) 5), defScope (inClass (top 16) 5), [], []⟩
abbrev st_Grove_leaf : Stmt := inClass (top 16) 6
theorem sc_Grove_leaf : FnScope ["self", "state"] ["self", "state"] (defScope st_Grove_leaf) := ⟨rfl, rfl, rfl, by decide +kernel, rfl, by decide +kernel, by decide +kernel⟩
def d_Grove_leaf : He.DefD := ⟨("Grove", some "leaf"), "leaf", "Grove.leaf", defArgs (inClass (top 16) 6), defBody (inClass (top 16) 6), defScope (inClass (top 16) 6), [], []⟩
abbrev st_Grove_joined : Stmt := inClass (top 16) 7
theorem sc_Grove_joined : FnScope ["self", "a", "b", "c", "d"] ["self", "a", "b", "c", "d"] (defScope st_Grove_joined) := ⟨rfl, rfl, rfl, by decide +kernel, rfl, by decide +kernel, by decide +kernel⟩
def d_Grove_joined : He.DefD := ⟨("Grove", some "joined"), "joined", "Grove.joined", defArgs (inClass (top 16) 7), defBody (inClass (top 16) 7), defScope (inClass (top 16) 7), [], []⟩
abbrev st_Grove_solid : Stmt := inClass (top 16) 8
theorem sc_Grove_solid : FnScope ["self", "level", "state"] ["self", "level", "state"] (defScope st_Grove_solid) := ⟨rfl, rfl, rfl, by decide +kernel, rfl, by decide +kernel, by decide +kernel⟩
def d_Grove_solid : He.DefD := ⟨("Grove", some "solid"), "solid", "Grove.solid", defArgs (inClass (top 16) 8), defBody (inClass (top 16) 8), defScope (inClass (top 16) 8), [], []⟩
abbrev st_Grove_level_of : Stmt := inClass (top 16) 9
theorem sc_Grove_level_of : FnScope ["self", "square"] ["self", "square"] (defScope st_Grove_level_of) := ⟨rfl, rfl, rfl, by decide +kernel, rfl, by decide +kernel, by decide +kernel⟩
def d_Grove_level_of : He.DefD := ⟨("Grove", some "level_of"), "level_of", "Grove.level_of", defArgs (inClass (top 16) 9), defBody (inClass (top 16) 9), defScope (inClass (top 16) 9), [], []⟩
abbrev st_Grove_quarters : Stmt := inClass (top 16) 10
theorem sc_Grove_quarters : FnScope ["self", "square"] ["self", "square"] (defScope st_Grove_quarters) := ⟨rfl, rfl, rfl, by decide +kernel, rfl, by decide +kernel, by decide +kernel⟩
def d_Grove_quarters : He.DefD := ⟨("Grove", some "quarters"), "quarters", "Grove.quarters", defArgs (inClass (top 16) 10), defBody (inClass (top 16) 10), defScope (inClass (top 16) 10), [], []⟩
abbrev st_Grove_state_of : Stmt := inClass (top 16) 11
theorem sc_Grove_state_of : FnScope ["self", "square"] ["self", "square"] (defScope st_Grove_state_of) := ⟨rfl, rfl, rfl, by decide +kernel, rfl, by decide +kernel, by decide +kernel⟩
def d_Grove_state_of : He.DefD := ⟨("Grove", some "state_of"), "state_of", "Grove.state_of", defArgs (inClass (top 16) 11), defBody (inClass (top 16) 11), defScope (inClass (top 16) 11), [], []⟩
abbrev st_Grove_living : Stmt := inClass (top 16) 12
theorem sc_Grove_living : FnScope ["self", "square"] ["self", "square"] (defScope st_Grove_living) := ⟨rfl, rfl, rfl, by decide +kernel, rfl, by decide +kernel, by decide +kernel⟩
def d_Grove_living : He.DefD := ⟨("Grove", some "living"), "living", "Grove.living", defArgs (inClass (top 16) 12), defBody (inClass (top 16) 12), defScope (inClass (top 16) 12), [], []⟩
abbrev st_Grove_span : Stmt := inClass (top 16) 13
theorem sc_Grove_span : FnScope ["self", "square"] ["self", "square"] (defScope st_Grove_span) := ⟨rfl, rfl, rfl, by decide +kernel, rfl, by decide +kernel, by decide +kernel⟩
def d_Grove_span : He.DefD := ⟨("Grove", some "span"), "span", "Grove.span", defArgs (inClass (top 16) 13), defBody (inClass (top 16) 13), defScope (inClass (top 16) 13), [], []⟩
abbrev st_in_ground : Stmt := top 19
theorem sc_in_ground : FnScope ["x", "y"] ["x", "y"] (defScope st_in_ground) := ⟨rfl, rfl, rfl, by decide +kernel, rfl, by decide +kernel, by decide +kernel⟩
def d_in_ground : He.DefD := ⟨("in_ground", none), "in_ground", "in_ground", defArgs (top 19), defBody (top 19), defScope (top 19), [], []⟩
abbrev st_meeting : Stmt := top 20
theorem sc_meeting : FnScope ["grove", "a", "b", "c", "d", "one", "two", "three", "four"] ["grove", "a", "b", "c", "d"] (defScope st_meeting) := ⟨rfl, rfl, rfl, by decide +kernel, rfl, by decide +kernel, by decide +kernel⟩
def d_meeting : He.DefD := ⟨("meeting", none), "meeting", "meeting", defArgs (top 20), defBody (top 20), defScope (top 20), [], []⟩
abbrev st_middle_of : Stmt := top 21
theorem sc_middle_of : FnScope ["grove", "square", "four"] ["grove", "square"] (defScope st_middle_of) := ⟨rfl, rfl, rfl, by decide +kernel, rfl, by decide +kernel, by decide +kernel⟩
def d_middle_of : He.DefD := ⟨("middle_of", none), "middle_of", "middle_of", defArgs (top 21), defBody (top 21), defScope (top 21), [], []⟩
abbrev st_widened : Stmt := top 22
theorem sc_widened : FnScope ["grove", "square", "level", "four", "no", "one", "two", "three", "last"] ["grove", "square"] (defScope st_widened) := ⟨rfl, rfl, rfl, by decide +kernel, rfl, by decide +kernel, by decide +kernel⟩
def d_widened : He.DefD := ⟨("widened", none), "widened", "widened", defArgs (top 22), defBody (top 22), defScope (top 22), [], []⟩
abbrev st_trimmed : Stmt := top 23
theorem sc_trimmed : FnScope ["grove", "square", "inner"] ["grove", "square"] (defScope st_trimmed) := ⟨rfl, rfl, rfl, by decide +kernel, rfl, by decide +kernel, by decide +kernel⟩
def d_trimmed : He.DefD := ⟨("trimmed", none), "trimmed", "trimmed", defArgs (top 23), defBody (top 23), defScope (top 23), [], []⟩
abbrev st_put_in : Stmt := top 24
theorem sc_put_in : FnScope ["grove", "square", "x", "y", "leaf", "level", "half", "four", "at"] ["grove", "square", "x", "y", "leaf"] (defScope st_put_in) := ⟨rfl, rfl, rfl, by decide +kernel, rfl, by decide +kernel, by decide +kernel⟩
def d_put_in : He.DefD := ⟨("put_in", none), "put_in", "put_in", defArgs (top 24), defBody (top 24), defScope (top 24), [], []⟩
abbrev st_planted : Stmt := top 25
theorem sc_planted : FnScope ["grove", "field", "x", "y", "state", "leaf", "half"] ["grove", "field", "x", "y", "state"] (defScope st_planted) := ⟨rfl, rfl, rfl, by decide +kernel, rfl, by decide +kernel, by decide +kernel⟩
def d_planted : He.DefD := ⟨("planted", none), "planted", "planted", defArgs (top 25), defBody (top 25), defScope (top 25), [], []⟩
abbrev st_field_of : Stmt := top 26
theorem sc_field_of : FnScope ["grove", "cells", "field", "x", "y", "state"] ["grove", "cells"] (defScope st_field_of) := ⟨rfl, rfl, rfl, by decide +kernel, rfl, by decide +kernel, by decide +kernel⟩
def d_field_of : He.DefD := ⟨("field_of", none), "field_of", "field_of", defArgs (top 26), defBody (top 26), defScope (top 26), [], []⟩
abbrev st_by_rows : Stmt := top 29
theorem sc_by_rows : FnScope ["cell"] ["cell"] (defScope st_by_rows) := ⟨rfl, rfl, rfl, by decide +kernel, rfl, by decide +kernel, by decide +kernel⟩
def d_by_rows : He.DefD := ⟨("by_rows", none), "by_rows", "by_rows", defArgs (top 29), defBody (top 29), defScope (top 29), [], []⟩
abbrev st_cells_of : Stmt := top 30
theorem sc_cells_of : FnScope ["grove", "field", "half", "found", "waiting", "square", "x", "y", "level", "at", "one"] ["grove", "field"] (defScope st_cells_of) := ⟨rfl, rfl, rfl, by decide +kernel, rfl, by decide +kernel, by decide +kernel⟩
def d_cells_of : He.DefD := ⟨("cells_of", none), "cells_of", "cells_of", defArgs (top 30), defBody (top 30), defScope (top 30), [], []⟩
abbrev st_w_at : Stmt := top 32
theorem sc_w_at : FnScope ["_law_script", "_law_k"] ["_law_script", "_law_k"] (defScope st_w_at) := ⟨rfl, rfl, rfl, by decide +kernel, rfl, by decide +kernel, by decide +kernel⟩
def d_w_at : He.DefD := ⟨("_law_at", none), "_law_at", "_law_at", defArgs (top 32), defBody (top 32), defScope (top 32), [], []⟩
abbrev st_w_refused : Stmt := top 33
theorem sc_w_refused : FnScope ["_law_deed", "_law_due", "e", "_law_kinds", "_law_k"] ["_law_deed", "_law_due"] (defScope st_w_refused) := ⟨rfl, rfl, rfl, by decide +kernel, rfl, by decide +kernel, by decide +kernel⟩
def d_w_refused : He.DefD := ⟨("_law_refused", none), "_law_refused", "_law_refused", defArgs (top 33), defBody (top 33), defScope (top 33), [], []⟩
abbrev st_w_no_state : Stmt := top 34
theorem sc_w_no_state : FnScope ["_law_cell", "_law_way", "_law_far"] ["_law_cell"] (defScope st_w_no_state) := ⟨rfl, rfl, rfl, by decide +kernel, rfl, by decide +kernel, by decide +kernel⟩
def d_w_no_state : He.DefD := ⟨("_law_no_state", none), "_law_no_state", "_law_no_state", defArgs (top 34), defBody (top 34), defScope (top 34), [], []⟩
abbrev st_w_far_place : Stmt := top 35
theorem sc_w_far_place : FnScope ["_law_cell", "_law_beside", "_law_far", "_law_out"] ["_law_cell", "_law_beside"] (defScope st_w_far_place) := ⟨rfl, rfl, rfl, by decide +kernel, rfl, by decide +kernel, by decide +kernel⟩
def d_w_far_place : He.DefD := ⟨("_law_far_place", none), "_law_far_place", "_law_far_place", defArgs (top 35), defBody (top 35), defScope (top 35), [], []⟩
abbrev st_w_odd_cell : Stmt := top 36
theorem sc_w_odd_cell : FnScope ["_law_cell", "_law_beside", "_law_place"] ["_law_cell", "_law_beside"] (defScope st_w_odd_cell) := ⟨rfl, rfl, rfl, by decide +kernel, rfl, by decide +kernel, by decide +kernel⟩
def d_w_odd_cell : He.DefD := ⟨("_law_odd_cell", none), "_law_odd_cell", "_law_odd_cell", defArgs (top 36), defBody (top 36), defScope (top 36), [], []⟩
abbrev st_w_many : Stmt := top 37
theorem sc_w_many : FnScope ["_law_grove", "_law_script", "_law_state", "_law_full", "_law_x", "_law_found", "_law_k", "_law_more", "_law_wide"] ["_law_grove", "_law_script"] (defScope st_w_many) := ⟨rfl, rfl, rfl, by decide +kernel, rfl, by decide +kernel, by decide +kernel⟩
def d_w_many : He.DefD := ⟨("_law_many", none), "_law_many", "_law_many", defArgs (top 37), defBody (top 37), defScope (top 37), [], []⟩
abbrev st_w_levels : Stmt := top 38
theorem sc_w_levels : FnScope ["_law_grove", "_law_field", "_law_cell", "_law_leaf", "_law_high", "_law_bad", "_law_due", "_law_square"] ["_law_grove", "_law_field", "_law_cell"] (defScope st_w_levels) := ⟨rfl, rfl, rfl, by decide +kernel, rfl, by decide +kernel, by decide +kernel⟩
def d_w_levels : He.DefD := ⟨("_law_levels", none), "_law_levels", "_law_levels", defArgs (top 38), defBody (top 38), defScope (top 38), [], []⟩
abbrev st_law : Stmt := top 39
theorem sc_law : FnScope ["_law_script", "_law_cells", "_law_k", "_law_at_here", "_law_beside", "_law_due", "_law_later", "_law_field", "_law_grove", "_law_one", "_law_other", "_law_row", "_law_x", "_law_y", "_law_state"] ["_law_script"] (defScope st_law) := ⟨rfl, rfl, rfl, by decide +kernel, rfl, by decide +kernel, by decide +kernel⟩
def d_law : He.DefD := ⟨("law", none), "law", "law", defArgs (top 39), defBody (top 39), defScope (top 39), [], []⟩
def tfs : List (Str × Option Str) := tfsP
def tabsL (K : PySem.W.Frag) : List (Addr × Str) := tfs.map fun p => (He.tabOf K (He.codeOf K p), p.1 ++ ".<locals>." ++ "<lambda>")
theorem tl_mem {K : PySem.W.Frag} (i : Nat) {p : Str × Option Str} (h : tfs[i]? = some p) : (He.tabOf K (He.codeOf K p), p.1 ++ ".<locals>." ++ "<lambda>") ∈ tabsL K := List.mem_map.mpr ⟨p, List.mem_of_getElem? h, rfl⟩
theorem tl_u {K : PySem.W.Frag} {mg : Str → Option Value} {fa : List He.Fa} {fn : List He.DefD} (T : Env fa fn K mg) (i : Nat) {p : Str × Option Str} (h : tfs[i]? = some p) : ∀ r ∈ tabsL K, r.1 = He.tabOf K (He.codeOf K p) → r.2 = p.1 ++ ".<locals>." ++ "<lambda>" := fun r hr e => by
  obtain ⟨p', hp', rfl⟩ := List.mem_map.mp hr
  obtain ⟨j, hj⟩ := List.getElem?_of_mem hp'
  have nd := T.tnd
  change tfsP[i]? = some p at h
  change tfsP[j]? = some p' at hj
  have hi : i < tfsP.length := (List.getElem?_eq_some_iff.mp h).1
  have hj' : j < tfsP.length := (List.getElem?_eq_some_iff.mp hj).1
  have e1 : (tfsP.map fun p => He.tabOf K (He.codeOf K p))[j]'(by rw [List.length_map]; exact hj') = (tfsP.map fun p => He.tabOf K (He.codeOf K p))[i]'(by rw [List.length_map]; exact hi) := by
    rw [List.getElem_map, List.getElem_map, (List.getElem?_eq_some_iff.mp hj).2, (List.getElem?_eq_some_iff.mp h).2]
    exact e
  have e2 : j = i := (List.getElem_inj nd).mp e1
  subst e2
  rw [h] at hj
  cases hj
  rfl
def fn : List He.DefD := [d_x_wall, d_is_whole, d_round_both, d_round_four, d_is_state, d_Grove_init, d_Grove_kept, d_Grove_cell, d_Grove_knit, d_Grove_even, d_Grove_asked, d_Grove_leaf, d_Grove_joined, d_Grove_solid, d_Grove_level_of, d_Grove_quarters, d_Grove_state_of, d_Grove_living, d_Grove_span, d_in_ground, d_meeting, d_middle_of, d_widened, d_trimmed, d_put_in, d_planted, d_field_of, d_by_rows, d_cells_of, d_w_at, d_w_refused, d_w_no_state, d_w_far_place, d_w_odd_cell, d_w_many, d_w_levels, d_law]
def fa : List He.Fa := [(.free "bool"), (.free "isinstance"), (.free "int"), (.free "min"), (.free "max"), (.free "enumerate"), (.glo "round_both"), (.glo "is_whole"), (.free "len"), (.cls "Grove"), (.meth "Grove" "kept"), (.glo "round_four"), (.meth "Grove" "cell"), (.meth "Grove" "knit"), (.int "MANY" 1000000000), (.glo "NoSquare"), (.glo "is_state"), (.glo "NoState"), (.glo "_wall"), (.int "HIGHEST" 48), (.meth "Grove" "even"), (.meth "Grove" "asked"), (.int "LIMIT" 1099511627776), (.meth "Grove" "quarters"), (.glo "meeting"), (.meth "Grove" "level_of"), (.glo "NoLevel"), (.glo "middle_of"), (.meth "Grove" "living"), (.free "list"), (.glo "put_in"), (.glo "in_ground"), (.meth "Grove" "leaf"), (.glo "widened"), (.glo "trimmed"), (.glo "TooFar"), (.glo "planted"), (.int "MOST" 4096), (.meth "Grove" "state_of"), (.free "sorted"), (.glo "by_rows"), (.glo "TooMany"), (.free "range"), (.free "ValueError"), (.glo "FieldError"), (.glo "_law_no_state"), (.glo "_law_far_place"), (.glo "_law_at"), (.meth "Grove" "solid"), (.glo "cells_of"), (.glo "_law_refused"), (.mkr "Grove"), (.glo "Grove"), (.glo "field_of"), (.glo "_law_odd_cell"), (.glo "_law_levels"), (.glo "_law_many"), (.noat "Grove" "levels"), (.noat "Grove" "lives"), (.noat "Grove" "made"), (.noat "Grove" "numbers"), (.noat "Grove" "plain"), (.noat "Grove" "spans"), (.glo "law")]
def loose0 : List Str := ["_wall", "FieldError", "NoSquare", "NoLevel", "NoState", "TooFar", "TooMany", "is_whole", "HIGHEST", "MANY", "round_both", "round_four", "is_state", "Grove", "LIMIT", "in_ground", "meeting", "middle_of", "widened", "trimmed", "put_in", "planted", "field_of", "MOST", "by_rows", "cells_of", "_law_at", "_law_refused", "_law_no_state", "_law_far_place"]
def loose1 : List Str := ["_law_odd_cell", "_law_many", "_law_levels"]
def looseN : List Str := loose0 ++ loose1
end JF

/-! ### the head's run, early in the text, in three parts: it wants much room; with tables of code objects -/
namespace JF
open PySem PySem.Spec PyProof.Rows L2
abbrev Rr : PySem.W.OpenRow := PySem.W.OpenLaw.row PySem.Challenge.rw_jumpfield_k26_fields_refused
def hk : PySem.W.Hook := He.hookX 4 fa fn [] tfs tbB
def ob (s : PySem.W.SharedT) : hk.α := He.obsX 4 fa fn [] tfs tbB (HandSHeadRun.getT s)
theorem ob_eq (s : PySem.W.SharedT) : ob s = hk.obs s.abs := He.obsX_eq (HandSHeadRun.getT_eq s)
def hk0 : PySem.W.Hook where
  α := Unit
  obs := fun _ => ()
  val := fun _ => ()
  says := fun _ _ => True
  of := fun _ _ _ => trivial
  keeps := fun _ _ _ _ _ => trivial
def ob0 (_ : PySem.W.SharedT) : hk0.α := ()
def nA : Nat := fa.length / 2
def mA : Nat := fn.length / 2
def KK (g : Addr → Option Obj) : PySem.W.Frag := He.frT g (He.asD g 4)
def obsA (g : Addr → Option Obj) : Bool × He.AlD := (tbB (KK g) && He.tabsB g tfs (KK g), He.obsD (fa.take nA) (fn.take mA) (KK g))
def obsB (g : Addr → Option Obj) : He.AlD := He.obsD (fa.drop nA) (fn.drop mA) (KK g)
theorem obs_join {g : Addr → Option Obj} {w : World} (hA : obsA g = (true, He.valD (fn.take mA))) (hB : obsB g = He.valD (fn.drop mA)) : He.obsX 4 fa fn [] tfs tbB g = He.valX fn [] w := by
  unfold obsA at hA
  rw [Prod.mk.injEq] at hA
  obtain ⟨h1, h2⟩ := hA
  unfold He.obsD He.valD at h2
  unfold obsB He.obsD He.valD at hB
  rw [Prod.mk.injEq, Bool.and_eq_true] at h2 hB
  obtain ⟨⟨a1, a2⟩, a3⟩ := h2
  obtain ⟨⟨b1, b2⟩, b3⟩ := hB
  have hD : He.obsD fa fn (KK g) = He.valD fn := by
    unfold He.obsD He.valD
    rw [Prod.mk.injEq, Bool.and_eq_true]
    refine ⟨⟨?_, ?_⟩, ?_⟩
    · rw [← List.take_append_drop nA fa, List.all_append, a1, b1]; rfl
    · rw [← List.take_append_drop mA fn, List.all_append, a2, b2]; rfl
    · rw [← List.take_append_drop mA fn, List.map_append, List.map_append, a3, b3]
  show ((He.obsD fa fn (KK g), _), tbB (KK g) && He.tabsB g tfs (KK g)) = ((He.valD fn, _), true)
  rw [h1, hD]
  rfl
noncomputable abbrev endS (w : World) (os : OsState) := HandSHeadRun.endF (HandSHeadRun.stepQ (HandSHeadRun.denQ HandSHeadRun.tabQ) Rr.prog w) 100000 Rr.prog w os
theorem run0 (w : World) : HandSHeadRun.RunEq Rr (PySem.W.view Rr.prog [39]) hk0 ob0 100000 looseN w := by
  intro os
  kernel_rfl
theorem runA (w : World) (os : OsState) : (endS w os).map (fun s => obsA (HandSHeadRun.getT s)) = some (true, He.valD (fn.take mA)) := by kernel_rfl
theorem runB (w : World) (os : OsState) : (endS w os).map (fun s => obsB (HandSHeadRun.getT s)) = some (He.valD (fn.drop mA)) := by kernel_rfl
theorem run (w : World) : HandSHeadRun.RunEq Rr (PySem.W.view Rr.prog [39]) hk ob 100000 looseN w := by
  intro os
  have h0 := run0 w os
  have hA := runA w os
  have hB := runB w os
  unfold endS at hA hB
  generalize HandSHeadRun.endF (HandSHeadRun.stepQ (HandSHeadRun.denQ HandSHeadRun.tabQ) Rr.prog w) 100000 Rr.prog w os = x at h0 hA hB ⊢
  cases x with
  | none => cases h0
  | some s =>
    rw [Option.map_some, Option.some.injEq] at h0 hA hB ⊢
    rw [Prod.mk.injEq, Prod.mk.injEq] at h0 ⊢
    exact ⟨h0.1, h0.2.1, obs_join hA hB⟩
end JF

/-! ### readings step by step: a rule for each construct, tried by «walk_at "rd"» -/
namespace JF
open PySem PySem.Spec PyProof.Rows L2
section
variable {D : Ends} {σ : L2.St} {H : Hp} {Q : VK} {QB : Bool → Hp → Prop} {QA : List V → Hp → Prop} {t u : TS} {te ta tb tc : TE} {g : TG} {c c' : TT} {v : V} {i : Nat} {K : PySem.W.Frag}
theorem rd_seq (h : t { D with nx := u D } σ H) : tSeq t u D σ H := h
/-- the walk halts ahead of a loop -/
def Halt (p : Prop) : Prop := p
theorem rd_seqF {wi : TI} (h : Halt (tSeq (tFor wi g t) u D σ H)) : tSeq (tFor wi g t) u D σ H := h
theorem rd_seqW (h : Halt (tSeq (tWhile c t) u D σ H)) : tSeq (tWhile c t) u D σ H := h
theorem rd_seqI {t' : TS} (h : Halt (tSeq (tIfS c t t') u D σ H)) : tSeq (tIfS c t t') u D σ H := h
theorem rd_next (h : D.nx σ H) : tNext D σ H := h
theorem rd_asg (h : te σ H fun x H1 => g x σ H1 D.nx) : tAsg te g D σ H := h
theorem rd_gname {R : L2.St → Hp → Prop} (h : R (σ.set i (some v)) H) : gName i v σ H R := h
theorem rd_ret (h : te σ H D.rt) : tRet te D σ H := h
theorem rd_retN (h : D.rt .non H) : tRetN D σ H := h
theorem rd_drop (h : te σ H fun _ H1 => D.nx σ H1) : tDrop te D σ H := h
theorem rd_if (h : c σ H fun b H1 => if b = true then t D σ H1 else u D σ H1) : tIfS c t u D σ H := h
theorem rd_ifE (h : c σ H fun b H1 => if b = true then ta σ H1 Q else tb σ H1 Q) : tIf c ta tb σ H Q := h
theorem rd_brk (h : D.bk σ H) : tBreak D σ H := h
theorem rd_cont (h : D.ct σ H) : tCont D σ H := h
theorem rd_var (h : σ[i]? = some (some v)) (q : Q v H) : tVar i σ H Q := ⟨v, h, q⟩
theorem rd_c (q : Q v H) : tC v σ H Q := q
theorem rd_op {r : R2} (h : ta σ H fun x H1 => tb σ H1 fun y H2 => r x y H2 Q) : tOp r ta tb σ H Q := h
theorem rd_un {r : V → Hp → VK → Prop} (h : ta σ H fun x H1 => r x H1 Q) : tUn r ta σ H Q := h
theorem rd_I0 {f : Int → Int → V} {a b : Int} (q : Q (f a b) H) : rI0 f (.int a) (.int b) H Q := ⟨a, b, rfl, rfl, q⟩
theorem rd_U {f : Int → V} {a : Int} (q : Q (f a) H) : rU f (.int a) H Q := ⟨a, rfl, q⟩
theorem rd_test (h : te σ H fun x H' => ∃ k, x = .bl k ∧ QB k H') : tTest te σ H QB := h
theorem rd_B (h : te σ H fun x H' => ∃ k, x = .bl k ∧ QB k H') : tB te σ H QB := h
theorem rd_bl {b : Bool} {R : Bool → Prop} (q : R b) : ∃ k, V.bl b = .bl k ∧ R k := ⟨b, rfl, q⟩
theorem iteT' {A B : Prop} (h : A) : if true = true then A else B := iteT h
theorem iteF' {A B : Prop} (h : B) : if false = true then A else B := iteF h
theorem iteNT {A B : Prop} (h : B) : if (!true) = true then A else B := iteF h
theorem iteNF {A B : Prop} (h : A) : if (!false) = true then A else B := iteT h
theorem rd_for {wi : TI} (h : wi σ H fun J H1 => ∃ W : Nat → Nat → L2.St → Hp → Prop, (∃ m, W 0 m σ H1) ∧ ∀ i m σ H, W i m σ H →
  (J.stop i H ∧ D.nx σ H) ∨ (J.go i H ∧ ∃ N : L2.St → Hp → Prop, (∀ σ' H', N σ' H' → ∃ m', m' < m ∧ W (i + 1) m' σ' H') ∧ ∀ x H', J.yld i H x H' → g x σ H' fun σ2 H2 => t { D with nx := N, ct := N, bk := D.nx } σ2 H2)) : tFor wi g t D σ H := h
theorem rd_and (h : c σ H fun b H1 => if b = true then c' σ H1 QB else QB false H1) : tAnd c c' σ H QB := h
theorem rd_or (h : c σ H fun b H1 => if b = true then QB true H1 else c' σ H1 QB) : tOr c c' σ H QB := h
theorem rd_not (h : c σ H fun b H1 => QB (!b) H1) : tNot c σ H QB := h
theorem rd_andV (h : ta σ H fun x H1 => ∃ k, x = .bl k ∧ if k = true then tb σ H1 Q else Q (.bl false) H1) : tAndV ta tb σ H Q := h
theorem rd_orV (h : ta σ H fun x H1 => ∃ k, x = .bl k ∧ if k = true then Q (.bl true) H1 else tb σ H1 Q) : tOrV ta tb σ H Q := h
theorem rd_notV (h : ta σ H fun x H1 => ∃ k, x = .bl k ∧ Q (.bl (!k)) H1) : tNotV ta σ H Q := h
theorem rd_eqI {a b : Int} (q : Q (.bl (decide (a = b))) H) : rEq (.int a) (.int b) H Q := ⟨rfl, by
  have e : decide (V.int a = V.int b) = decide (a = b) := by by_cases z : a = b <;> simp [z]
  rw [e]; exact q⟩
theorem rd_neI {a b : Int} (q : Q (.bl (!decide (a = b))) H) : rNe (.int a) (.int b) H Q := ⟨rfl, by
  have e : decide (V.int a = V.int b) = decide (a = b) := by by_cases z : a = b <;> simp [z]
  rw [e]; exact q⟩
theorem rd_eqS {a b : Str} (q : Q (.bl (decide (a = b))) H) : rEq (.str a) (.str b) H Q := ⟨rfl, by
  have e : decide (V.str a = V.str b) = decide (a = b) := by by_cases z : a = b <;> simp [z]
  rw [e]; exact q⟩
theorem rd_neS {a b : Str} (q : Q (.bl (!decide (a = b))) H) : rNe (.str a) (.str b) H Q := ⟨rfl, by
  have e : decide (V.str a = V.str b) = decide (a = b) := by by_cases z : a = b <;> simp [z]
  rw [e]; exact q⟩
theorem rd_nil (q : QA [] H) : tNil σ H QA := q
theorem rd_cons {tr : TA} (h : ta σ H fun x H1 => tr σ H1 fun xs H2 => QA (x :: xs) H2) : tCons ta tr σ H QA := h
theorem rd_call {sp : Sp} {dvs : List V} {E : XK} {tr : TA} (h : tr σ H fun vs H1 => sp (vs ++ dvs) H1 Q E) : tCall sp dvs E tr σ H Q := h
theorem rd_CB {r : List V → Hp → VK → Prop} {tr : TA} (h : tr σ H fun vs H1 => r vs H1 Q) : tCB r tr σ H Q := h
theorem rd_meth {C : Addr} {m : Str} {sp : Sp} {dvs : List V} {E : XK} {tr : TA} (h : ta σ H fun x H1 => ∃ a dx fs, x = .ref a ∧ H1 a = some (.ins C dx fs) ∧ fs.lookup m = none ∧ tr σ H1 fun vs H2 => sp (x :: (vs ++ dvs)) H2 Q E) : tMeth C m sp dvs E ta tr σ H Q := h
theorem rd_methR {a dx : Addr} {fs : List (Str × V)} {C : Addr} {m : Str} {R : Prop} (h1 : H a = some (.ins C dx fs)) (h2 : fs.lookup m = none) (q : R) : ∃ a' dx fs, V.ref a = .ref a' ∧ H a' = some (.ins C dx fs) ∧ fs.lookup m = none ∧ R := ⟨a, dx, fs, rfl, h1, h2, q⟩
theorem rd_fld {f : Str} (h : ta σ H fun x H1 => ∃ a C dx fs v, x = .ref a ∧ H1 a = some (.ins C dx fs) ∧ Cls K C ∧ NoAttr K C f ∧ fs.lookup f = some v ∧ Q v H1) : tFld K ta f σ H Q := h
theorem rd_fldR {a C dx : Addr} {fs : List (Str × V)} {f : Str} {R : V → Prop} (h1 : H a = some (.ins C dx fs)) (h2 : Cls K C) (h3 : NoAttr K C f) (h4 : fs.lookup f = some v) (q : R v) : ∃ a' C dx fs v, V.ref a = .ref a' ∧ H a' = some (.ins C dx fs) ∧ Cls K C ∧ NoAttr K C f ∧ fs.lookup f = some v ∧ R v := ⟨a, C, dx, fs, v, rfl, h1, h2, h3, h4, q⟩
theorem rd_chain {r r' : R2} (h : ta σ H fun x H1 => tb σ H1 fun y H2 => r x y H2 fun z H3 => ∃ k, z = .bl k ∧ (if k = true then tc σ H3 fun w' H4 => r' y w' H4 Q else Q (.bl false) H3)) : tChain r r' ta tb tc σ H Q := h
theorem rd_tup {tr : TA} (h : tr σ H fun xs H1 => xs.length ≤ sizeLine ∧ ∀ p, H1 p = none → Q (.ref p) (upd H1 p (.tup xs))) : tTup tr σ H Q := h
theorem rd_lst {tr : TA} (h : tr σ H fun xs H1 => xs.length ≤ sizeLine ∧ ∀ p, H1 p = none → Q (.ref p) (upd H1 p (.lst xs))) : tLst tr σ H Q := h
theorem rd_new {n : Nat} {R : Addr → Prop} (hn : n ≤ sizeLine := by (first | (show _ ≤ sizeLine; decide) | omega)) (h : ∀ p, H p = none → R p) : n ≤ sizeLine ∧ ∀ p, H p = none → R p := ⟨hn, h⟩
theorem rd_bm {T : String} {r : V → List V → Hp → VK → Prop} {tr : TA} (h : ta σ H fun x H1 => tyV K T x H1 ∧ tr σ H1 fun xs H2 => r x xs H2 Q) : tBM K T r ta tr σ H Q := h
theorem rd_bm0 {T : String} {r : V → List V → Hp → VK → Prop} (h : ta σ H fun x H1 => tyV K T x H1 ∧ r x [] H1 Q) : tBM0 K T r ta σ H Q := h
theorem rd_ixL {p : Addr} {xs : List V} {k : Int} (h1 : SqL K H p xs) (h2 : atI xs k = some v) (q : Q v H) : rIxL K (.ref p) (.int k) H Q := ⟨p, xs, k, v, rfl, rfl, h1, h2, q⟩
theorem rd_ixT {p : Addr} {xs : List V} {k : Int} (h1 : SqT K H p xs) (h2 : atI xs k = some v) (q : Q v H) : rIxT K (.ref p) (.int k) H Q := ⟨p, xs, k, v, rfl, rfl, h1, h2, q⟩
theorem rd_tyL {l : Addr} {xs : List V} {R : Prop} (h1 : H l = some (.lst xs)) (q : R) : tyV K "list" (.ref l) H ∧ R := ⟨Or.inl ⟨rfl, _, Or.inl (Or.inl h1)⟩, q⟩
theorem rd_append {l : Addr} {xs : List V} {y : V} (h1 : H l = some (.lst xs)) (h2 : xs.length < sizeLine) (q : Q .non (upd H l (.lst (xs ++ [y])))) : rAppend (.ref l) [y] H Q :=
  ⟨l, xs, y, rfl, rfl, h1, h2, q⟩
theorem rd_dget {td ty : TE} (h : td σ H fun x H1 => ty σ H1 fun y H2 => ∃ a v, x = .ref a ∧ DGet H2 a y (some v) ∧ Q v H2) : tDGet td ty σ H Q := h
theorem rd_din {td ty : TE} (h : ty σ H fun y H1 => td σ H1 fun x H2 => ∃ a o, x = .ref a ∧ DGet H2 a y o ∧ Q (.bl o.isSome) H2) : tDIn ty td σ H Q := h
theorem rd_dput {td ty tv : TE} (h : tv σ H fun v H1 => td σ H1 fun x H2 => ty σ H2 fun y H3 => ∃ a H4, x = .ref a ∧ DPut H3 a y v H4 ∧ D.nx σ H4) : sDPut td ty tv D σ H := h
theorem rd_2I {a b : Int} {R : Int → Int → Prop} (h : R a b) : ∃ i j, [V.int a, V.int b] = [V.int i, V.int j] ∧ R i j := ⟨a, b, rfl, h⟩
theorem rd_I {C : Int → Int → Prop} {f : Int → Int → V} {a b : Int} (hc : C a b) (q : Q (f a b) H) : rI C f (.int a) (.int b) H Q := ⟨a, b, rfl, rfl, hc, q⟩
theorem rd_mod {f : Int → Int → V} {a b : Int} (hc : 0 < b) (q : Q (f a b) H) : rI (fun _ j => 0 < j) f (.int a) (.int b) H Q := ⟨a, b, rfl, rfl, hc, q⟩
theorem rd_fdiv {f : Int → Int → V} {a b : Int} (h1 : 0 < b) (h2 : b < 2 ^ 100) (q : Q (f a b) H) : rI CDivW f (.int a) (.int b) H Q :=
  ⟨a, b, rfl, rfl, wide_div h1 (b := 100) (by have h3 : (b.natAbs : Int) = b := by omega
                                              have h4 : (b.natAbs : Int) < ((2 ^ 100 : Nat) : Int) := by rw [h3]; exact h2
                                              exact Int.ofNat_lt.mp h4) (by decide) (by decide), q⟩
theorem mulW_of {a b : Int} (h1 : -(2 ^ 2000) < a) (h2 : a < 2 ^ 2000) (h3 : -(2 ^ 2000) < b) (h4 : b < 2 ^ 2000) : CMulW a b := by
  have e : ∀ x : Int, -(2 ^ 2000) < x → x < 2 ^ 2000 → x.natAbs < 2 ^ 2000 := fun x p q => by
    have e1 : ((2 ^ 2000 : Nat) : Int) = (2 : Int) ^ 2000 := by norm_cast
    have h : (x.natAbs : Int) < ((2 ^ 2000 : Nat) : Int) := by rw [e1]; omega
    exact Int.ofNat_lt.mp h
  exact wide_mul (e a h1 h2) (e b h3 h4) (by decide) (by decide) (by decide)
theorem rd_nn {R : Prop} (h : R) : V.non = V.non ∧ R := ⟨rfl, h⟩
theorem rd_len {p : Addr} {ys : List V} {R : List V → Prop} (h : SqL K H p ys) (q : R ys) : ∃ p' ys, [V.ref p] = [V.ref p'] ∧ (SqL K H p' ys ∨ SqT K H p' ys) ∧ R ys := ⟨p, ys, rfl, .inl h, q⟩
theorem rd_lenT {p : Addr} {ys : List V} {R : List V → Prop} (h : SqT K H p ys) (q : R ys) : ∃ p' ys, [V.ref p] = [V.ref p'] ∧ (SqL K H p' ys ∨ SqT K H p' ys) ∧ R ys := ⟨p, ys, rfl, .inr h, q⟩
theorem rd_iE {tr : TA} {R : It → Hp → Prop} (h : tr σ H fun vs H1 => ∃ a xs, vs = [.ref a] ∧ SqL K H1 a xs ∧ R (Ite K a) H1) : iEnum K tr σ H R := h
theorem rd_iL {R : It → Hp → Prop} (h : te σ H fun x H1 => ∃ a, x = .ref a ∧ (∃ xs, SqL K H1 a xs) ∧ R (Itl K a) H1) : iList K te σ H R := h
theorem rd_iT {R : It → Hp → Prop} (h : te σ H fun x H1 => ∃ a, x = .ref a ∧ (∃ xs, SqT K H1 a xs) ∧ R (Itt K a) H1) : iTup K te σ H R := h
theorem rd_iR1 {tr : TA} {R : It → Hp → Prop} (h : tr σ H fun vs H1 => ∃ j : Int, vs = [.int j] ∧ -(2 ^ 62) ≤ j ∧ j < 2 ^ 62 ∧ R (Itr 0 j.toNat) H1) : iRng1 tr σ H R := h
theorem rd_iR2 {tr : TA} {R : It → Hp → Prop} (h : tr σ H fun vs H1 => ∃ i j : Int, vs = [.int i, .int j] ∧ (-(2 ^ 62) ≤ i ∧ i < 2 ^ 62 ∧ -(2 ^ 62) ≤ j ∧ j < 2 ^ 62) ∧ R (Itr i (j - i).toNat) H1) : iRng2 tr σ H R := h
theorem rd_iR3 {tr : TA} {R : It → Hp → Prop} (h : tr σ H fun vs H1 => ∃ (i j c : Int) (n : Nat), vs = [.int i, .int j, .int c] ∧ RgC i j c n ∧ R (Itc i c n) H1) : iRng3 tr σ H R := h
theorem rd_iS {R : It → Hp → Prop} (h : te σ H fun v H1 => ∃ x, v = .str x ∧ R (Its x) H1) : iStr te σ H R := h
theorem rd_iZ {tr : TA} {R : It → Hp → Prop} (h : tr σ H fun vs H1 => ∃ a b xs ys, vs = [.ref a, .ref b] ∧ SqL K H1 a xs ∧ SqL K H1 b ys ∧ R (Itz K a b) H1) : iZip K tr σ H R := h
theorem rd_sl {r : V → Option Int → Option Int → Hp → VK → Prop} {tl th : TO} (h : te σ H fun x H1 => tl σ H1 fun l H2 => th σ H2 fun u H3 => r x l u H3 Q) : tSl r te tl th σ H Q := h
theorem rd_np {R : Option Int → Hp → Prop} (h : R none H) : tNoPart σ H R := h
theorem rd_pt {R : Option Int → Hp → Prop} (h : te σ H fun x H1 => ∃ i, x = .int i ∧ R (some i) H1) : tPart te σ H R := h
theorem rd_int {a : Int} {R : Int → Prop} (h : R a) : ∃ i, V.int a = .int i ∧ R i := ⟨a, rfl, h⟩
theorem rd_gtup {n : Nat} {tt : TGs} {a : Addr} {xs : List V} {R : L2.St → Hp → Prop} (h1 : SqT K H a xs) (h2 : xs.length = n) (q : tt xs σ H R) : gTup K n tt (.ref a) σ H R := ⟨a, xs, rfl, h1, h2, q⟩
theorem rd_gcons {tt : TGs} {r : List V} {R : L2.St → Hp → Prop} (q : g v σ H fun σ' H' => tt r σ' H' R) : gCons g tt (v :: r) σ H R := ⟨v, r, rfl, q⟩
theorem rd_gsub {to ti : TE} {ts : TSet} {R : L2.St → Hp → Prop} (h : to σ H fun o H1 => ti σ H1 fun i H2 => ts o i v H2 fun H3 => R σ H3) : gSub to ti ts v σ H R := h
theorem rd_gnil {R : L2.St → Hp → Prop} (q : R σ H) : gNil [] σ H R := ⟨rfl, q⟩
theorem rd_lc {wi : TI} {vs : List Nat} (h : wi σ H fun J H1 => ∀ D, H1 D = none → ∃ W : Nat → Nat → Hp → Prop, (∃ m, W 0 m (upd H1 D (.lst []))) ∧ ∀ i m H, W i m H →
  (J.stop i H ∧ Q (.ref D) H) ∨ (J.go i H ∧ ∃ Nx : Hp → Prop, (∀ H', Nx H' → ∃ m', m' < m ∧ W (i + 1) m' H') ∧ ∀ x H', J.yld i H x H' → g x (wipe σ vs) H' fun σ2 H2 => wipe σ2 vs = wipe σ vs ∧ c σ2 H2 fun b H3 =>
    if b = true then te σ2 H3 fun y H4 => ∃ acc, H4 D = some (.lst acc) ∧ acc.length < sizeLine ∧ Nx (upd H4 D (.lst (acc ++ [y]))) else Nx H3)) : tLc wi g c te vs σ H Q := h
theorem rd_yes (h : QB true H) : tYes σ H QB := h
theorem rd_dsetd {td ty tx : TE} (h : td σ H fun x H1 => ∃ a, x = .ref a ∧ IsD H1 a ∧ ty σ H1 fun y H2 => tx σ H2 fun z H3 => ∃ (kvs : List (Key × V)) (k : Key), H3 a = some (.dK kvs) ∧ y = kV k ∧ kvs.length < sizeLine ∧
  (∀ v, valV kvs k = some v → Q v H3) ∧ (valV kvs k = none → Q z (upd H3 a (.dK (putK kvs k z))))) : tDSetd td ty tx σ H Q := h
theorem rd_isD {a : Addr} {kvs : List (Key × V)} {R : Addr → Prop} (h : H a = some (.dK kvs)) (q : R a) : ∃ b, V.ref a = .ref b ∧ IsD H b ∧ R b := ⟨a, rfl, .inl ⟨kvs, .inl h⟩, q⟩
theorem rd_fldS {ta tv : TE} {f : Str} (h : tv σ H fun y H1 => ta σ H1 fun x H2 => ∃ a C dx fs, x = .ref a ∧ H2 a = some (.ins C dx fs) ∧ Cls K C ∧ NoAttr K C f ∧ fs.length < 1000 ∧ D.nx σ (upd H2 a (.ins C dx (putF f y fs)))) : sFld K ta tv f D σ H := h
theorem rd_newK {R : Addr → Prop} (h : ∀ p, H p = none → R p) : ∀ p, H p = none → R p := h
theorem dp_ints {ns : List Int} : DpAll K H (ns.map V.int) (ns.map PyData.int) := by
  induction ns with
  | nil => exact .nil
  | cons n r ih => exact .cons (.int n) ih
theorem rd_eqDI {p p' : Addr} {ns ms : List Int} (h1 : SqL K H p (ns.map V.int)) (h2 : SqL K H p' (ms.map V.int)) (s1 : SeqAt.shaped (.list (ns.map PyData.int)) = true) (s2 : SeqAt.shaped (.list (ms.map PyData.int)) = true)
    (q : Q (.bl (PyData.eqv (.list (ns.map PyData.int)) (.list (ms.map PyData.int)))) H) : rEqD K (.ref p) (.ref p') H Q := ⟨_, _, .lst h1 dp_ints, .lst h2 dp_ints, s1, s2, q⟩
theorem rd_neDI {p p' : Addr} {ns ms : List Int} (h1 : SqL K H p (ns.map V.int)) (h2 : SqL K H p' (ms.map V.int)) (s1 : SeqAt.shaped (.list (ns.map PyData.int)) = true) (s2 : SeqAt.shaped (.list (ms.map PyData.int)) = true)
    (q : Q (.bl (!PyData.eqv (.list (ns.map PyData.int)) (.list (ms.map PyData.int)))) H) : rNeD K (.ref p) (.ref p') H Q := ⟨_, _, .lst h1 dp_ints, .lst h2 dp_ints, s1, s2, q⟩
theorem rd_rep {l : Addr} {k : Int} {xs : List V} (h1 : H l = some (.lst xs)) (h2 : -(2 ^ 63) ≤ k) (h3 : k < 2 ^ 63) (h4 : xs.length * k.toNat ≤ sizeLine) (q : ∀ p, H p = none → Q (.ref p) (upd H p (.lst (List.replicate k.toNat xs).flatten))) : rRep (.ref l) (.int k) H Q :=
  ⟨l, k, xs, rfl, rfl, h1, h2, h3, h4, q⟩
theorem ite_d {p : Prop} [Decidable p] {A B : Prop} (h1 : p → A) (h2 : ¬ p → B) : if decide p = true then A else B := by
  by_cases h : p
  · rw [decide_eq_true h, if_pos rfl]; exact h1 h
  · rw [decide_eq_false h, if_neg Bool.false_ne_true]; exact h2 h
theorem ite_nd {p : Prop} [Decidable p] {A B : Prop} (h1 : ¬ p → A) (h2 : p → B) : if (!decide p) = true then A else B := by
  by_cases h : p
  · rw [decide_eq_true h]; exact iteF (h2 h)
  · rw [decide_eq_false h]; exact iteT (h1 h)
theorem ite_b {b : Bool} {A B : Prop} (h1 : b = true → A) (h2 : b = false → B) : if b = true then A else B := by
  cases b
  · exact iteF (h2 rfl)
  · exact iteT (h1 rfl)
theorem ite_nb {b : Bool} {A B : Prop} (h1 : b = false → A) (h2 : b = true → B) : if (!b) = true then A else B := by
  cases b
  · exact iteT (h1 rfl)
  · exact iteF (h2 rfl)
end
end JF

local macro_rules | `(tactic| walk_at "rs1") => `(tactic| first
  | with_reducible refine JF.rd_seq ?_ | with_reducible refine JF.rd_asg ?_ | with_reducible refine JF.rd_gname ?_
  | with_reducible refine JF.rd_var rfl ?_ | with_reducible refine JF.rd_c ?_ | with_reducible refine JF.rd_op ?_ | with_reducible refine JF.rd_I0 ?_
  | with_reducible refine JF.rd_if ?_ | with_reducible refine JF.rd_test ?_ | with_reducible refine JF.rd_bl ?_
  | with_reducible refine JF.rd_eqI ?_ | with_reducible refine JF.rd_neI ?_ | with_reducible refine JF.rd_eqS ?_ | with_reducible refine JF.rd_neS ?_
  | with_reducible refine JF.rd_cons ?_ | with_reducible refine JF.rd_nil ?_ | with_reducible refine JF.rd_call ?_ | with_reducible refine JF.rd_meth ?_ | with_reducible refine JF.rd_fld ?_ | with_reducible refine JF.rd_CB ?_
  | with_reducible refine JF.rd_ret ?_ | with_reducible refine JF.rd_drop ?_ | with_reducible refine JF.rd_next ?_ | with_reducible refine JF.rd_and ?_ | with_reducible refine JF.rd_or ?_ | with_reducible refine JF.rd_not ?_
  | with_reducible refine JF.rd_andV ?_ | with_reducible refine JF.rd_orV ?_ | with_reducible refine JF.rd_notV ?_ | with_reducible refine JF.rd_B ?_ | with_reducible refine JF.rd_un ?_ | with_reducible refine JF.rd_U ?_
  | with_reducible refine JF.rd_chain ?_ | with_reducible refine JF.rd_tup ?_ | with_reducible refine JF.rd_lst ?_ | with_reducible refine JF.rd_bm ?_ | with_reducible refine JF.rd_bm0 ?_
  | with_reducible refine JF.rd_dget ?_ | with_reducible refine JF.rd_din ?_ | with_reducible refine JF.rd_dput ?_ | with_reducible refine JF.rd_ifE ?_ | with_reducible refine JF.rd_retN ?_ | with_reducible refine JF.rd_brk ?_ | with_reducible refine JF.rd_cont ?_
  | with_reducible refine JF.iteT' ?_ | with_reducible refine JF.iteF' ?_ | with_reducible refine JF.iteNT ?_ | with_reducible refine JF.iteNF ?_ | ((with_reducible refine' JF.rd_fldR ?h1 ?h2 ?h3 ?h4 ?q); (case h1 => assumption); (case h2 => assumption); (case h3 => assumption); (case h4 => exact rfl))
  | with_reducible refine JF.rd_dsetd ?_ | with_reducible refine JF.rd_fldS ?_
  | with_reducible refine JF.rd_yes ?_ | with_reducible refine JF.rd_iE ?_ | with_reducible refine JF.rd_iL ?_ | with_reducible refine JF.rd_iT ?_ | with_reducible refine JF.rd_iR1 ?_ | with_reducible refine JF.rd_iR2 ?_ | with_reducible refine JF.rd_iR3 ?_ | with_reducible refine JF.rd_iS ?_ | with_reducible refine JF.rd_iZ ?_ | with_reducible refine JF.rd_sl ?_ | with_reducible refine JF.rd_np ?_ | with_reducible refine JF.rd_pt ?_ | with_reducible refine JF.rd_int ?_
  | ((with_reducible refine' JF.rd_gtup ?h1 ?h2 ?q); (case h1 => exact L2.SqT.of (by assumption)); (case h2 => exact rfl)) | with_reducible refine JF.rd_gcons ?_ | with_reducible refine JF.rd_gnil ?_ | with_reducible refine JF.rd_gsub ?_
  | with_reducible refine JF.rd_2I ?_ | ((with_reducible refine' JF.rd_ixT ?h1 ?h2 ?q); (case h1 => exact L2.SqT.of (by assumption)); (case h2 => exact rfl)) | ((with_reducible refine JF.rd_mod ?_ ?_); · decide) | ((with_reducible refine JF.rd_fdiv ?h1 ?h2 ?_); (case h1 => decide); (case h2 => decide)) | with_reducible refine JF.rd_nn ?_)
local macro_rules | `(tactic| walk_at "rd1") => `(tactic| first | walk_at "rs1" | with_reducible refine JF.rd_for ?_ | with_reducible refine JF.rd_lc ?_)
local macro_rules | `(tactic| walk_at "rh") => `(tactic| repeat (first | with_reducible refine JF.rd_seqF ?_ | with_reducible refine JF.rd_seqW ?_ | walk_at "rs1"))
local macro_rules | `(tactic| walk_at "rhi") => `(tactic| repeat (first | with_reducible refine JF.rd_seqF ?_ | with_reducible refine JF.rd_seqW ?_ | with_reducible refine JF.rd_seqI ?_ | walk_at "rs1"))
local macro_rules | `(tactic| walk_at "rs") => `(tactic| repeat walk_at "rs1")
local macro_rules | `(tactic| walk_at "rd") => `(tactic| repeat walk_at "rd1")
local macro_rules | `(tactic| walk_at "ne") => `(tactic| first | assumption | (apply Ne.symm; assumption))
local macro_rules | `(tactic| walk_at "hp") => `(tactic| first | assumption | exact L2.upd_same | ((with_reducible refine (L2.upd_ne ?h1).trans ?h2); (case h1 => walk_at "ne"); (case h2 => walk_at "hp")))

/-! ### readings are monotone in what is wanted; a cut between two statements -/
namespace JF
open PySem PySem.Spec PyProof.Rows L2
def MonE (t : TE) : Prop := ∀ σ H (Q Q' : VK), (∀ v H, Q v H → Q' v H) → t σ H Q → t σ H Q'
def MonT (t : TT) : Prop := ∀ σ H (Q Q' : Bool → Hp → Prop), (∀ v H, Q v H → Q' v H) → t σ H Q → t σ H Q'
def MonA (t : TA) : Prop := ∀ σ H (Q Q' : List V → Hp → Prop), (∀ v H, Q v H → Q' v H) → t σ H Q → t σ H Q'
def MonO (t : TO) : Prop := ∀ σ H (Q Q' : Option Int → Hp → Prop), (∀ v H, Q v H → Q' v H) → t σ H Q → t σ H Q'
def MonR (r : R2) : Prop := ∀ x y H (Q Q' : VK), (∀ v H, Q v H → Q' v H) → r x y H Q → r x y H Q'
def MonU (r : V → Hp → VK → Prop) : Prop := ∀ x H (Q Q' : VK), (∀ v H, Q v H → Q' v H) → r x H Q → r x H Q'
def MonC (r : List V → Hp → VK → Prop) : Prop := ∀ x H (Q Q' : VK), (∀ v H, Q v H → Q' v H) → r x H Q → r x H Q'
def MonM (r : V → List V → Hp → VK → Prop) : Prop := ∀ x y H (Q Q' : VK), (∀ v H, Q v H → Q' v H) → r x y H Q → r x y H Q'
def MonL (r : V → Option Int → Option Int → Hp → VK → Prop) : Prop := ∀ x y z H (Q Q' : VK), (∀ v H, Q v H → Q' v H) → r x y z H Q → r x y z H Q'
def MonG (g : TG) : Prop := ∀ v σ H (Q Q' : L2.St → Hp → Prop), (∀ σ H, Q σ H → Q' σ H) → g v σ H Q → g v σ H Q'
def MonGs (g : TGs) : Prop := ∀ v σ H (Q Q' : L2.St → Hp → Prop), (∀ σ H, Q σ H → Q' σ H) → g v σ H Q → g v σ H Q'
def MonI (t : TI) : Prop := ∀ σ H (Q Q' : It → Hp → Prop), (∀ v H, Q v H → Q' v H) → t σ H Q → t σ H Q'
def MonP (sp : Sp) : Prop := ∀ vs H (Q Q' : VK) E, (∀ v H, Q v H → Q' v H) → sp vs H Q E → sp vs H Q' E
def EndsLe (D D' : Ends) : Prop := (∀ σ H, D.nx σ H → D'.nx σ H) ∧ (∀ v H, D.rt v H → D'.rt v H) ∧ (∀ σ H, D.bk σ H → D'.bk σ H) ∧ (∀ σ H, D.ct σ H → D'.ct σ H)
def MonS (t : TS) : Prop := ∀ D D' σ H, EndsLe D D' → t D σ H → t D' σ H
section
variable {t u : TS} {te ta tb tc : TE} {c c' : TT} {g : TG} {gs : TGs} {tr : TA} {r r' : R2} {wi : TI}
/-- THE CUT: P holds between both -/
theorem rd_cut {D : Ends} {σ : L2.St} {H : Hp} (P : L2.St → Hp → Prop) (m : MonS t) (h1 : t { D with nx := P } σ H) (h2 : ∀ σ H, P σ H → u D σ H) : tSeq t u D σ H :=
  m { D with nx := P } { D with nx := u D } σ H ⟨h2, fun _ _ h => h, fun _ _ h => h, fun _ _ h => h⟩ h1
theorem rd_cutE {σ : L2.St} {H : Hp} {Q : VK} (P : VK) (m : MonE te) (h1 : te σ H P) (h2 : ∀ v H, P v H → Q v H) : te σ H Q := m _ _ _ _ h2 h1
theorem me_var {i : Nat} : MonE (tVar i) := fun σ H Q Q' h ⟨v, e, q⟩ => ⟨v, e, h _ _ q⟩
theorem me_c {v : V} : MonE (tC v) := fun σ H Q Q' h q => h _ _ q
theorem me_op (m : MonR r) (a : MonE ta) (b : MonE tb) : MonE (tOp r ta tb) := fun σ H Q Q' h q => a _ _ _ _ (fun _ _ z => b _ _ _ _ (fun _ _ z' => m _ _ _ _ _ h z') z) q
theorem me_un {r : V → Hp → VK → Prop} (m : MonU r) (a : MonE ta) : MonE (tUn r ta) := fun σ H Q Q' h q => a _ _ _ _ (fun _ _ z => m _ _ _ _ h z) q
theorem me_fld {K : PySem.W.Frag} {f : Str} (a : MonE ta) : MonE (tFld K ta f) := fun σ H Q Q' h q => a _ _ _ _ (fun _ _ ⟨x, C, dx, fs, v, e1, e2, e3, e4, e5, z⟩ => ⟨x, C, dx, fs, v, e1, e2, e3, e4, e5, h _ _ z⟩) q
theorem me_tup (a : MonA tr) : MonE (tTup tr) := fun σ H Q Q' h q => a _ _ _ _ (fun _ _ ⟨l, z⟩ => ⟨l, fun p hp => h _ _ (z p hp)⟩) q
theorem me_lst (a : MonA tr) : MonE (tLst tr) := fun σ H Q Q' h q => a _ _ _ _ (fun _ _ ⟨l, z⟩ => ⟨l, fun p hp => h _ _ (z p hp)⟩) q
theorem me_call {sp : Sp} {dvs : List V} {E : XK} (m : MonP sp) (a : MonA tr) : MonE (tCall sp dvs E tr) := fun σ H Q Q' h q => a _ _ _ _ (fun _ _ z => m _ _ _ _ _ h z) q
theorem me_meth {C : Addr} {n : Str} {sp : Sp} {dvs : List V} {E : XK} (m : MonP sp) (a : MonE ta) (b : MonA tr) : MonE (tMeth C n sp dvs E ta tr) := fun σ H Q Q' h q => a _ _ _ _ (fun _ _ ⟨x, dx, fs, e1, e2, e3, z⟩ => ⟨x, dx, fs, e1, e2, e3, b _ _ _ _ (fun _ _ y => m _ _ _ _ _ h y) z⟩) q
theorem me_cb {r : List V → Hp → VK → Prop} (m : MonC r) (a : MonA tr) : MonE (tCB r tr) := fun σ H Q Q' h q => a _ _ _ _ (fun _ _ z => m _ _ _ _ h z) q
theorem me_bm {K : PySem.W.Frag} {T : String} {r : V → List V → Hp → VK → Prop} (m : MonM r) (a : MonE ta) (b : MonA tr) : MonE (tBM K T r ta tr) := fun σ H Q Q' h q => a _ _ _ _ (fun _ _ ⟨y, z⟩ => ⟨y, b _ _ _ _ (fun _ _ z' => m _ _ _ _ _ h z') z⟩) q
theorem me_bm0 {K : PySem.W.Frag} {T : String} {r : V → List V → Hp → VK → Prop} (m : MonM r) (a : MonE ta) : MonE (tBM0 K T r ta) := fun σ H Q Q' h q => a _ _ _ _ (fun _ _ ⟨y, z⟩ => ⟨y, m _ _ _ _ _ h z⟩) q
theorem me_andV (a : MonE ta) (b : MonE tb) : MonE (tAndV ta tb) := fun σ H Q Q' h q => a _ _ _ _ (fun _ _ ⟨k, e, z⟩ => ⟨k, e, by cases k; exact h _ _ z; exact b _ _ _ _ h z⟩) q
theorem me_orV (a : MonE ta) (b : MonE tb) : MonE (tOrV ta tb) := fun σ H Q Q' h q => a _ _ _ _ (fun _ _ ⟨k, e, z⟩ => ⟨k, e, by cases k; exact b _ _ _ _ h z; exact h _ _ z⟩) q
theorem me_notV (a : MonE ta) : MonE (tNotV ta) := fun σ H Q Q' h q => a _ _ _ _ (fun _ _ ⟨k, e, z⟩ => ⟨k, e, h _ _ z⟩) q
theorem me_if (m : MonT c) (a : MonE ta) (b : MonE tb) : MonE (tIf c ta tb) := fun σ H Q Q' h q => m _ _ _ _ (fun k _ z => by cases k; exact b _ _ _ _ h z; exact a _ _ _ _ h z) q
theorem me_chain (m : MonR r) (m' : MonR r') (a : MonE ta) (b : MonE tb) (d : MonE tc) : MonE (tChain r r' ta tb tc) := fun σ H Q Q' h q =>
  a _ _ _ _ (fun _ _ z => b _ _ _ _ (fun _ _ z' => m _ _ _ _ _ (fun _ _ ⟨k, e, y⟩ => ⟨k, e, by cases k; exact h _ _ y; exact d _ _ _ _ (fun _ _ y' => m' _ _ _ _ _ h y') y⟩) z') z) q
theorem me_sl {rl : V → Option Int → Option Int → Hp → VK → Prop} {tl th : TO} (m : MonL rl) (a : MonE te) (b : MonO tl) (d : MonO th) : MonE (tSl rl te tl th) := fun σ H Q Q' h q => a _ _ _ _ (fun _ _ z => b _ _ _ _ (fun _ _ z => d _ _ _ _ (fun _ _ z => m _ _ _ _ _ _ h z) z) z) q
theorem me_dget {td ty : TE} (a : MonE td) (b : MonE ty) : MonE (tDGet td ty) := fun σ H Q Q' h q => a _ _ _ _ (fun _ _ z => b _ _ _ _ (fun _ _ ⟨x, v, e1, e2, z⟩ => ⟨x, v, e1, e2, h _ _ z⟩) z) q
theorem me_dget2 {td ty tx : TE} (a : MonE td) (b : MonE ty) (d : MonE tx) : MonE (tDGet2 td ty tx) := fun σ H Q Q' h q => a _ _ _ _ (fun _ _ ⟨x, e1, e2, z⟩ => ⟨x, e1, e2, b _ _ _ _ (fun _ _ z => d _ _ _ _ (fun _ _ ⟨o, e3, z⟩ => ⟨o, e3, h _ _ z⟩) z) z⟩) q
theorem me_din {td ty : TE} (a : MonE td) (b : MonE ty) : MonE (tDIn ty td) := fun σ H Q Q' h q => b _ _ _ _ (fun _ _ z => a _ _ _ _ (fun _ _ ⟨x, v, e1, e2, z⟩ => ⟨x, v, e1, e2, h _ _ z⟩) z) q
theorem me_dnotin {td ty : TE} (a : MonE td) (b : MonE ty) : MonE (tDNotIn ty td) := fun σ H Q Q' h q => b _ _ _ _ (fun _ _ z => a _ _ _ _ (fun _ _ ⟨x, v, e1, e2, z⟩ => ⟨x, v, e1, e2, h _ _ z⟩) z) q
theorem me_dsetd {td ty tx : TE} (a : MonE td) (b : MonE ty) (d : MonE tx) : MonE (tDSetd td ty tx) := fun σ H Q Q' h q =>
  a _ _ _ _ (fun _ _ ⟨x, e1, e2, z⟩ => ⟨x, e1, e2, b _ _ _ _ (fun _ _ z => d _ _ _ _ (fun _ _ ⟨kvs, k, e3, e4, e5, z1, z2⟩ => ⟨kvs, k, e3, e4, e5, fun v hv => h _ _ (z1 v hv), fun hv => h _ _ (z2 hv)⟩) z) z⟩) q
theorem mt_test' (a : MonE te) : MonT (tTest te) := fun σ H Q Q' h q => a _ _ _ _ (fun _ _ ⟨k, e, z⟩ => ⟨k, e, h _ _ z⟩) q
theorem mt_B (a : MonE te) : MonT (tB te) := fun σ H Q Q' h q => a _ _ _ _ (fun _ _ ⟨k, e, z⟩ => ⟨k, e, h _ _ z⟩) q
theorem mt_and (a : MonT c) (b : MonT c') : MonT (tAnd c c') := fun σ H Q Q' h q => a _ _ _ _ (fun k _ z => by cases k; exact h _ _ z; exact b _ _ _ _ h z) q
theorem mt_or (a : MonT c) (b : MonT c') : MonT (tOr c c') := fun σ H Q Q' h q => a _ _ _ _ (fun k _ z => by cases k; exact b _ _ _ _ h z; exact h _ _ z) q
theorem mt_not (a : MonT c) : MonT (tNot c) := fun σ H Q Q' h q => a _ _ _ _ (fun k _ z => h _ _ z) q
theorem ma_nil : MonA tNil := fun σ H Q Q' h q => h _ _ q
theorem ma_cons (a : MonE ta) (b : MonA tr) : MonA (tCons ta tr) := fun σ H Q Q' h q => a _ _ _ _ (fun _ _ z => b _ _ _ _ (fun _ _ y => h _ _ y) z) q
theorem mo_none : MonO tNoPart := fun σ H Q Q' h q => h _ _ q
theorem mo_some (a : MonE te) : MonO (tPart te) := fun σ H Q Q' h q => a _ _ _ _ (fun _ _ ⟨i, e, z⟩ => ⟨i, e, h _ _ z⟩) q
theorem mr_I0 {f : Int → Int → V} : MonR (rI0 f) := fun x y H Q Q' h ⟨i, j, a, b, q⟩ => ⟨i, j, a, b, h _ _ q⟩
theorem mr_I {C : Int → Int → Prop} {f : Int → Int → V} : MonR (rI C f) := fun x y H Q Q' h ⟨i, j, a, b, d, q⟩ => ⟨i, j, a, b, d, h _ _ q⟩
theorem mr_eq : MonR rEq := fun x y H Q Q' h ⟨a, q⟩ => ⟨a, h _ _ q⟩
theorem mr_ne : MonR rNe := fun x y H Q Q' h ⟨a, q⟩ => ⟨a, h _ _ q⟩
theorem mr_ixL {K : PySem.W.Frag} : MonR (rIxL K) := fun x y H Q Q' h ⟨p, xs, i, v, a, b, c, d, q⟩ => ⟨p, xs, i, v, a, b, c, d, h _ _ q⟩
theorem mr_ixT {K : PySem.W.Frag} : MonR (rIxT K) := fun x y H Q Q' h ⟨p, xs, i, v, a, b, c, d, q⟩ => ⟨p, xs, i, v, a, b, c, d, h _ _ q⟩
theorem mr_ixS : MonR rIxS := fun x y H Q Q' h ⟨p, xs, i, a, b, c, d, q⟩ => ⟨p, xs, i, a, b, c, d, h _ _ q⟩
theorem mr_cat : MonR rCat := fun x y H Q Q' h ⟨l, b, xs, zs, e1, e2, e3, e4, e5, q⟩ => ⟨l, b, xs, zs, e1, e2, e3, e4, e5, fun p hp => h _ _ (q p hp)⟩
theorem mr_in {K : PySem.W.Frag} {neg : Bool} : MonR (rIn K neg) := fun x y H Q Q' h ⟨p, xs, e1, e2, e3, e4, q⟩ => ⟨p, xs, e1, e2, e3, e4, h _ _ q⟩
theorem mr_isN : MonR (fun x y H Q => y = V.non ∧ Q (.bl (decide (x = .non))) H) := fun x y H Q Q' h ⟨a, q⟩ => ⟨a, h _ _ q⟩
theorem mr_notN : MonR (fun x y H Q => y = V.non ∧ Q (.bl (!decide (x = .non))) H) := fun x y H Q Q' h ⟨a, q⟩ => ⟨a, h _ _ q⟩
theorem mu_U {f : Int → V} : MonU (rU f) := fun x H Q Q' h ⟨i, a, q⟩ => ⟨i, a, h _ _ q⟩
theorem mc_len {K : PySem.W.Frag} : MonC (rLenS K) := fun x H Q Q' h ⟨p, ys, a, b, q⟩ => ⟨p, ys, a, b, h _ _ q⟩
theorem mc_isi {K : PySem.W.Frag} : MonC (rIsi K) := fun x H Q Q' h ⟨x', c, t, u, b, a1, a2, a3, a4, q⟩ => ⟨x', c, t, u, b, a1, a2, a3, a4, h _ _ q⟩
theorem mm_append : MonM rAppend := fun x y H Q Q' h ⟨l, xs, z, a, b, c, d, q⟩ => ⟨l, xs, z, a, b, c, d, h _ _ q⟩
theorem mg_name {i : Nat} : MonG (gName i) := fun v σ H Q Q' h q => h _ _ q
theorem mg_tup {K : PySem.W.Frag} {n : Nat} (m : MonGs gs) : MonG (gTup K n gs) := fun v σ H Q Q' h ⟨a, xs, e1, e2, e3, q⟩ => ⟨a, xs, e1, e2, e3, m _ _ _ _ _ h q⟩
theorem mgs_nil : MonGs gNil := fun v σ H Q Q' h ⟨e, q⟩ => ⟨e, h _ _ q⟩
theorem mgs_cons (a : MonG g) (b : MonGs gs) : MonGs (gCons g gs) := fun v σ H Q Q' h ⟨x, r, e, q⟩ => ⟨x, r, e, a _ _ _ _ _ (fun _ _ z => b _ _ _ _ _ h z) q⟩
theorem mi_L {K : PySem.W.Frag} (a : MonE te) : MonI (iList K te) := fun σ H Q Q' h q => a _ _ _ _ (fun _ _ ⟨x, e1, e2, z⟩ => ⟨x, e1, e2, h _ _ z⟩) q
theorem mi_T {K : PySem.W.Frag} (a : MonE te) : MonI (iTup K te) := fun σ H Q Q' h q => a _ _ _ _ (fun _ _ ⟨x, e1, e2, z⟩ => ⟨x, e1, e2, h _ _ z⟩) q
theorem mi_R1 (a : MonA tr) : MonI (iRng1 tr) := fun σ H Q Q' h q => a _ _ _ _ (fun _ _ ⟨j, e1, e2, e3, z⟩ => ⟨j, e1, e2, e3, h _ _ z⟩) q
theorem mi_R2 (a : MonA tr) : MonI (iRng2 tr) := fun σ H Q Q' h q => a _ _ _ _ (fun _ _ ⟨i, j, e1, e2, z⟩ => ⟨i, j, e1, e2, h _ _ z⟩) q
theorem mi_R3 (a : MonA tr) : MonI (iRng3 tr) := fun σ H Q Q' h q => a _ _ _ _ (fun _ _ ⟨i, j, c, n, e1, e2, z⟩ => ⟨i, j, c, n, e1, e2, h _ _ z⟩) q
theorem mi_E {K : PySem.W.Frag} (a : MonA tr) : MonI (iEnum K tr) := fun σ H Q Q' h q => a _ _ _ _ (fun _ _ ⟨x, xs, e1, e2, z⟩ => ⟨x, xs, e1, e2, h _ _ z⟩) q
theorem mi_S (a : MonE te) : MonI (iStr te) := fun σ H Q Q' h q => a _ _ _ _ (fun _ _ ⟨x, e1, z⟩ => ⟨x, e1, h _ _ z⟩) q
theorem mi_Z {K : PySem.W.Frag} (a : MonA tr) : MonI (iZip K tr) := fun σ H Q Q' h q => a _ _ _ _ (fun _ _ ⟨x, y, xs, ys, e1, e2, e3, z⟩ => ⟨x, y, xs, ys, e1, e2, e3, h _ _ z⟩) q
theorem EndsLe.seq {D D' : Ends} (h : EndsLe D D') {P P' : L2.St → Hp → Prop} (hp : ∀ σ H, P σ H → P' σ H) : EndsLe { D with nx := P } { D' with nx := P' } := ⟨hp, h.2.1, h.2.2.1, h.2.2.2⟩
theorem ms_next : MonS tNext := fun D D' σ H h q => h.1 _ _ q
theorem ms_seq (a : MonS t) (b : MonS u) : MonS (tSeq t u) := fun D D' σ H h q => a _ _ _ _ (h.seq fun _ _ z => b _ _ _ _ h z) q
theorem ms_asg (a : MonE te) (b : MonG g) : MonS (tAsg te g) := fun D D' σ H h q => a _ _ _ _ (fun _ _ z => b _ _ _ _ _ h.1 z) q
theorem ms_drop (a : MonE te) : MonS (tDrop te) := fun D D' σ H h q => a _ _ _ _ (fun _ _ z => h.1 _ _ z) q
theorem ms_ret (a : MonE te) : MonS (tRet te) := fun D D' σ H h q => a _ _ _ _ h.2.1 q
theorem ms_retN : MonS tRetN := fun D D' σ H h q => h.2.1 _ _ q
theorem ms_if (a : MonT c) (b : MonS t) (d : MonS u) : MonS (tIfS c t u) := fun D D' σ H h q => a _ _ _ _ (fun k _ z => by cases k; exact d _ _ _ _ h z; exact b _ _ _ _ h z) q
theorem ms_brk : MonS tBreak := fun D D' σ H h q => h.2.2.1 _ _ q
theorem ms_cont : MonS tCont := fun D D' σ H h q => h.2.2.2 _ _ q
theorem ms_never : MonS tNever := fun D D' σ H h q => q
theorem ms_dput {td ty tv : TE} (a : MonE td) (b : MonE ty) (d : MonE tv) : MonS (sDPut td ty tv) := fun D D' σ H h q => d _ _ _ _ (fun _ _ z => a _ _ _ _ (fun _ _ z => b _ _ _ _ (fun _ _ ⟨x, H4, e1, e2, z⟩ => ⟨x, H4, e1, e2, h.1 _ _ z⟩) z) z) q
theorem ms_fldS {K : PySem.W.Frag} {f : Str} (a : MonE ta) (b : MonE tb) : MonS (sFld K ta tb f) := fun D D' σ H h q => b _ _ _ _ (fun _ _ z => a _ _ _ _ (fun _ _ ⟨x, C, dx, fs, e1, e2, e3, e4, e5, z⟩ => ⟨x, C, dx, fs, e1, e2, e3, e4, e5, h.1 _ _ z⟩) z) q
theorem ms_for (a : MonI wi) (b : MonG g) (d : MonS t) : MonS (tFor wi g t) := fun D D' σ H h q =>
  a _ _ _ _ (fun J H1 ⟨W, w0, z⟩ => ⟨W, w0, fun i m σ H hw => by
    rcases z i m σ H hw with ⟨s, y⟩ | ⟨s, N, hN, y⟩
    · exact .inl ⟨s, h.1 _ _ y⟩
    · exact .inr ⟨s, N, hN, fun x H' hy => b _ _ _ _ _ (fun _ _ y' => d { D with nx := N, ct := N, bk := D.nx } { D' with nx := N, ct := N, bk := D'.nx } _ _ ⟨fun _ _ z => z, h.2.1, h.1, fun _ _ z => z⟩ y') (y x H' hy)⟩⟩) q
theorem ms_while (a : MonT c) (b : MonS t) : MonS (tWhile c t) := fun D D' σ H h ⟨W, w0, z⟩ => ⟨W, w0, fun m σ H hw => a _ _ _ _ (fun k H1 y => by
  cases k
  · exact h.1 _ _ y
  · obtain ⟨N, hN, y⟩ := y
    exact ⟨N, hN, b { D with nx := N, ct := N, bk := D.nx } { D' with nx := N, ct := N, bk := D'.nx } _ _ ⟨fun _ _ z => z, h.2.1, h.1, fun _ _ z => z⟩ y⟩) (z m σ H hw)⟩
theorem me_lc {te' : TE} {tt' : TT} {g' : TG} {vs : List Nat} (a : MonI wi) : MonE (tLc wi g' tt' te' vs) := fun σ H Q Q' h q => a _ _ _ _ (fun J H1 z D hD => by
  obtain ⟨W, w0, z⟩ := z D hD
  exact ⟨W, w0, fun i m H hw => (z i m H hw).imp (fun ⟨s, y⟩ => ⟨s, h _ _ y⟩) id⟩) q
theorem me_m1 {rm : V → List V → Hp → VK → Prop} (m : MonM rm) (a : MonE ta) (b : MonE tb) : MonE (tM1 rm ta tb) := fun σ H Q Q' h q => a _ _ _ _ (fun _ _ ⟨e, z⟩ => ⟨e, b _ _ _ _ (fun _ _ z' => m _ _ _ _ _ h z') z⟩) q
theorem mm_split : MonM (fun x xs H Q => ∃ a b, x = .str a ∧ xs = [.str b] ∧ (b.length == 0) = false ∧ a.length + 2 ≤ sizeLine ∧ rNewStrs (Txt.split a b) H Q) := fun x y H Q Q' h ⟨a, b, e1, e2, e3, e4, q⟩ => ⟨a, b, e1, e2, e3, e4, fun p hp => h _ _ (q p hp)⟩
end
end JF

local macro_rules | `(tactic| walk_at "mono1") => `(tactic| first | assumption | (with_reducible apply JF.me_var) | (with_reducible apply JF.me_c) | (with_reducible apply JF.me_op) | (with_reducible apply JF.me_un) | (with_reducible apply JF.me_fld) | (with_reducible apply JF.me_tup) | (with_reducible apply JF.me_lst) | (with_reducible apply JF.me_call) | (with_reducible apply JF.me_meth) | (with_reducible apply JF.me_cb) | (with_reducible apply JF.me_bm) | (with_reducible apply JF.me_bm0) | (with_reducible apply JF.me_andV) | (with_reducible apply JF.me_orV) | (with_reducible apply JF.me_notV) | (with_reducible apply JF.me_if) | (with_reducible apply JF.me_chain) | (with_reducible apply JF.me_sl) | (with_reducible apply JF.me_dget) | (with_reducible apply JF.me_dget2) | (with_reducible apply JF.me_din) | (with_reducible apply JF.me_dnotin) | (with_reducible apply JF.me_dsetd) | (with_reducible apply JF.me_lc) | (with_reducible apply JF.me_m1) | (with_reducible exact JF.mm_split) | (with_reducible apply JF.mt_test') | (with_reducible apply JF.mt_B) | (with_reducible apply JF.mt_and) | (with_reducible apply JF.mt_or) | (with_reducible apply JF.mt_not) | (with_reducible apply JF.ma_nil) | (with_reducible apply JF.ma_cons) | (with_reducible apply JF.mo_none) | (with_reducible apply JF.mo_some) | (with_reducible apply JF.mr_I0) | (with_reducible apply JF.mr_I) | (with_reducible apply JF.mr_eq) | (with_reducible apply JF.mr_ne) | (with_reducible apply JF.mr_ixL) | (with_reducible apply JF.mr_ixT) | (with_reducible apply JF.mr_ixS) | (with_reducible apply JF.mr_cat) | (with_reducible apply JF.mr_in) | (with_reducible apply JF.mr_isN) | (with_reducible apply JF.mr_notN) | (with_reducible apply JF.mu_U) | (with_reducible apply JF.mc_len) | (with_reducible apply JF.mc_isi) | (with_reducible apply JF.mm_append) | (with_reducible apply JF.mg_name) | (with_reducible apply JF.mg_tup) | (with_reducible apply JF.mgs_nil) | (with_reducible apply JF.mgs_cons) | (with_reducible apply JF.mi_L) | (with_reducible apply JF.mi_T) | (with_reducible apply JF.mi_R1) | (with_reducible apply JF.mi_R2) | (with_reducible apply JF.mi_R3) | (with_reducible apply JF.mi_E) | (with_reducible apply JF.mi_S) | (with_reducible apply JF.mi_Z) | (with_reducible apply JF.ms_next) | (with_reducible apply JF.ms_seq) | (with_reducible apply JF.ms_asg) | (with_reducible apply JF.ms_drop) | (with_reducible apply JF.ms_ret) | (with_reducible apply JF.ms_retN) | (with_reducible apply JF.ms_if) | (with_reducible apply JF.ms_brk) | (with_reducible apply JF.ms_cont) | (with_reducible apply JF.ms_never) | (with_reducible apply JF.ms_dput) | (with_reducible apply JF.ms_fldS) | (with_reducible apply JF.ms_for) | (with_reducible apply JF.ms_while))
local macro_rules | `(tactic| walk_at "mono") => `(tactic| repeat' walk_at "mono1")
/-! ### a grove in the heap -/
namespace JF
open PySem PySem.Spec PyProof.Rows L2
theorem nodup_sub_len {α : Type} [DecidableEq α] : ∀ (l m : List α), l.Nodup → (∀ x ∈ l, x ∈ m) → l.length ≤ m.length
  | [], m, _, _ => Nat.zero_le _
  | x :: l, m, h, hs => by
    rw [List.nodup_cons] at h
    have hx : x ∈ m := hs x List.mem_cons_self
    have ih := nodup_sub_len l (m.erase x) h.2 fun y hy => (List.mem_erase_of_ne (fun e => h.1 (by rw [← e]; exact hy))).mpr (hs y (List.mem_cons_of_mem _ hy))
    rw [List.length_erase_of_mem hx] at ih
    have : 0 < m.length := List.length_pos_of_mem hx
    show l.length + 1 ≤ m.length
    omega
theorem states_len {l : List Int} (h : l.Nodup) (hs : ∀ x ∈ l, 0 ≤ x ∧ x ≤ 7) : l.length ≤ 8 :=
  nodup_sub_len l [0, 1, 2, 3, 4, 5, 6, 7] h fun x hx => by
    have := hs x hx
    simp only [List.mem_cons, List.not_mem_nil, or_false]
    omega
structure GA where
  g : Addr
  dx : Addr
  dn : Addr
  dm : Addr
  dl : Addr
  dv : Addr
  ds : Addr
  dp : Addr
def GA.flds (a : GA) : List (Str × V) := [("numbers", .ref a.dn), ("made", .ref a.dm), ("levels", .ref a.dl), ("lives", .ref a.dv), ("spans", .ref a.ds), ("plain", .ref a.dp)]
def GA.m5 (a : GA) : List Addr := [a.dn, a.dm, a.dl, a.dv, a.ds]
def GA.muts (a : GA) (rows : List (Int × Addr)) : List Addr := a.m5 ++ a.dp :: rows.map (·.2)
/-- a span as a value -/
def SpanV (H : Hp) (v : V) : Option Box → Prop
  | none => v = .non
  | some b => ∃ p, v = .ref p ∧ H p = some (.tup [.int b.1, .int b.2.1, .int b.2.2.1, .int b.2.2.2])
theorem SpanV.keep {H H' : Hp} {v : V} {o : Option Box} (h : SpanV H v o) (k : ∀ b xs, H b = some (.tup xs) → H' b = some (.tup xs)) : SpanV H' v o := by
  cases o with
  | none => exact h
  | some b =>
    obtain ⟨p, e, hp⟩ := h
    exact ⟨p, e, k _ _ hp⟩
/-- what the lists of a grove hold -/
structure GData (H : Hp) (a : GA) (q : List Sq) (tups : List Addr) (mk : List (List Int)) (spt : List V) : Prop where
  hn : H a.dn = some (.dT (kvsOf mk 0))
  hm : H a.dm = some (.lst (tups.map V.ref))
  hl : H a.dl = some (.lst (q.map fun S => V.int (S.level : Int)))
  hv : H a.dv = some (.lst (q.map fun S => V.int S.lives))
  hs : H a.ds = some (.lst spt)
  lt : tups.length = q.length
  lm : mk.length = q.length
  ls : spt.length = q.length
  tu : ∀ (i : Nat) t m, tups[i]? = some t → mk[i]? = some m → H t = some (.tup (m.map V.int))
  sp : ∀ (i : Nat) v S, spt[i]? = some v → q[i]? = some S → SpanV H v S.span
  md : ∀ (i : Nat) m S, mk[i]? = some m → q[i]? = some S → Made q S m
structure GAt (C : Addr) (H : Hp) (a : GA) (rows : List (Int × Addr)) (q : List Sq) : Prop where
  ob : H a.g = some (.ins C a.dx a.flds)
  da : ∃ tups mk spt, GData H a q tups mk spt
  wf : ∀ S ∈ q, S.wf
  qn : q.Nodup
  pl : H a.dp = some (.dK (rows.map fun sa => ((Sum.inl sa.1 : Key), V.ref sa.2)))
  nd : (a.g :: a.muts rows).Nodup
  rn : (rows.map (·.1)).Nodup
  rs : ∀ s ∈ rows.map (·.1), 0 ≤ s ∧ s ≤ 7
  ro : ∀ s b, (s, b) ∈ rows → ∃ ns : List Nat, H b = some (.lst (ns.map fun (n : Nat) => V.int (n : Int))) ∧ ∀ (i : Nat) n, ns[i]? = some n → q[n]? = some (Sq.even i s)
/-- all but what stands at these addresses is as it was -/
def Fr (S : List Addr) (H H' : Hp) : Prop := ∀ b o, H b = some o → b ∉ S → H' b = some o
theorem Fr.refl (S : List Addr) (H : Hp) : Fr S H H := fun _ _ h _ => h
theorem Fr.trans {S : List Addr} {H H1 H2 : Hp} (x : Fr S H H1) (y : Fr S H1 H2) : Fr S H H2 := fun b o h n => y b o (x b o h n) n
theorem Fr.mono {S S' : List Addr} {H H' : Hp} (x : Fr S H H') (h : ∀ b ∈ S, b ∈ S') : Fr S' H H' := fun b o e n => x b o e fun z => n (h b z)
theorem fr_of {S : List Addr} {H H' : Hp} (x : Same H H') : Fr S H H' := fun b o e _ => x b o e
def HO.still : HO → Prop
  | .tup _ | .ins _ _ _ | .own _ => True
  | _ => False
/-- a grove stands where its own lists, the tuples and the instances are kept -/
theorem GAt.keep {C : Addr} {H H' : Hp} {a : GA} {rows : List (Int × Addr)} {q : List Sq} (G : GAt C H a rows q) (k : ∀ b o, H b = some o → HO.still o ∨ b ∈ a.muts rows → H' b = some o) : GAt C H' a rows q := by
  obtain ⟨tups, mk, spt, D⟩ := G.da
  have mem : ∀ b, b ∈ a.m5 → b ∈ a.muts rows := fun b h => List.mem_append_left _ h
  refine ⟨k _ _ G.ob (.inl trivial), ⟨tups, mk, spt, k _ _ D.hn (.inr (mem _ (by simp [GA.m5]))), k _ _ D.hm (.inr (mem _ (by simp [GA.m5]))), k _ _ D.hl (.inr (mem _ (by simp [GA.m5]))), k _ _ D.hv (.inr (mem _ (by simp [GA.m5]))), k _ _ D.hs (.inr (mem _ (by simp [GA.m5]))), D.lt, D.lm, D.ls,
    fun i t m h1 h2 => k _ _ (D.tu i t m h1 h2) (.inl trivial), fun i v S h1 h2 => (D.sp i v S h1 h2).keep fun b xs e => k _ _ e (.inl trivial), D.md⟩, G.wf, G.qn, k _ _ G.pl (.inr (by simp [GA.muts])), G.nd, G.rn, G.rs, fun s b h => ?_⟩
  obtain ⟨ns, h1, h2⟩ := G.ro s b h
  refine ⟨ns, k _ _ h1 (.inr ?_), h2⟩
  unfold GA.muts
  exact List.mem_append_right _ (List.mem_cons_of_mem _ (List.mem_map_of_mem (f := fun sa : Int × Addr => sa.2) h))
theorem GAt.same {C : Addr} {H H' : Hp} {a : GA} {rows : List (Int × Addr)} {q : List Sq} (G : GAt C H a rows q) (s : Same H H') : GAt C H' a rows q := G.keep fun b o e _ => s b o e
/-- a new object is laid -/
theorem same_upd {H : Hp} {p : Addr} {o : HO} (h : H p = none) : Same H (upd H p o) := fun b u e => by rw [upd_ne (ne_of_none e h)]; exact e
/-- a list, a dict of the asker's own is changed -/
theorem GAt.upd {C : Addr} {H : Hp} {a : GA} {rows : List (Int × Addr)} {q : List Sq} {p : Addr} {o : HO} (G : GAt C H a rows q) (hp : ∀ u, H p = some u → ¬ HO.still u) (hn : p ∉ a.muts rows) : GAt C (upd H p o) a rows q :=
  G.keep fun b u e h => by
    rw [upd_ne]
    · exact e
    · rintro rfl
      rcases h with h | h
      · exact hp u e h
      · exact hn h
/-- a grove goes on: what was is as it was, squares were added -/
structure GStep (C : Addr) (H : Hp) (a : GA) (rows : List (Int × Addr)) (q : List Sq) (H' : Hp) (rows' : List (Int × Addr)) (q' : List Sq) : Prop where
  gat : GAt C H' a rows' q'
  pre : q <+: q'
  fr : Fr (a.muts rows) H H'
  new : ∀ b ∈ a.muts rows', b ∈ a.muts rows ∨ H b = none
theorem GStep.refl {C : Addr} {H : Hp} {a : GA} {rows : List (Int × Addr)} {q : List Sq} (G : GAt C H a rows q) : GStep C H a rows q H rows q := ⟨G, List.prefix_refl _, Fr.refl _ _, fun _ h => .inl h⟩
theorem GStep.trans {C : Addr} {H H1 H2 : Hp} {a : GA} {rows r1 r2 : List (Int × Addr)} {q q1 q2 : List Sq} (x : GStep C H a rows q H1 r1 q1) (y : GStep C H1 a r1 q1 H2 r2 q2) : GStep C H a rows q H2 r2 q2 := by
  refine ⟨y.gat, x.pre.trans y.pre, fun b o e n => ?_, fun b h => ?_⟩
  · refine y.fr b o (x.fr b o e n) fun z => ?_
    rcases x.new b z with z | z
    · exact n z
    · rw [e] at z; cases z
  · rcases y.new b h with z | z
    · exact x.new b z
    · by_cases hb : b ∈ a.muts rows
      · exact .inl hb
      · right
        cases q : H b with
        | none => rfl
        | some o =>
          rw [x.fr b o q hb] at z
          cases z
/-- the asker's own things are kept, and stay the asker's own -/
theorem GStep.own {C : Addr} {H H1 : Hp} {a : GA} {rows r1 : List (Int × Addr)} {q q1 : List Sq} (x : GStep C H a rows q H1 r1 q1) {b : Addr} {o : HO} (h : H b = some o) (n : b ∉ a.muts rows) : H1 b = some o ∧ b ∉ a.muts r1 :=
  ⟨x.fr b o h n, fun z => (x.new b z).elim n fun z => by rw [h] at z; cases z⟩
theorem pre_get {q q' : List Sq} (h : q <+: q') {n : Nat} {S : Sq} (e : q[n]? = some S) : q'[n]? = some S := by
  obtain ⟨t, rfl⟩ := h
  exact getElem?_app e t
theorem ne_app {H : Hp} {b : Addr} {o : HO} {S : List Addr} (h : H b = some o) (hs : ∀ c ∈ S, ∀ u, H c = some u → o ≠ u) (hn : ∀ c ∈ S, ∃ u, H c = some u) : b ∉ S := fun z => by
  obtain ⟨u, e⟩ := hn b z
  refine hs b z u e ?_
  rw [h] at e
  exact Option.some.inj e
/-- a tuple is none of a grove's own lists -/
theorem GAt.tup_out {C : Addr} {H : Hp} {a : GA} {rows : List (Int × Addr)} {q : List Sq} (G : GAt C H a rows q) {b : Addr} {xs : List V} (h : H b = some (.tup xs)) : b ∉ a.muts rows := by
  obtain ⟨tups, mk, spt, D⟩ := G.da
  intro z
  unfold GA.muts GA.m5 at z
  simp only [List.cons_append, List.nil_append, List.mem_cons, List.mem_map] at z
  rcases z with rfl | rfl | rfl | rfl | rfl | rfl | ⟨sa, hm, rfl⟩
  · rw [D.hn] at h; cases h
  · rw [D.hm] at h; cases h
  · rw [D.hl] at h; cases h
  · rw [D.hv] at h; cases h
  · rw [D.hs] at h; cases h
  · rw [G.pl] at h; cases h
  · obtain ⟨ns, e, _⟩ := G.ro sa.1 sa.2 hm
    rw [e] at h; cases h
/-- what is new is none of them -/
theorem GAt.new_out {C : Addr} {H : Hp} {a : GA} {rows : List (Int × Addr)} {q : List Sq} (G : GAt C H a rows q) {b : Addr} (h : H b = none) : b ∉ a.muts rows := by
  obtain ⟨tups, mk, spt, D⟩ := G.da
  intro z
  unfold GA.muts GA.m5 at z
  simp only [List.cons_append, List.nil_append, List.mem_cons, List.mem_map] at z
  rcases z with rfl | rfl | rfl | rfl | rfl | rfl | ⟨sa, hm, rfl⟩
  · rw [D.hn] at h; cases h
  · rw [D.hm] at h; cases h
  · rw [D.hl] at h; cases h
  · rw [D.hv] at h; cases h
  · rw [D.hs] at h; cases h
  · rw [G.pl] at h; cases h
  · obtain ⟨ns, e, _⟩ := G.ro sa.1 sa.2 hm
    rw [e] at h; cases h
end JF

/-! ### the grove's small defs -/
namespace JF
open PySem PySem.Spec PyProof.Rows L2
section
variable {P : Program} {w : World} {K : PySem.W.Frag} {mg : Str → Option Value} {base : Heap}
/-- is_whole of a whole number, a truth, a text, None -/
def wholeV : V → Bool
  | .int _ => true
  | _ => false
def sp_is_whole : Sp := fun vs H Q _ => ∃ x : V, vs = [x] ∧ ((∃ i, x = .int i) ∨ (∃ b, x = .bl b) ∨ (∃ z, x = .str z) ∨ x = .non) ∧ Q (.bl (wholeV x)) H
theorem isi_ty {H : Hp} {Q : VK} {x : V} {a b : String} {r : Bool} (h : TyX K H x (.type a)) (k : kitB a b = some r) (q : Q (.bl r) H) : rIsi K [x, .ty b] H Q :=
  ⟨x, .ty b, _, _, r, rfl, .ty b, h, kit_ty k, q⟩
theorem ok_is_whole (T : Env fa fn K mg) : Good P w K mg base CX0 1 ("is_whole", none) ["thing"] sp_is_whole := by
  refine good_mk T 1 (d := d_is_whole) (N := ["thing"]) (ps := ["thing"]) rfl rfl sc_is_whole (fun _ _ _ _ _ _ us hl => match us, hl with | [_], _ => rfl) (fun vs H Q E h => ?_) (fun f cdv A outer s H vs Q E hr h => ?_)
  · obtain ⟨x, rfl, _⟩ := h; rfl
  · obtain ⟨x, rfl, hx, k⟩ := h
    refine ⟨_, (pss_one (ps_ret (pe_and (pe_callB (call_isiK K rfl) (by rfl) (T.free 1) (by decide +kernel) (pa_cons (pv 0) (pa_cons (pe_bltn (v := V.ty "int") rfl (T.free 2) (by decide +kernel) rfl) pa_nil))) (pe_one (pe_not (pe_callB (call_isiK K rfl) (by rfl) (T.free 1) (by decide +kernel) (pa_cons (pv 0) (pa_cons (pe_bltn (v := V.ty "bool") rfl (T.free 0) (by decide +kernel) rfl) pa_nil)))))))), ?_⟩
    walk_at "rd"
    rcases hx with ⟨i, rfl⟩ | ⟨b, rfl⟩ | ⟨z, rfl⟩ | rfl
    · refine isi_ty (.base (.int i)) (by decide +kernel : kitB "int" "int" = some true) ?_
      walk_at "rd"
      refine isi_ty (.base (.int i)) (by decide +kernel : kitB "int" "bool" = some false) ?_
      walk_at "rd"
      exact k
    · refine isi_ty (.base (.bl b)) (by decide +kernel : kitB "bool" "int" = some true) ?_
      walk_at "rd"
      refine isi_ty (.base (.bl b)) (by decide +kernel : kitB "bool" "bool" = some true) ?_
      walk_at "rd"
      exact k
    · refine isi_ty (.base (.str z)) (by decide +kernel : kitB "str" "int" = some false) ?_
      walk_at "rd"
      exact k
    · refine isi_ty (.base .non) (by decide +kernel : kitB "NoneType" "int" = some false) ?_
      walk_at "rd"
      exact k
/-! ### a state -/
def stateV : V → Bool
  | .int i => decide (0 ≤ i) && decide (i ≤ 7)
  | _ => false
theorem stateV_ok {s : Int} (h0 : 0 ≤ s) (h7 : s ≤ 7) : stateV (.int s) = true := by show (decide (0 ≤ s) && decide (s ≤ 7)) = true; rw [decide_eq_true h0, decide_eq_true h7]; rfl
def sp_is_state : Sp := fun vs H Q _ => ∃ x : V, vs = [x] ∧ ((∃ i, x = .int i) ∨ (∃ b, x = .bl b) ∨ (∃ z, x = .str z) ∨ x = .non) ∧ Q (.bl (stateV x)) H
theorem ok_is_state (T : Env fa fn K mg) : Good P w K mg base CX0 2 ("is_state", none) ["thing"] sp_is_state := by
  have G_is_whole := ok_is_whole (P := P) (w := w) (base := base) T
  refine good_mk T 4 (d := d_is_state) (N := ["thing"]) (ps := ["thing"]) rfl rfl sc_is_state (fun _ _ _ _ _ _ us hl => match us, hl with | [_], _ => rfl) (fun vs H Q E h => ?_) (fun f cdv A outer s H vs Q E hr h => ?_)
  · obtain ⟨x, rfl, _⟩ := h; rfl
  · obtain ⟨x, rfl, hx, k⟩ := h
    refine ⟨_, (pss_one (ps_ret (pe_and (pe_cgK K rfl G_is_whole (hr.mono (by decide)) (T.glo 7) (pa_cons (pv 0) pa_nil)) (pe_one (pe_chain op_le op_le pe_int (pv 0) pe_int))))), ?_⟩
    walk_at "rd"
    refine ⟨x, rfl, hx, ?_⟩
    walk_at "rd"
    rcases hx with ⟨i, rfl⟩ | ⟨b, rfl⟩ | ⟨z, rfl⟩ | rfl
    · refine iteT ?_
      walk_at "rd"
      have k' : Q (.bl (decide (0 ≤ i) && decide (i ≤ 7))) H := k
      by_cases h0 : 0 ≤ i
      · rw [decide_eq_true h0] at k' ⊢
        walk_at "rd"
        exact k'
      · rw [decide_eq_false h0] at k' ⊢
        walk_at "rd"
        exact k'
    · refine iteF ?_
      exact k
    · refine iteF ?_
      exact k
    · refine iteF ?_
      exact k
/-! ### boxes -/
def sp_round_both : Sp := fun vs H Q _ => ∃ (v : V) (o : Option Box) (p : Addr) (b : Box), vs = [v, .ref p] ∧ SpanV H v o ∧ SpanV H (.ref p) (some b) ∧ ∀ H' u, Same H H' → SpanV H' u (some (rb o b)) → Q u H'
theorem min_if (a b : Int) : (if b < a then b else a) = min a b := by rw [Int.min_def]; split <;> split <;> omega
theorem max_if (a b : Int) : (if b > a then b else a) = max a b := by rw [Int.max_def]; split <;> split <;> omega
theorem ok_round_both (T : Env fa fn K mg) : Good P w K mg base CX0 1 ("round_both", none) ["one", "other"] sp_round_both := by
  refine good_mk T 2 (d := d_round_both) (N := ["one", "other", "left", "top", "right", "low"]) (ps := ["one", "other"]) rfl rfl sc_round_both (fun _ _ _ _ _ _ us hl => match us, hl with | [_, _], _ => rfl) (fun vs H Q E h => ?_) (fun f cdv A outer s H vs Q E hr h => ?_)
  · obtain ⟨v, o, p, b, rfl, _⟩ := h; rfl
  · obtain ⟨v, o, p, b, rfl, hv, ⟨p', e, hp⟩, k⟩ := h
    cases e
    refine ⟨_, (pss_cons (ps_if (pt_cmpR op_isN (pv 0) pe_non (nomark _)) (pss_one (ps_ret (pv 1))) pss_nil)
      (pss_cons (ps_set (i := 2) sc_round_both.nd rfl (Or.inl rfl) (pe_callB (call_min2 rfl) (by rfl) (T.free 3) (by decide +kernel) (pa_cons (pe_ix (ix_tupK K rfl) (pv 0) pe_int (fun _ _ => rfl)) (pa_cons (pe_ix (ix_tupK K rfl) (pv 1) pe_int (fun _ _ => rfl)) pa_nil))))
      (pss_cons (ps_set (i := 3) sc_round_both.nd rfl (Or.inl rfl) (pe_callB (call_min2 rfl) (by rfl) (T.free 3) (by decide +kernel) (pa_cons (pe_ix (ix_tupK K rfl) (pv 0) pe_int (fun _ _ => rfl)) (pa_cons (pe_ix (ix_tupK K rfl) (pv 1) pe_int (fun _ _ => rfl)) pa_nil))))
      (pss_cons (ps_set (i := 4) sc_round_both.nd rfl (Or.inl rfl) (pe_callB (call_max2 rfl) (by rfl) (T.free 4) (by decide +kernel) (pa_cons (pe_op op_add (pe_ix (ix_tupK K rfl) (pv 0) pe_int (fun _ _ => rfl)) (pe_ix (ix_tupK K rfl) (pv 0) pe_int (fun _ _ => rfl))) (pa_cons (pe_op op_add (pe_ix (ix_tupK K rfl) (pv 1) pe_int (fun _ _ => rfl)) (pe_ix (ix_tupK K rfl) (pv 1) pe_int (fun _ _ => rfl))) pa_nil))))
      (pss_cons (ps_set (i := 5) sc_round_both.nd rfl (Or.inl rfl) (pe_callB (call_max2 rfl) (by rfl) (T.free 4) (by decide +kernel) (pa_cons (pe_op op_add (pe_ix (ix_tupK K rfl) (pv 0) pe_int (fun _ _ => rfl)) (pe_ix (ix_tupK K rfl) (pv 0) pe_int (fun _ _ => rfl))) (pa_cons (pe_op op_add (pe_ix (ix_tupK K rfl) (pv 1) pe_int (fun _ _ => rfl)) (pe_ix (ix_tupK K rfl) (pv 1) pe_int (fun _ _ => rfl))) pa_nil))))
      (pss_one (ps_ret (pe_tup (pa_cons (pv 2) (pa_cons (pv 3) (pa_cons (pe_op op_sub (pv 4) (pv 2)) (pa_cons (pe_op op_sub (pv 5) (pv 3)) pa_nil)))))))))))), ?_⟩
    walk_at "rd"
    cases o with
    | none =>
      have e : v = .non := hv
      subst e
      refine iteT ?_
      walk_at "rd"
      exact k H _ (Same.refl H) ⟨p, rfl, hp⟩
    | some a =>
      obtain ⟨q, rfl, hq⟩ := hv
      refine iteF ?_
      walk_at "rd"
      refine rd_new (hn := by show 4 ≤ sizeLine; decide) fun t ht => ?_
      walk_at "rd"
      refine k _ _ (fun b o e => by rw [upd_ne (ne_of_none e ht)]; exact e) ⟨t, rfl, ?_⟩
      rw [upd_same]
      simp only [rb, min_if, max_if]
/-! ### the span of four -/
def acc4 (half : Int) (os : List (Option Box)) : Nat → Option Box
  | 0 => none
  | k + 1 => r4step half (k : Int) (acc4 half os k) (os.getD k none)
def sp_round_four : Sp := fun vs H Q _ => ∃ (p : Addr) (us : List V) (os : List (Option Box)) (half : Int), vs = [.ref p, .int half] ∧ H p = some (.lst us) ∧ us.length = 4 ∧ os.length = 4 ∧ (∀ (i : Nat) v o, us[i]? = some v → os[i]? = some o → SpanV H v o) ∧
  0 ≤ half ∧ half < 2 ^ 64 ∧ ∀ H' u, Same H H' → SpanV H' u (acc4 half os 4) → Q u H'
theorem half_ok {h x : Int} (h0 : 0 ≤ h) (h1 : h < 2 ^ 64) (x0 : 0 ≤ x) (x1 : x < 4) : CMulW h x := by
  have e1 : (2 : Int) ^ 64 ≤ 2 ^ 2000 := by decide +kernel
  have e2 : (4 : Int) ≤ 2 ^ 2000 := by decide +kernel
  exact mulW_of (by omega) (by omega) (by omega) (by omega)
theorem ok_round_four (T : Env fa fn K mg) : Good P w K mg base CX0 2 ("round_four", none) ["spans", "half"] sp_round_four := by
  have G_round_both := ok_round_both (P := P) (w := w) (base := base) T
  refine good_mk T 3 (d := d_round_four) (N := ["spans", "half", "found", "at", "span", "left", "top"]) (ps := ["spans", "half"]) rfl rfl sc_round_four (fun _ _ _ _ _ _ us hl => match us, hl with | [_, _], _ => rfl) (fun vs H Q E h => ?_) (fun f cdv A outer s H vs Q E hr h => ?_)
  · obtain ⟨p, us, os, half, rfl, _⟩ := h; rfl
  · obtain ⟨p, us, os, half, rfl, hp, hu, ho, hs, h0, h1, k⟩ := h
    refine ⟨_, (pss_cons (ps_set (i := 2) sc_round_four.nd rfl (Or.inl rfl) pe_non)
      (pss_cons (ps_for PassesOwn.never rfl (pi_enum (by rfl) (T.free 5) (pa_cons (pv 0) pa_nil)) (pg_tup rfl (pgs_cons (pg_name (i := 3) sc_round_four.nd rfl (Or.inl rfl)) (pgs_cons (pg_name (i := 4) sc_round_four.nd rfl (Or.inl rfl)) pgs_nil))) (pss_one (ps_if (pt_cmpR op_notN (pv 4) pe_non (nomark _)) (pss_cons (ps_set (i := 5) sc_round_four.nd rfl (Or.inl rfl) (pe_op op_add (pe_ix (ix_tupK K rfl) (pv 4) pe_int (fun _ _ => rfl)) (pe_op op_mulW (pv 1) (pe_op op_mod (pv 3) pe_int))))
      (pss_cons (ps_set (i := 6) sc_round_four.nd rfl (Or.inl rfl) (pe_op op_add (pe_ix (ix_tupK K rfl) (pv 4) pe_int (fun _ _ => rfl)) (pe_op op_mulW (pv 1) (pe_op op_fdivW (pv 3) pe_int))))
      (pss_one (ps_set (i := 2) sc_round_four.nd rfl (Or.inl rfl) (pe_cgK K rfl G_round_both (hr.mono (by decide)) (T.glo 6) (pa_cons (pv 2) (pa_cons (pe_tup (pa_cons (pv 5) (pa_cons (pv 6) (pa_cons (pe_ix (ix_tupK K rfl) (pv 4) pe_int (fun _ _ => rfl)) (pa_cons (pe_ix (ix_tupK K rfl) (pv 4) pe_int (fun _ _ => rfl)) pa_nil))))) pa_nil))))))) pss_nil)))
      (pss_one (ps_ret (pv 2))))), ?_⟩
    walk_at "rd"
    refine ⟨p, us, rfl, SqL.of hp, ?_⟩
    refine for_it (walk_enum (xs := us)) (fun i σ H' => ∃ f x1 x2 x3 x4, σ = [some (.ref p), some (.int half), some f, x1, x2, x3, x4] ∧ Same H H' ∧ SpanV H' f (acc4 half os i)) ?_ ?_ ?_ ?_
    · exact ⟨.non, none, none, none, none, rfl, Same.refl H, rfl⟩
    · rintro i σ H' _ ⟨_, _, _, _, _, _, s1, _⟩
      exact SqL.of (s1 _ _ hp)
    · rintro i x σ H1 H2 hi ⟨f, x1, x2, x3, x4, rfl, s1, hf⟩ ⟨t, x, y, rfl, ht, rfl, ex, ey⟩
      cases ex
      have hu2 : us[i]? = some y := ey
      have s2 : Same H1 (upd H1 t (.tup [V.int (i : Nat), y])) := fun b o e => by rw [upd_ne (ne_of_none e ht)]; exact e
      have hT : (upd H1 t (.tup [V.int (i : Nat), y])) t = some (.tup [V.int (i : Nat), y]) := upd_same
      walk_at "rd"
      have hi4 : i < 4 := by omega
      obtain ⟨o, ho2⟩ : ∃ o, os[i]? = some o := ⟨os[i], by simp [ho, hi4]⟩
      have eo : os.getD i none = o := by simp [List.getD, ho2]
      have hy := hs i y o hu2 ho2
      cases o with
      | none =>
        have e : y = .non := hy
        subst e
        refine iteF ?_
        walk_at "rd"
        refine ⟨f, _, _, x3, x4, rfl, s1.trans s2, ?_⟩
        show SpanV _ f (r4step half (i : Int) (acc4 half os i) (os.getD i none))
        rw [eo]
        exact hf.keep fun b xs e => s2 _ _ e
      | some b =>
        obtain ⟨q, rfl, hq⟩ := hy
        have hq2 := s2 _ _ (s1 _ _ hq)
        refine iteT ?_
        walk_at "rd"
        refine rd_I (half_ok h0 h1 (by omega) (by omega)) ?_
        walk_at "rd"
        refine rd_I (half_ok h0 h1 (by omega) (by omega)) ?_
        walk_at "rd"
        refine rd_new (hn := by show 4 ≤ sizeLine; decide) fun t2 ht2 => ?_
        have s3 : ∀ o, Same (upd H1 t (.tup [V.int (i : Nat), .ref q])) (upd (upd H1 t (.tup [V.int (i : Nat), .ref q])) t2 o) := fun o b' o' e => by rw [upd_ne (ne_of_none e ht2)]; exact e
        walk_at "rd"
        refine ⟨f, acc4 half os i, t2, (b.1 + half * ((i : Int) % 2), b.2.1 + half * ((i : Int) / 2), b.2.2.1, b.2.2.2), rfl, (hf.keep fun b xs e => s3 _ _ _ (s2 _ _ e)), ⟨t2, rfl, upd_same⟩, fun H3 u s4 hu3 => ?_⟩
        walk_at "rd"
        refine ⟨u, _, _, _, _, rfl, (s1.trans s2).trans ((s3 _).trans s4), ?_⟩
        show SpanV _ u (r4step half (i : Int) (acc4 half os i) (os.getD i none))
        rw [eo]
        exact hu3
    · rintro σ H' ⟨f, x1, x2, x3, x4, rfl, s1, hf⟩
      rw [hu] at hf
      walk_at "rd"
      exact k _ _ s1 hf
end
end JF

/-! ### the grove's methods: kept, cell, knit -/
namespace JF
open PySem PySem.Spec PyProof.Rows L2
/-- the class stands at -/
abbrev CG (K : PySem.W.Frag) : Addr := He.ga K "Grove"
theorem nd_of {a : GA} {rows : List (Int × Addr)} (h : (a.g :: a.muts rows).Nodup) :
    (a.g ≠ a.dn ∧ a.g ≠ a.dm ∧ a.g ≠ a.dl ∧ a.g ≠ a.dv ∧ a.g ≠ a.ds ∧ a.g ≠ a.dp) ∧ (a.dn ≠ a.dm ∧ a.dn ≠ a.dl ∧ a.dn ≠ a.dv ∧ a.dn ≠ a.ds ∧ a.dn ≠ a.dp) ∧ (a.dm ≠ a.dl ∧ a.dm ≠ a.dv ∧ a.dm ≠ a.ds ∧ a.dm ≠ a.dp) ∧ (a.dl ≠ a.dv ∧ a.dl ≠ a.ds ∧ a.dl ≠ a.dp) ∧ (a.dv ≠ a.ds ∧ a.dv ≠ a.dp) ∧ a.ds ≠ a.dp ∧
      ∀ s b, (s, b) ∈ rows → b ≠ a.g ∧ b ≠ a.dn ∧ b ≠ a.dm ∧ b ≠ a.dl ∧ b ≠ a.dv ∧ b ≠ a.ds ∧ b ≠ a.dp := by
  simp only [GA.muts, GA.m5, List.cons_append, List.nil_append, List.nodup_cons, List.mem_cons, not_or] at h
  obtain ⟨⟨g1, g2, g3, g4, g5, g6, g7⟩, ⟨n1, n2, n3, n4, n5, n6⟩, ⟨m1, m2, m3, m4, m5⟩, ⟨l1, l2, l3, l4⟩, ⟨v1, v2, v3⟩, ⟨s1, s2⟩, p1, _⟩ := h
  refine ⟨⟨g1, g2, g3, g4, g5, g6⟩, ⟨n1, n2, n3, n4, n5⟩, ⟨m1, m2, m3, m4⟩, ⟨l1, l2, l3⟩, ⟨v1, v2⟩, s1, fun s b hb => ?_⟩
  have hm : b ∈ rows.map (·.2) := List.mem_map_of_mem (f := fun sa : Int × Addr => sa.2) hb
  exact ⟨fun z => g7 (z ▸ hm), fun z => n6 (z ▸ hm), fun z => m5 (z ▸ hm), fun z => l4 (z ▸ hm), fun z => v3 (z ▸ hm), fun z => s2 (z ▸ hm), fun z => p1 (z ▸ hm)⟩
theorem inl_kV (m : List Int) : (m.map (Sum.inl : Int → Key)).map kV = m.map V.int := by
  rw [List.map_map]; rfl
theorem snoc_get {α β : Type} {l : List α} {x : α} {l' : List β} {y : β} (hl : l.length = l'.length) {i : Nat} {u : α} {v : β} (h1 : (l ++ [x])[i]? = some u) (h2 : (l' ++ [y])[i]? = some v) : (l[i]? = some u ∧ l'[i]? = some v) ∨ (i = l.length ∧ u = x ∧ v = y) := by
  by_cases h : i < l.length
  · rw [List.getElem?_append_left h] at h1
    rw [List.getElem?_append_left (by omega)] at h2
    exact .inl ⟨h1, h2⟩
  · have hi : i < (l ++ [x]).length := (List.getElem?_eq_some_iff.mp h1).1
    have e : i = l.length := by simp at hi; omega
    subst e
    simp at h1
    rw [hl] at h2
    simp at h2
    exact .inr ⟨rfl, h1.symm, h2.symm⟩
/-- a square that is there stands in the dict by its own number; one that is not there does not -/
theorem look_of {q : List Sq} {mk : List (List Int)} (qn : q.Nodup) (lm : mk.length = q.length) (md : ∀ (i : Nat) m S, mk[i]? = some m → q[i]? = some S → Made q S m) {S : Sq} {m : List Int} (hm : Made q S m) :
    (∀ n, lookI mk m 0 = some n → q[n]? = some S) ∧ (lookI mk m 0 = none → S ∉ q) := by
  constructor
  · intro n h
    obtain ⟨_, h2⟩ := lookI_some h
    simp only [Nat.sub_zero] at h2
    have hn : n < q.length := by rw [← lm]; exact (List.getElem?_eq_some_iff.mp h2).1
    have e : q[n]? = some q[n] := by simp [hn]
    rw [e]
    exact congrArg some (made_same (md n m _ h2 e) hm)
  · intro h hS
    obtain ⟨n, hn, e⟩ := List.mem_iff_getElem.mp hS
    have hn' : n < mk.length := by omega
    have e1 : mk[n]? = some mk[n] := by simp [hn']
    have e2 : q[n]? = some S := by simp [hn, e]
    refine lookI_none h ?_
    rw [made_inj qn hm (md n _ S e1 e2)]
    exact List.getElem_mem hn'
theorem noats {K : PySem.W.Frag} {mg : Str → Option Value} (T : Env fa fn K mg) : NoAttr K (CG K) "numbers" ∧ NoAttr K (CG K) "made" ∧ NoAttr K (CG K) "levels" ∧ NoAttr K (CG K) "lives" ∧ NoAttr K (CG K) "spans" ∧ NoAttr K (CG K) "plain" :=
  ⟨T.noat 60, T.noat 59, T.noat 57, T.noat 58, T.noat 62, T.noat 61⟩
/-- the heap behind kept -/
theorem gat_kept {C : Addr} {H H' : Hp} {a : GA} {rows : List (Int × Addr)} {q : List Sq} {tups : List Addr} {mk : List (List Int)} {spt : List V} {S : Sq} {t : Addr} {m : List Int} {v : V} (G : GAt C H a rows q) (D : GData H a q tups mk spt)
    (ht : H t = some (.tup (m.map V.int))) (hm : Made q S m) (hw : S.wf) (hS : S ∉ q) (hv : SpanV H v S.span)
    (h1 : H' a.dn = some (.dT (kvsOf (mk ++ [m]) 0))) (h2 : H' a.dm = some (.lst ((tups ++ [t]).map V.ref))) (h3 : H' a.dl = some (.lst ((q ++ [S]).map fun S => V.int (S.level : Int)))) (h4 : H' a.dv = some (.lst ((q ++ [S]).map fun S => V.int S.lives))) (h5 : H' a.ds = some (.lst (spt ++ [v])))
    (fr : Fr a.m5 H H') : GAt C H' a rows (q ++ [S]) := by
  obtain ⟨⟨g1, g2, g3, g4, g5, g6⟩, ⟨n1, n2, n3, n4, n5⟩, ⟨m1, m2, m3, m4⟩, ⟨l1, l2, l3⟩, ⟨v1, v2⟩, s1, hr⟩ := nd_of G.nd
  have out : ∀ b xs, H b = some (.tup xs) → H' b = some (.tup xs) := fun b xs e => fr b _ e fun z => G.tup_out e (List.mem_append_left _ z)
  refine ⟨fr _ _ G.ob (by simp [GA.m5, g1, g2, g3, g4, g5]), ⟨tups ++ [t], mk ++ [m], spt ++ [v], h1, h2, h3, h4, h5, by simp [D.lt], by simp [D.lm], by simp [D.ls], fun i t' m' e1 e2 => ?_, fun i v' S' e1 e2 => ?_, fun i m' S' e1 e2 => ?_⟩, fun S' h => ?_, ?_, fr _ _ G.pl (by simp [GA.m5, Ne.symm n5, Ne.symm m4, Ne.symm l3, Ne.symm v2, Ne.symm s1]), G.nd, G.rn, G.rs, fun s b hb => ?_⟩
  · rcases snoc_get (by rw [D.lt, D.lm]) e1 e2 with ⟨e1, e2⟩ | ⟨_, rfl, rfl⟩
    · exact out _ _ (D.tu i t' m' e1 e2)
    · exact out _ _ ht
  · rcases snoc_get D.ls e1 e2 with ⟨e1, e2⟩ | ⟨_, rfl, rfl⟩
    · exact (D.sp i v' S' e1 e2).keep out
    · exact hv.keep out
  · rcases snoc_get D.lm e1 e2 with ⟨e1, e2⟩ | ⟨_, rfl, rfl⟩
    · exact (D.md i m' S' e1 e2).app _
    · exact hm.app _
  · rcases List.mem_append.mp h with h | h
    · exact G.wf S' h
    · simp only [List.mem_singleton] at h; subst h; exact hw
  · rw [List.nodup_append]
    refine ⟨G.qn, by simp, fun x hx y hy e => ?_⟩
    simp only [List.mem_singleton] at hy
    subst hy
    exact hS (e ▸ hx)
  · obtain ⟨ns, e, k⟩ := G.ro s b hb
    obtain ⟨_, b1, b2, b3, b4, b5, _⟩ := hr s b hb
    refine ⟨ns, fr _ _ e (by simp [GA.m5, b1, b2, b3, b4, b5]), fun i n hn => getElem?_app (k i n hn) _⟩
section
variable {P : Program} {w : World} {K : PySem.W.Frag} {mg : Str → Option Value} {base : Heap}
def sp_kept (C : Addr) : Sp := fun vs H Q _ => ∃ (a : GA) (rows : List (Int × Addr)) (q : List Sq) (S : Sq) (t : Addr) (m : List Int) (v : V), vs = [.ref a.g, .ref t, .int (S.level : Int), .int S.lives, v] ∧ GAt C H a rows q ∧ H t = some (.tup (m.map V.int)) ∧ Made q S m ∧ S.wf ∧ S ∉ q ∧ SpanV H v S.span ∧ q.length < 16000000 ∧
  ∀ H', GAt C H' a rows (q ++ [S]) → Fr a.m5 H H' → Q (.int (q.length : Int)) H'
theorem sizeBig : 16000000 < sizeLine := by decide
theorem ok_kept (T : Env fa fn K mg) : Good P w K mg base CX0 1 ("Grove", some "kept") ["self", "made", "level", "lives", "span"] (sp_kept (CG K)) := by
  refine good_mk T 6 (d := d_Grove_kept) (N := ["self", "made", "level", "lives", "span", "number"]) (ps := ["self", "made", "level", "lives", "span"]) rfl rfl sc_Grove_kept (fun _ _ _ _ _ _ us hl => match us, hl with | [_, _, _, _, _], _ => rfl) (fun vs H Q E h => ?_) (fun f cdv A outer s H vs Q E hr h => ?_)
  · obtain ⟨a, rows, q, S, t, m, v, rfl, _⟩ := h; rfl
  · obtain ⟨a, rows, q, S, t, m, v, rfl, G, ht, hm, hw, hS, hv, hlen, k⟩ := h
    have hu := hu_of hr
    have cl : Cls K (CG K) := T.cls 9
    have hsz := sizeBig
    obtain ⟨tups, mk, spt, D⟩ := id G.da
    obtain ⟨⟨g1, g2, g3, g4, g5, g6⟩, ⟨n1, n2, n3, n4, n5⟩, ⟨m1, m2, m3, m4⟩, ⟨l1, l2, l3⟩, ⟨v1, v2⟩, s1, _⟩ := nd_of G.nd
    have hob := G.ob
    have hn := D.hn
    have hm' := D.hm
    have hl := D.hl
    have hv' := D.hv
    have hs := D.hs
    have ne : ∀ b o, H b = some o → (∀ xs, o ≠ .tup xs) → b ≠ t := fun b o e h => ne_of e ht (h _)
    refine ⟨_, (pss_cons (ps_set (i := 5) sc_Grove_kept.nd rfl (Or.inl rfl) (pe_callB (call_lenK K rfl) (by rfl) (T.free 8) (by decide +kernel) (pa_cons (pe_fldK K rfl (pv 0) rfl) pa_nil)))
      (pss_cons (ps_dput hu (pe_fldK K rfl (pv 0) rfl) (pv 1) (pv 5) rfl)
      (pss_cons (ps_expr (pe_bm PySem.F.plainAttrs_list PySem.F.slot_list_append PySem.F.type_list_append mt_append (pe_fldK K rfl (pv 0) rfl) (pa_cons (pv 1) pa_nil)))
      (pss_cons (ps_expr (pe_bm PySem.F.plainAttrs_list PySem.F.slot_list_append PySem.F.type_list_append mt_append (pe_fldK K rfl (pv 0) rfl) (pa_cons (pv 2) pa_nil)))
      (pss_cons (ps_expr (pe_bm PySem.F.plainAttrs_list PySem.F.slot_list_append PySem.F.type_list_append mt_append (pe_fldK K rfl (pv 0) rfl) (pa_cons (pv 3) pa_nil)))
      (pss_cons (ps_expr (pe_bm PySem.F.plainAttrs_list PySem.F.slot_list_append PySem.F.type_list_append mt_append (pe_fldK K rfl (pv 0) rfl) (pa_cons (pv 4) pa_nil)))
      (pss_one (ps_ret (pv 5))))))))), ?_⟩
    walk_at "rd"
    refine rd_fldR hob cl (T.noat 59) (by rfl) ?_
    walk_at "rd"
    refine rd_len (SqL.of hm') ?_
    walk_at "rd"
    refine rd_fldR hob cl (T.noat 60) (by rfl) ?_
    walk_at "rd"
    refine ⟨a.dn, _, rfl, DPut.t (k := m.map Sum.inl) hn (by rw [inl_kV]; exact ht) (by rw [kvsOf_len, D.lm]; omega), ?_⟩
    have hnone : valV (kvsOf mk 0) (m.map Sum.inl) = none := by
      rw [valV_kvsOf]
      cases e : lookI mk m 0 with
      | none => rfl
      | some n => exact (hS (List.mem_of_getElem? ((look_of G.qn D.lm D.md hm).1 n e))).elim
    rw [putK_new _ hnone]
    have e1 : kvsOf mk 0 ++ [(m.map Sum.inl, V.int (((tups.map V.ref).length : Nat) : Int))] = kvsOf (mk ++ [m]) 0 := by
      rw [kvsOf_app, Nat.zero_add, D.lm, List.length_map, D.lt]
    rw [e1]
    walk_at "rd"
    refine rd_fldR (by walk_at "hp") cl (T.noat 59) (by rfl) ?_
    refine rd_tyL (by walk_at "hp") ?_
    walk_at "rd"
    refine rd_append (xs := tups.map V.ref) (by walk_at "hp") (by rw [List.length_map, D.lt]; omega) ?_
    walk_at "rd"
    refine rd_fldR (by walk_at "hp") cl (T.noat 57) (by rfl) ?_
    refine rd_tyL (xs := q.map fun S => V.int (S.level : Int)) (by walk_at "hp") ?_
    walk_at "rd"
    refine rd_append (xs := q.map fun S => V.int (S.level : Int)) (by walk_at "hp") (by rw [List.length_map]; omega) ?_
    walk_at "rd"
    refine rd_fldR (by walk_at "hp") cl (T.noat 58) (by rfl) ?_
    refine rd_tyL (xs := q.map fun S => V.int S.lives) (by walk_at "hp") ?_
    walk_at "rd"
    refine rd_append (xs := q.map fun S => V.int S.lives) (by walk_at "hp") (by rw [List.length_map]; omega) ?_
    walk_at "rd"
    refine rd_fldR (by walk_at "hp") cl (T.noat 62) (by rfl) ?_
    refine rd_tyL (xs := spt) (by walk_at "hp") ?_
    walk_at "rd"
    refine rd_append (xs := spt) (by walk_at "hp") (by rw [D.ls]; omega) ?_
    walk_at "rd"
    rw [List.length_map, D.lt]
    refine k _ (gat_kept G D ht hm hw hS hv (by walk_at "hp") ((by walk_at "hp" : _ = some (HO.lst (tups.map V.ref ++ [V.ref t]))).trans (by simp)) ((by walk_at "hp" : _ = some (HO.lst ((q.map fun S => V.int (S.level : Int)) ++ [V.int (S.level : Int)]))).trans (by simp)) ((by walk_at "hp" : _ = some (HO.lst ((q.map fun S => V.int S.lives) ++ [V.int S.lives]))).trans (by simp)) (by walk_at "hp") ?fr) ?fr
    case fr =>
      intro b o e hb
      simp only [GA.m5, List.mem_cons, List.not_mem_nil, or_false, not_or] at hb
      obtain ⟨b1, b2, b3, b4, b5⟩ := hb
      walk_at "hp"
/-! ### cell and knit -/
theorem take_snoc {α : Type} {l : List α} {i : Nat} {v : α} (h : l[i]? = some v) : l.take (i + 1) = l.take i ++ [v] := by
  rw [List.take_add_one, h]; rfl
def sp_cell (C : Addr) : Sp := fun vs H Q _ => ∃ (a : GA) (rows : List (Int × Addr)) (q : List Sq) (s : Int), vs = [.ref a.g, .int s] ∧ GAt C H a rows q ∧ 0 ≤ s ∧ s ≤ 7 ∧ q.length < 16000000 ∧
  ∀ H' q' (n : Nat), GAt C H' a rows q' → q <+: q' → q'.length ≤ q.length + 1 → q'[n]? = some (.leaf s) → Fr a.m5 H H' → Q (.int (n : Int)) H'
theorem ok_cell (T : Env fa fn K mg) : Good P w K mg base CX0 2 ("Grove", some "cell") ["self", "state"] (sp_cell (CG K)) := by
  have G_Grove_kept := ok_kept (P := P) (w := w) (base := base) T
  refine good_mk T 7 (d := d_Grove_cell) (N := ["self", "state", "made"]) (ps := ["self", "state"]) rfl rfl sc_Grove_cell (fun _ _ _ _ _ _ us hl => match us, hl with | [_, _], _ => rfl) (fun vs H Q E h => ?_) (fun f cdv A outer s H vs Q E hr h => ?_)
  · obtain ⟨a, rows, q, s, rfl, _⟩ := h; rfl
  · obtain ⟨a, rows, q, s, rfl, G, h0, h7, hlen, k⟩ := h
    have hu := hu_of hr
    have cl : Cls K (CG K) := T.cls 9
    obtain ⟨na1, na2, na3, na4, na5, na6⟩ := noats T
    refine ⟨_, (pss_cons (ps_set (i := 2) sc_Grove_cell.nd rfl (Or.inl rfl) (pe_tup (pa_cons (pv 1) pa_nil)))
      (pss_cons (ps_if (pt_cmp (pc_din hu (pv 2) (pe_fldK K rfl (pv 0) rfl))) (pss_one (ps_ret (pe_dget hu (pe_fldK K rfl (pv 0) rfl) (pv 2) (fun _ _ => rfl)))) pss_nil)
      (pss_cons (ps_if (pt_cmpR op_eq (pv 1) pe_int (nomark _)) (pss_one (ps_ret (pe_mgK K rfl (pv 0) (T.cls 9) (T.meth 10) G_Grove_kept (hr.mono (by decide)) (pa_cons (pv 2) (pa_cons pe_int (pa_cons pe_int (pa_cons pe_non pa_nil))))))) pss_nil)
      (pss_one (ps_ret (pe_mgK K rfl (pv 0) (T.cls 9) (T.meth 10) G_Grove_kept (hr.mono (by decide)) (pa_cons (pv 2) (pa_cons pe_int (pa_cons pe_int (pa_cons (pe_tup (pa_cons pe_int (pa_cons pe_int (pa_cons pe_int (pa_cons pe_int pa_nil))))) pa_nil)))))))))), ?_⟩
    walk_at "rd"
    refine rd_new (hn := by show 1 ≤ sizeLine; decide) fun t ht => ?_
    walk_at "rd"
    have sm := same_upd (o := HO.tup [V.int s]) ht
    have G1 := G.same sm
    have ob1 := G1.ob
    obtain ⟨tups, mk, spt, D⟩ := G1.da
    have hT : (upd H t (HO.tup [V.int s])) t = some (.tup ([s].map V.int)) := upd_same
    have hT' : (upd H t (HO.tup [V.int s])) t = some (.tup (([s].map (Sum.inl : Int → Key)).map kV)) := upd_same
    walk_at "rd"
    refine ⟨a.dn, _, rfl, DGet.t (k := [s].map Sum.inl) D.hn hT', ?_⟩
    rw [valV_kvsOf]
    obtain ⟨L1, L2⟩ := look_of G.qn D.lm D.md (S := .leaf s) (m := [s]) rfl
    cases e : lookI mk [s] 0 with
    | some n =>
      walk_at "rd"
      refine iteT ?_
      walk_at "rd"
      refine ⟨a.dn, .int (n : Int), rfl, ?_, ?_⟩
      · have z := DGet.t (k := [s].map Sum.inl) D.hn hT'
        rw [valV_kvsOf, e] at z
        exact z
      · exact k _ q n G1 (List.prefix_refl _) (by omega) (L1 n e) (fr_of sm)
    | none =>
      walk_at "rd"
      refine iteF ?_
      walk_at "rd"
      have hS := L2 e
      have fin : ∀ H', GAt (CG K) H' a rows (q ++ [Sq.leaf s]) → Fr a.m5 (upd H t (HO.tup [V.int s])) H' → Q (.int (q.length : Int)) H' := fun H' g fr =>
        k H' _ q.length g (List.prefix_append _ _) (by simp) (by simp) ((fr_of sm).trans fr)
      refine ite_d (fun hs => ?_) (fun hs => ?_)
      · walk_at "rd"
        refine rd_methR G1.ob (by rfl) ?_
        walk_at "rd"
        exact ⟨a, rows, q, .leaf s, t, [s], .non, by simp [Sq.level, Sq.lives, hs], G1, hT, rfl, ⟨h0, h7⟩, hS, by simp [Sq.span, hs, SpanV], hlen, fin⟩
      · walk_at "rd"
        refine rd_methR G1.ob (by rfl) ?_
        walk_at "rd"
        refine rd_new (hn := by show 4 ≤ sizeLine; decide) fun t2 ht2 => ?_
        walk_at "rd"
        have sm2 := same_upd (o := HO.tup [V.int 0, V.int 0, V.int 1, V.int 1]) ht2
        exact ⟨a, rows, q, .leaf s, t, [s], .ref t2, by simp [Sq.level, Sq.lives, hs], G1.same sm2, sm2 _ _ hT, rfl, ⟨h0, h7⟩, hS, by simp only [Sq.span, hs, if_false]; exact ⟨t2, rfl, upd_same⟩, hlen, fun H' g fr => fin H' g ((fr_of sm2).trans fr)⟩
def sp_knit (C : Addr) : Sp := fun vs H Q _ => ∃ (a : GA) (rows : List (Int × Addr)) (q : List Sq) (A B C' D : Sq) (na nb nc nd : Nat), vs = [.ref a.g, .int (na : Int), .int (nb : Int), .int (nc : Int), .int (nd : Int)] ∧ GAt C H a rows q ∧
  q[na]? = some A ∧ q[nb]? = some B ∧ q[nc]? = some C' ∧ q[nd]? = some D ∧ (Sq.node A B C' D).wf ∧ A.level ≤ 60 ∧ q.length < 16000000 ∧
  ∀ H' q' (n : Nat), GAt C H' a rows q' → q <+: q' → q'.length ≤ q.length + 1 → q'[n]? = some (.node A B C' D) → Fr a.m5 H H' → Q (.int (n : Int)) H'
theorem map_get {α β : Type} {l : List α} {n : Nat} {x : α} (f : α → β) (h : l[n]? = some x) : (l.map f)[n]? = some (f x) := by
  rw [List.getElem?_map, h]; rfl
theorem acc4_r4 (half : Int) (a b c d : Option Box) : acc4 half [a, b, c, d] 4 = r4 half a b c d := rfl
theorem ok_knit (T : Env fa fn K mg) : Good P w K mg base CX0 3 ("Grove", some "knit") ["self", "a", "b", "c", "d"] (sp_knit (CG K)) := by
  have G_Grove_kept := ok_kept (P := P) (w := w) (base := base) T
  have G_round_four := ok_round_four (P := P) (w := w) (base := base) T
  refine good_mk T 8 (d := d_Grove_knit) (N := ["self", "a", "b", "c", "d", "made", "level", "lives", "span", "one"]) (ps := ["self", "a", "b", "c", "d"]) rfl rfl sc_Grove_knit (fun _ _ _ _ _ _ us hl => match us, hl with | [_, _, _, _, _], _ => rfl) (fun vs H Q E h => ?_) (fun f cdv A outer s H vs Q E hr h => ?_)
  · obtain ⟨a, rows, q, A, B, C', D, na, nb, nc, nd, rfl, _⟩ := h; rfl
  · obtain ⟨a, rows, q, A, B, C', D, na, nb, nc, nd, rfl, G, ha, hb, hc, hd, hwf, hlv, hlen, k⟩ := h
    have hu := hu_of hr
    have cl : Cls K (CG K) := T.cls 9
    obtain ⟨na1, na2, na3, na4, na5, na6⟩ := noats T
    refine ⟨_, (pss_cons (ps_set (i := 5) sc_Grove_knit.nd rfl (Or.inl rfl) (pe_tup (pa_cons (pv 1) (pa_cons (pv 2) (pa_cons (pv 3) (pa_cons (pv 4) pa_nil))))))
      (pss_cons (ps_if (pt_cmp (pc_din hu (pv 5) (pe_fldK K rfl (pv 0) rfl))) (pss_one (ps_ret (pe_dget hu (pe_fldK K rfl (pv 0) rfl) (pv 5) (fun _ _ => rfl)))) pss_nil)
      (pss_cons (ps_set (i := 6) sc_Grove_knit.nd rfl (Or.inl rfl) (pe_ix (ix_listK K rfl) (pe_fldK K rfl (pv 0) rfl) (pv 1) (fun _ _ => rfl)))
      (pss_cons (ps_set (i := 7) sc_Grove_knit.nd rfl (Or.inl rfl) (pe_op op_add (pe_op op_add (pe_op op_add (pe_ix (ix_listK K rfl) (pe_fldK K rfl (pv 0) rfl) (pv 1) (fun _ _ => rfl)) (pe_ix (ix_listK K rfl) (pe_fldK K rfl (pv 0) rfl) (pv 2) (fun _ _ => rfl))) (pe_ix (ix_listK K rfl) (pe_fldK K rfl (pv 0) rfl) (pv 3) (fun _ _ => rfl))) (pe_ix (ix_listK K rfl) (pe_fldK K rfl (pv 0) rfl) (pv 4) (fun _ _ => rfl))))
      (pss_cons (ps_set (i := 8) sc_Grove_knit.nd rfl (Or.inl rfl) (pe_cgK K rfl G_round_four (hr.mono (by decide)) (T.glo 11) (pa_cons (pe_lc (own := [("one", 9)]) (tt := tYes) rfl sc_Grove_knit.nd (pi_tupK K rfl (pv 5)) (blkOk_by (own := [("one", 9)]) (N := ["self", "a", "b", "c", "d", "made", "level", "lives", "span", "one"]) (sc := defScope st_Grove_knit) (by decide +kernel)) (fun _ _ _ _ _ => by exact (pg_name (i := 9) sc_Grove_knit.nd rfl (Or.inl rfl))) (fun _ _ _ _ _ => by exact pts_nil) (fun _ _ _ _ _ => by exact (pe_ix (ix_listK K rfl) (pe_fldK K rfl (pv 0) rfl) (pv 9) (fun _ _ => rfl)))) (pa_cons (pe_op op_shl pe_int (pv 6)) pa_nil))))
      (pss_one (ps_ret (pe_mgK K rfl (pv 0) (T.cls 9) (T.meth 10) G_Grove_kept (hr.mono (by decide)) (pa_cons (pv 5) (pa_cons (pe_op op_add (pv 6) pe_int) (pa_cons (pv 7) (pa_cons (pv 8) pa_nil)))))))))))), ?_⟩
    walk_at "rd"
    refine rd_new (hn := by show 4 ≤ sizeLine; decide) fun t ht => ?_
    walk_at "rd"
    have sm := same_upd (o := HO.tup [V.int (na : Int), V.int (nb : Int), V.int (nc : Int), V.int (nd : Int)]) ht
    have G1 := G.same sm
    have ob1 := G1.ob
    have hT : (upd H t (HO.tup [V.int (na : Int), V.int (nb : Int), V.int (nc : Int), V.int (nd : Int)])) t = some (.tup [V.int (na : Int), V.int (nb : Int), V.int (nc : Int), V.int (nd : Int)]) := upd_same
    generalize hH1 : upd H t (HO.tup [V.int (na : Int), V.int (nb : Int), V.int (nc : Int), V.int (nd : Int)]) = H1 at sm G1 ob1 hT ⊢
    obtain ⟨tups, mk, spt, Dt⟩ := G1.da
    have hT' : H1 t = some (.tup (([(na : Int), (nb : Int), (nc : Int), (nd : Int)].map (Sum.inl : Int → Key)).map kV)) := hT
    walk_at "rd"
    refine ⟨a.dn, _, rfl, DGet.t (k := [(na : Int), (nb : Int), (nc : Int), (nd : Int)].map Sum.inl) Dt.hn hT', ?_⟩
    rw [valV_kvsOf]
    have hM : Made q (.node A B C' D) [(na : Int), (nb : Int), (nc : Int), (nd : Int)] := ⟨na, nb, nc, nd, rfl, ha, hb, hc, hd⟩
    obtain ⟨L1, L2⟩ := look_of G.qn Dt.lm Dt.md hM
    cases e : lookI mk [(na : Int), (nb : Int), (nc : Int), (nd : Int)] 0 with
    | some n =>
      walk_at "rd"
      refine iteT ?_
      walk_at "rd"
      refine ⟨a.dn, .int (n : Int), rfl, ?_, ?_⟩
      · have z := DGet.t (k := [(na : Int), (nb : Int), (nc : Int), (nd : Int)].map Sum.inl) Dt.hn hT'
        rw [valV_kvsOf, e] at z
        exact z
      · exact k _ q n G1 (List.prefix_refl _) (by omega) (L1 n e) (fr_of sm)
    | none =>
      walk_at "rd"
      refine iteF ?_
      walk_at "rd"
      have hS := L2 e
      obtain ⟨wa, wb, wc, wd, l1, l2, l3⟩ := id hwf
      walk_at "rd"
      refine rd_ixL (SqL.of Dt.hl) (atI_nat (map_get (fun S : Sq => V.int (S.level : Int)) ha)) ?_
      walk_at "rd"
      refine rd_ixL (SqL.of Dt.hv) (atI_nat (map_get (fun S : Sq => V.int S.lives) ha)) ?_
      walk_at "rd"
      refine rd_ixL (SqL.of Dt.hv) (atI_nat (map_get (fun S : Sq => V.int S.lives) hb)) ?_
      walk_at "rd"
      refine rd_ixL (SqL.of Dt.hv) (atI_nat (map_get (fun S : Sq => V.int S.lives) hc)) ?_
      walk_at "rd"
      refine rd_ixL (SqL.of Dt.hv) (atI_nat (map_get (fun S : Sq => V.int S.lives) hd)) ?_
      walk_at "rd"
      have sv : ∀ (n : Nat) S, q[n]? = some S → ∃ v, spt[n]? = some v ∧ SpanV H1 v S.span := fun n S h => by
        have hn : n < spt.length := by rw [Dt.ls]; exact (List.getElem?_eq_some_iff.mp h).1
        exact ⟨spt[n], by simp [hn], Dt.sp n _ S (by simp [hn]) h⟩
      obtain ⟨va, ea, pa⟩ := sv _ _ ha
      obtain ⟨vb, eb, pb⟩ := sv _ _ hb
      obtain ⟨vc, ec, pc⟩ := sv _ _ hc
      obtain ⟨vd, ed, pd⟩ := sv _ _ hd
      refine ⟨t, rfl, ⟨_, SqT.of hT⟩, fun dl hdl => ?_⟩
      have ndl : ∀ b o, H1 b = some o → b ≠ dl := fun b o e => ne_of_none e hdl
      refine lc_tup (K := K) (xs := [V.int (na : Int), V.int (nb : Int), V.int (nc : Int), V.int (nd : Int)]) (fun i H' => H' = upd H1 dl (.lst ([va, vb, vc, vd].take i))) rfl (fun i H' _ e => SqT.of (by rw [e, upd_ne (ndl _ _ hT)]; exact hT)) ?_ ?_
      · rintro i x H' hx rfl
        obtain ⟨n, v, rfl, e1, e2⟩ : ∃ (n : Nat) (v : V), x = .int (n : Int) ∧ spt[n]? = some v ∧ [va, vb, vc, vd][i]? = some v := by
          match i, hx with
          | 0, hx => exact ⟨na, va, (Option.some.inj hx).symm, ea, rfl⟩
          | 1, hx => exact ⟨nb, vb, (Option.some.inj hx).symm, eb, rfl⟩
          | 2, hx => exact ⟨nc, vc, (Option.some.inj hx).symm, ec, rfl⟩
          | 3, hx => exact ⟨nd, vd, (Option.some.inj hx).symm, ed, rfl⟩
        walk_at "rd"
        refine ⟨rfl, ?_⟩
        walk_at "rd"
        refine rd_fldR (by rw [upd_ne (ndl _ _ G1.ob)]; exact G1.ob) cl na5 (by rfl) ?_
        walk_at "rd"
        refine rd_ixL (SqL.of (by rw [upd_ne (ndl _ _ Dt.hs)]; exact Dt.hs)) (atI_nat e1) ?_
        refine ⟨_, upd_same, ?_, ?_⟩
        · have : (([va, vb, vc, vd] : List V).take i).length ≤ 4 := by rw [List.length_take]; exact Nat.min_le_right _ _
          exact small1000 (by omega)
        · rw [upd_upd, take_snoc e2]
      · rintro H' rfl
        have s2 := same_upd (o := HO.lst [va, vb, vc, vd]) hdl
        walk_at "rd"
        refine rd_I (by refine ⟨by omega, by omega, by decide⟩) ?_
        walk_at "rd"
        have eh : (1 : Int) * 2 ^ ((A.level : Int)).toNat = 2 ^ A.level := by rw [Int.one_mul, Int.toNat_natCast]
        refine ⟨dl, [va, vb, vc, vd], [A.span, B.span, C'.span, D.span], _, rfl, upd_same, rfl, rfl, ?_, ?_, ?_, fun H2 u s3 hu2 => ?_⟩
        · intro i v o h1 h2
          match i, h1, h2 with
          | 0, h1, h2 => cases h1; cases h2; exact pa.keep fun b xs e => s2 _ _ e
          | 1, h1, h2 => cases h1; cases h2; exact pb.keep fun b xs e => s2 _ _ e
          | 2, h1, h2 => cases h1; cases h2; exact pc.keep fun b xs e => s2 _ _ e
          | 3, h1, h2 => cases h1; cases h2; exact pd.keep fun b xs e => s2 _ _ e
        · have e2 : (0 : Int) < 2 ^ A.level := Int.pow_pos (by decide)
          rw [eh]; omega
        · have e2 : 2 ^ A.level < 2 ^ 64 := Nat.pow_lt_pow_right (by decide) (by omega)
          rw [eh]
          exact_mod_cast e2
        · rw [eh, acc4_r4] at hu2
          have s13 : Same H1 H2 := fun b o e => s3 b o (by rw [upd_ne (ndl _ _ e)]; exact e)
          walk_at "rd"
          refine rd_methR (s13 _ _ G1.ob) (by rfl) ?_
          walk_at "rd"
          refine ⟨a, rows, q, .node A B C' D, t, [(na : Int), (nb : Int), (nc : Int), (nd : Int)], u, ?_, G1.same s13, s13 _ _ hT, hM, hwf, hS, ?_, hlen, fun H' g fr => k H' _ q.length g (List.prefix_append _ _) (by simp) (by simp) (((fr_of sm).trans (fr_of s13)).trans fr)⟩
          · have e1 : (V.int ((A.level : Int) + 1)) = V.int (((Sq.node A B C' D).level : Nat) : Int) := rfl
            rw [← e1]; rfl
          · exact hu2
theorem mp_kept {C : Addr} : MonP (sp_kept C) := fun vs H Q Q' E h ⟨a, rows, q, S, t, m, v, x1, x2, x3, x4, x5, x6, x7, x8, k⟩ => ⟨a, rows, q, S, t, m, v, x1, x2, x3, x4, x5, x6, x7, x8, fun H' g f => h _ _ (k H' g f)⟩
theorem mp_cell {C : Addr} : MonP (sp_cell C) := fun vs H Q Q' E h ⟨a, rows, q, s, x1, x2, x3, x4, x5, k⟩ => ⟨a, rows, q, s, x1, x2, x3, x4, x5, fun H' q' n g p l e f => h _ _ (k H' q' n g p l e f)⟩
theorem mp_knit {C : Addr} : MonP (sp_knit C) := fun vs H Q Q' E h ⟨a, rows, q, A, B, C', D, na, nb, nc, nd, x1, x2, x3, x4, x5, x6, x7, x8, x9, k⟩ => ⟨a, rows, q, A, B, C', D, na, nb, nc, nd, x1, x2, x3, x4, x5, x6, x7, x8, x9, fun H' q' n g p l e f => h _ _ (k H' q' n g p l e f)⟩
end
end JF

/-! ### the grove's methods: __init__, even -/
namespace JF
open PySem PySem.Spec PyProof.Rows L2
section
variable {P : Program} {w : World} {K : PySem.W.Frag} {mg : Str → Option Value} {base : Heap}
def sp_ginit (C : Addr) : Sp := fun vs H Q _ => ∃ (p dx : Addr), vs = [.ref p] ∧ H p = some (.ins C dx []) ∧ ∀ (a : GA) (H' : Hp), a.g = p → GAt C H' a [] [] → (∀ b ∈ a.muts [], H b = none) → (∀ b o, H b = some o → b ≠ p → H' b = some o) → Q .non H'
theorem ok_ginit (T : Env fa fn K mg) : Good P w K mg base CX0 1 ("Grove", some "__init__") ["self"] (sp_ginit (CG K)) := by
  refine good_mk T 5 (d := d_Grove_init) (N := ["self"]) (ps := ["self"]) rfl rfl sc_Grove_init (fun _ _ _ _ _ _ us hl => match us, hl with | [_], _ => rfl) (fun vs H Q E h => ?_) (fun f cdv A outer s H vs Q E hr h => ?_)
  · obtain ⟨p, dx, rfl, _⟩ := h; rfl
  · obtain ⟨p, dx, rfl, hp, k⟩ := h
    have cl : Cls K (CG K) := T.cls 9
    obtain ⟨na1, na2, na3, na4, na5, na6⟩ := noats T
    refine ⟨_, (pss_cons (ps_fld (pv 0) pe_dnewT rfl)
      (pss_cons (ps_fld (pv 0) (pe_lst pa_nil) rfl)
      (pss_cons (ps_fld (pv 0) (pe_lst pa_nil) rfl)
      (pss_cons (ps_fld (pv 0) (pe_lst pa_nil) rfl)
      (pss_cons (ps_fld (pv 0) (pe_lst pa_nil) rfl)
      (pss_one (ps_fld (pv 0) pe_dnewK rfl))))))), ?_⟩
    walk_at "rd"
    intro dn hdn
    have p1 : p ≠ dn := ne_of_none hp hdn
    walk_at "rd"
    refine ⟨p, CG K, dx, [], rfl, by walk_at "hp", cl, na1, by decide, ?_⟩
    walk_at "rd"
    refine rd_new (hn := by show 0 ≤ sizeLine; decide) fun dm hdm => ?_
    have p2 : p ≠ dm := ne_of_none upd_same hdm
    have e1 : dn ≠ dm := ne_of_none (by rw [upd_ne p1.symm, upd_same]) hdm
    walk_at "rd"
    refine ⟨p, CG K, dx, _, rfl, by walk_at "hp", cl, na2, (by show 1 < 1000; decide), ?_⟩
    walk_at "rd"
    refine rd_new (hn := by show 0 ≤ sizeLine; decide) fun dl hdl => ?_
    have p3 : p ≠ dl := ne_of_none upd_same hdl
    have e2 : dn ≠ dl := ne_of_none (o := .dT []) (by walk_at "hp") hdl
    have e3 : dm ≠ dl := ne_of_none (o := .lst []) (by walk_at "hp") hdl
    walk_at "rd"
    refine ⟨p, CG K, dx, _, rfl, by walk_at "hp", cl, na3, (by show 2 < 1000; decide), ?_⟩
    walk_at "rd"
    refine rd_new (hn := by show 0 ≤ sizeLine; decide) fun dv hdv => ?_
    have p4 : p ≠ dv := ne_of_none upd_same hdv
    have f1 : dn ≠ dv := ne_of_none (o := .dT []) (by walk_at "hp") hdv
    have f2 : dm ≠ dv := ne_of_none (o := .lst []) (by walk_at "hp") hdv
    have f3 : dl ≠ dv := ne_of_none (o := .lst []) (by walk_at "hp") hdv
    walk_at "rd"
    refine ⟨p, CG K, dx, _, rfl, by walk_at "hp", cl, na4, (by show 3 < 1000; decide), ?_⟩
    walk_at "rd"
    refine rd_new (hn := by show 0 ≤ sizeLine; decide) fun ds hds => ?_
    have p5 : p ≠ ds := ne_of_none upd_same hds
    have g1 : dn ≠ ds := ne_of_none (o := .dT []) (by walk_at "hp") hds
    have g2 : dm ≠ ds := ne_of_none (o := .lst []) (by walk_at "hp") hds
    have g3 : dl ≠ ds := ne_of_none (o := .lst []) (by walk_at "hp") hds
    have g4 : dv ≠ ds := ne_of_none (o := .lst []) (by walk_at "hp") hds
    walk_at "rd"
    refine ⟨p, CG K, dx, _, rfl, by walk_at "hp", cl, na5, (by show 4 < 1000; decide), ?_⟩
    walk_at "rd"
    intro dp hdp
    have p6 : p ≠ dp := ne_of_none upd_same hdp
    have h1 : dn ≠ dp := ne_of_none (o := .dT []) (by walk_at "hp") hdp
    have h2 : dm ≠ dp := ne_of_none (o := .lst []) (by walk_at "hp") hdp
    have h3 : dl ≠ dp := ne_of_none (o := .lst []) (by walk_at "hp") hdp
    have h4 : dv ≠ dp := ne_of_none (o := .lst []) (by walk_at "hp") hdp
    have h5 : ds ≠ dp := ne_of_none (o := .lst []) (by walk_at "hp") hdp
    walk_at "rd"
    refine ⟨p, CG K, dx, _, rfl, by walk_at "hp", cl, na6, (by show 5 < 1000; decide), ?_⟩
    have emp : ∀ (i : Nat) {α : Type} (x : α), ([] : List α)[i]? = some x → False := fun i α x e => by simp at e
    have out : ∀ (b u : Addr) (Hx : Hp) (o : HO), upd Hx u o b = none → Hx b = none := fun b u Hx o e => by
      by_cases z : b = u
      · subst z; rw [upd_same] at e; cases e
      · rw [upd_ne z] at e; exact e
    refine k ⟨p, dx, dn, dm, dl, dv, ds, dp⟩ _ rfl ⟨upd_same, ⟨[], [], [], by walk_at "hp", by walk_at "hp", by walk_at "hp", by walk_at "hp", by walk_at "hp", rfl, rfl, rfl, fun i t m e => (emp i _ e).elim, fun i t m e => (emp i _ e).elim, fun i t m e => (emp i _ e).elim⟩, by simp, by simp, by walk_at "hp", by simp [GA.muts, GA.m5, *], by simp, by simp, by simp⟩ ?_ ?_
    · intro b hb
      simp only [GA.muts, GA.m5, List.cons_append, List.nil_append, List.mem_cons, List.map_nil, List.not_mem_nil, or_false] at hb
      rcases hb with rfl | rfl | rfl | rfl | rfl | rfl
      · exact hdn
      · exact out _ _ _ _ (out _ _ _ _ hdm)
      · exact out _ _ _ _ (out _ _ _ _ (out _ _ _ _ (out _ _ _ _ hdl)))
      · exact out _ _ _ _ (out _ _ _ _ (out _ _ _ _ (out _ _ _ _ (out _ _ _ _ (out _ _ _ _ hdv)))))
      · exact out _ _ _ _ (out _ _ _ _ (out _ _ _ _ (out _ _ _ _ (out _ _ _ _ (out _ _ _ _ (out _ _ _ _ (out _ _ _ _ hds)))))))
      · exact out _ _ _ _ (out _ _ _ _ (out _ _ _ _ (out _ _ _ _ (out _ _ _ _ (out _ _ _ _ (out _ _ _ _ (out _ _ _ _ (out _ _ _ _ (out _ _ _ _ hdp)))))))))
    · intro b o e hb
      have b1 : b ≠ dn := ne_of_none e hdn
      have b2 : b ≠ dm := ne_of_none e (out _ _ _ _ (out _ _ _ _ hdm))
      have b3 : b ≠ dl := ne_of_none e (out _ _ _ _ (out _ _ _ _ (out _ _ _ _ (out _ _ _ _ hdl))))
      have b4 : b ≠ dv := ne_of_none e (out _ _ _ _ (out _ _ _ _ (out _ _ _ _ (out _ _ _ _ (out _ _ _ _ (out _ _ _ _ hdv))))))
      have b5 : b ≠ ds := ne_of_none e (out _ _ _ _ (out _ _ _ _ (out _ _ _ _ (out _ _ _ _ (out _ _ _ _ (out _ _ _ _ (out _ _ _ _ (out _ _ _ _ hds))))))))
      have b6 : b ≠ dp := ne_of_none e (out _ _ _ _ (out _ _ _ _ (out _ _ _ _ (out _ _ _ _ (out _ _ _ _ (out _ _ _ _ (out _ _ _ _ (out _ _ _ _ (out _ _ _ _ (out _ _ _ _ hdp))))))))))
      walk_at "hp"
end
end JF

/-! ### even, and the asking methods -/
namespace JF
open PySem PySem.Spec PyProof.Rows L2
/-- a row of plain squares grows -/
theorem GAt.row {C : Addr} {H : Hp} {a : GA} {rows : List (Int × Addr)} {q : List Sq} {s : Int} {b : Addr} {ns : List Nat} (G : GAt C H a rows q) (h : (s, b) ∈ rows) (hv : ∀ (i : Nat) n, ns[i]? = some n → q[n]? = some (Sq.even i s)) :
    GAt C (L2.upd H b (.lst (ns.map fun (n : Nat) => V.int (n : Int)))) a rows q := by
  obtain ⟨tups, mk, spt, D⟩ := G.da
  obtain ⟨⟨g1, g2, g3, g4, g5, g6⟩, _, _, _, _, _, hr⟩ := nd_of G.nd
  obtain ⟨r1, r2, r3, r4', r5, r6, r7⟩ := hr s b h
  obtain ⟨ns0, hb0, _⟩ := G.ro s b h
  have out : ∀ c xs, H c = some (.tup xs) → L2.upd H b (.lst (ns.map fun (n : Nat) => V.int (n : Int))) c = some (.tup xs) := fun c xs e => by
    rw [upd_ne (by rintro rfl; rw [hb0] at e; cases e)]; exact e
  refine ⟨by rw [upd_ne r1.symm]; exact G.ob, ⟨tups, mk, spt, by rw [upd_ne r2.symm]; exact D.hn, by rw [upd_ne r3.symm]; exact D.hm, by rw [upd_ne r4'.symm]; exact D.hl, by rw [upd_ne r5.symm]; exact D.hv, by rw [upd_ne r6.symm]; exact D.hs, D.lt, D.lm, D.ls,
    fun i t m h1 h2 => out _ _ (D.tu i t m h1 h2), fun i v S h1 h2 => (D.sp i v S h1 h2).keep out, D.md⟩, G.wf, G.qn, by rw [upd_ne r7.symm]; exact G.pl, G.nd, G.rn, G.rs, fun s' b' h' => ?_⟩
  by_cases e : b' = b
  · subst e
    have hs : s' = s := by
      have nd2 : (rows.map (·.2)).Nodup := by
        have z := (List.nodup_cons.mp G.nd).2
        unfold GA.muts at z
        exact (List.nodup_cons.mp (List.nodup_append.mp z).2.1).2
      obtain ⟨i, hi, e1⟩ := List.mem_iff_getElem.mp h
      obtain ⟨j, hj, e2⟩ := List.mem_iff_getElem.mp h'
      have e3 : i = j := (List.getElem_inj (xs := rows.map (·.2)) (h₀ := by simpa using hi) (h₁ := by simpa using hj) nd2).mp (by simp [e1, e2])
      subst e3
      rw [e1] at e2
      exact (congrArg Prod.fst e2).symm
    subst hs
    exact ⟨ns, upd_same, hv⟩
  · obtain ⟨ns', e1, e2⟩ := G.ro s' b' h'
    exact ⟨ns', by rw [upd_ne e]; exact e1, e2⟩
theorem rows_look {rows : List (Int × Addr)} {s : Int} : (∀ v, valV (rows.map fun sa => ((Sum.inl sa.1 : Key), V.ref sa.2)) (Sum.inl s) = some v → ∃ b, (s, b) ∈ rows ∧ v = .ref b) ∧ (valV (rows.map fun sa => ((Sum.inl sa.1 : Key), V.ref sa.2)) (Sum.inl s) = none → s ∉ rows.map (·.1)) := by
  induction rows with
  | nil => exact ⟨fun v h => (by cases h), fun _ => by simp⟩
  | cons x r ih =>
    by_cases e : x.1 = s
    · constructor
      · intro v h
        have h' : some (V.ref x.2) = some v := by rw [← h]; simp [valV, e]
        exact ⟨x.2, by rw [← e]; exact List.mem_cons_self, (Option.some.inj h').symm⟩
      · intro h
        have h' : valV (((x :: r).map fun sa => ((Sum.inl sa.1 : Key), V.ref sa.2))) (Sum.inl s) = some (V.ref x.2) := by simp [valV, e]
        rw [h'] at h; cases h
    · have e' : ¬ ((Sum.inl x.1 : Key) = Sum.inl s) := fun z => e (Sum.inl.inj z)
      have eq : valV (((x :: r).map fun sa => ((Sum.inl sa.1 : Key), V.ref sa.2))) (Sum.inl s) = valV ((r.map fun sa => ((Sum.inl sa.1 : Key), V.ref sa.2))) (Sum.inl s) := by
        simp [valV, e]
      rw [eq]
      refine ⟨fun v h => ?_, fun h => ?_⟩
      · obtain ⟨b, h1, h2⟩ := ih.1 v h
        exact ⟨b, List.mem_cons_of_mem _ h1, h2⟩
      · simp only [List.map_cons, List.mem_cons, not_or]
        exact ⟨fun z => e z.symm, ih.2 h⟩
/-- a new row -/
theorem GAt.addrow {C : Addr} {H : Hp} {a : GA} {rows : List (Int × Addr)} {q : List Sq} {s : Int} {p : Addr} (G : GAt C H a rows q) (hp : H p = none) (hs : s ∉ rows.map (·.1)) (h0 : 0 ≤ s) (h7 : s ≤ 7) :
    GAt C (L2.upd (L2.upd H p (.lst [])) a.dp (.dK ((rows.map fun sa => ((Sum.inl sa.1 : Key), V.ref sa.2)) ++ [((Sum.inl s : Key), V.ref p)]))) a (rows ++ [(s, p)]) q := by
  have G1 := G.same (same_upd (o := .lst []) hp)
  obtain ⟨tups, mk, spt, D⟩ := G1.da
  obtain ⟨⟨g1, g2, g3, g4, g5, g6⟩, ⟨n1, n2, n3, n4, n5⟩, ⟨m1, m2, m3, m4⟩, ⟨l1, l2, l3⟩, ⟨v1, v2⟩, s1, hr⟩ := nd_of G.nd
  have hdp : ∀ xs, L2.upd H p (.lst []) a.dp ≠ some (.tup xs) := fun xs e => by rw [G1.pl] at e; cases e
  have out : ∀ c xs o, L2.upd H p (.lst []) c = some (.tup xs) → L2.upd (L2.upd H p (.lst [])) a.dp o c = some (.tup xs) := fun c xs o e => by
    rw [upd_ne (by rintro rfl; exact hdp _ e)]; exact e
  refine ⟨by rw [upd_ne g6]; exact G1.ob, ⟨tups, mk, spt, by rw [upd_ne n5]; exact D.hn, by rw [upd_ne m4]; exact D.hm, by rw [upd_ne l3]; exact D.hl, by rw [upd_ne v2]; exact D.hv, by rw [upd_ne s1]; exact D.hs, D.lt, D.lm, D.ls,
    fun i t m h1 h2 => out _ _ _ (D.tu i t m h1 h2), fun i v S h1 h2 => (D.sp i v S h1 h2).keep fun b xs e => out _ _ _ e, D.md⟩, G1.wf, G1.qn, by rw [upd_same, List.map_append]; rfl, ?_, ?_, fun s' h' => ?_, fun s' b' h' => ?_⟩
  · have hout := G.new_out hp
    have hg : a.g ≠ p := ne_of_none G.ob hp
    have z := G.nd
    rw [List.nodup_cons] at z ⊢
    have em : a.muts (rows ++ [(s, p)]) = a.muts rows ++ [p] := by simp [GA.muts]
    rw [em]
    refine ⟨fun h => ?_, ?_⟩
    · rcases List.mem_append.mp h with h | h
      · exact z.1 h
      · simp only [List.mem_singleton] at h; exact hg h
    · rw [List.nodup_append]
      refine ⟨z.2, by simp, fun x hx y hy e => ?_⟩
      simp only [List.mem_singleton] at hy
      subst hy
      exact hout (e ▸ hx)
  · rw [List.map_append, List.nodup_append]
    refine ⟨G.rn, by simp, fun x hx y hy e => ?_⟩
    simp only [List.map_cons, List.map_nil, List.mem_singleton] at hy
    subst hy
    exact hs (e ▸ hx)
  · rw [List.map_append] at h'
    rcases List.mem_append.mp h' with h' | h'
    · exact G.rs s' h'
    · simp only [List.map_cons, List.map_nil, List.mem_singleton] at h'
      subst h'; exact ⟨h0, h7⟩
  · rcases List.mem_append.mp h' with h' | h'
    · obtain ⟨ns, e1, e2⟩ := G1.ro s' b' h'
      obtain ⟨_, _, _, _, _, _, r7⟩ := hr s' b' h'
      exact ⟨ns, by rw [upd_ne r7]; exact e1, e2⟩
    · simp only [List.mem_singleton, Prod.mk.injEq] at h'
      obtain ⟨rfl, rfl⟩ := h'
      have : b' ≠ a.dp := (ne_of_none G.pl hp).symm
      exact ⟨[], by rw [upd_ne this, upd_same]; rfl, fun i n h => by simp at h⟩
theorem fr_muts {a : GA} {rows : List (Int × Addr)} {H H' : Hp} (h : Fr a.m5 H H') : Fr (a.muts rows) H H' := h.mono fun b hb => List.mem_append_left _ hb
theorem row_mem {a : GA} {rows : List (Int × Addr)} {s : Int} {b : Addr} (h : (s, b) ∈ rows) : b ∈ a.muts rows :=
  List.mem_append_right _ (List.mem_cons_of_mem _ (List.mem_map_of_mem (f := fun sa : Int × Addr => sa.2) h))
/-- knit's and cell's way: the rows stay -/
theorem GStep.m5 {C : Addr} {H H1 H2 : Hp} {a : GA} {rows r1 : List (Int × Addr)} {q q1 q2 : List Sq} (x : GStep C H a rows q H1 r1 q1) (G : GAt C H2 a r1 q2) (p : q1 <+: q2) (f : Fr a.m5 H1 H2) : GStep C H a rows q H2 r1 q2 :=
  x.trans ⟨G, p, fr_muts f, fun _ h => .inl h⟩
theorem GStep.row {C : Addr} {H H1 : Hp} {a : GA} {rows r1 : List (Int × Addr)} {q q1 : List Sq} {s : Int} {b : Addr} {ns : List Nat} (x : GStep C H a rows q H1 r1 q1) (h : (s, b) ∈ r1) (hv : ∀ (i : Nat) n, ns[i]? = some n → q1[n]? = some (Sq.even i s)) :
    GStep C H a rows q (L2.upd H1 b (.lst (ns.map fun (n : Nat) => V.int (n : Int)))) r1 q1 :=
  x.trans ⟨x.gat.row h hv, List.prefix_refl _, fun c o e n => by rw [upd_ne (by rintro rfl; exact n (row_mem h))]; exact e, fun _ h => .inl h⟩
theorem GStep.same {C : Addr} {H H1 H2 : Hp} {a : GA} {rows r1 : List (Int × Addr)} {q q1 : List Sq} (x : GStep C H a rows q H1 r1 q1) (s : Same H1 H2) : GStep C H a rows q H2 r1 q1 :=
  x.trans ⟨x.gat.same s, List.prefix_refl _, fr_of s, fun _ h => .inl h⟩
theorem row_not5 {C : Addr} {H : Hp} {a : GA} {rows : List (Int × Addr)} {q : List Sq} {s : Int} {b : Addr} (G : GAt C H a rows q) (h : (s, b) ∈ rows) : b ∉ a.m5 := by
  obtain ⟨_, _, _, _, _, _, hr⟩ := nd_of G.nd
  obtain ⟨r1, r2, r3, r4', r5, r6, r7⟩ := hr s b h
  simp [GA.m5, r2, r3, r4', r5, r6]
theorem map_int_len (ns : List Nat) : (ns.map fun (n : Nat) => V.int (n : Int)).length = ns.length := List.length_map _
section
variable {P : Program} {w : World} {K : PySem.W.Frag} {mg : Str → Option Value} {base : Heap}
def sp_even (C : Addr) : Sp := fun vs H Q _ => ∃ (a : GA) (rows : List (Int × Addr)) (q : List Sq) (l : Nat) (s : Int), vs = [.ref a.g, .int (l : Int), .int s] ∧ GAt C H a rows q ∧ l ≤ 60 ∧ 0 ≤ s ∧ s ≤ 7 ∧ q.length + 100 < 16000000 ∧
  ∀ H' rows' q' (n : Nat), GStep C H a rows q H' rows' q' → q'.length ≤ q.length + l + 1 → q'[n]? = some (Sq.even l s) → Q (.int (n : Int)) H'
theorem ok_even (T : Env fa fn K mg) : Good P w K mg base CX0 4 ("Grove", some "even") ["self", "level", "state"] (sp_even (CG K)) := by
  have G_Grove_cell := ok_cell (P := P) (w := w) (base := base) T
  have G_Grove_knit := ok_knit (P := P) (w := w) (base := base) T
  refine good_mk T 9 (d := d_Grove_even) (N := ["self", "level", "state", "row", "one"]) (ps := ["self", "level", "state"]) rfl rfl sc_Grove_even (fun _ _ _ _ _ _ us hl => match us, hl with | [_, _, _], _ => rfl) (fun vs H Q E h => ?_) (fun f cdv A outer σ0 H vs Q E hr h => ?_)
  · obtain ⟨a, rows, q, l, s, rfl, _⟩ := h; rfl
  · obtain ⟨a, rows, q, l, s, rfl, G, hl, h0, h7, hlen, k⟩ := h
    have hu := hu_of hr
    have cl : Cls K (CG K) := T.cls 9
    obtain ⟨na1, na2, na3, na4, na5, na6⟩ := noats T
    have ob := G.ob
    have hsz := sizeBig
    have mp1 := mp_cell (C := CG K)
    have mp2 := mp_knit (C := CG K)
    refine ⟨_, (pss_cons (ps_set (i := 3) sc_Grove_even.nd rfl (Or.inl rfl) (pe_dsetd (pe_fldK K rfl (pv 0) rfl) (pv 2) (pe_lst pa_nil) ⟨rfl, rfl, rfl, rfl⟩))
      (pss_cons (ps_if (pt_cmpR op_eq (pe_callB (call_lenK K rfl) (by rfl) (T.free 8) (by decide +kernel) (pa_cons (pv 3) pa_nil)) pe_int (nomark _)) (pss_one (ps_expr (pe_bm PySem.F.plainAttrs_list PySem.F.slot_list_append PySem.F.type_list_append mt_append (pv 3) (pa_cons (pe_mgK K rfl (pv 0) (T.cls 9) (T.meth 12) G_Grove_cell (hr.mono (by decide)) (pa_cons (pv 2) pa_nil)) pa_nil)))) pss_nil)
      (pss_cons (ps_while PassesOwn.never (pt_cmpR op_le (pe_callB (call_lenK K rfl) (by rfl) (T.free 8) (by decide +kernel) (pa_cons (pv 3) pa_nil)) (pv 1) (nomark _)) (pss_cons (ps_set (i := 4) sc_Grove_even.nd rfl (Or.inl rfl) (pe_ix (ix_listK K rfl) (pv 3) (pe_un un_neg pe_int) (fun _ _ => rfl)))
      (pss_one (ps_expr (pe_bm PySem.F.plainAttrs_list PySem.F.slot_list_append PySem.F.type_list_append mt_append (pv 3) (pa_cons (pe_mgK K rfl (pv 0) (T.cls 9) (T.meth 13) G_Grove_knit (hr.mono (by decide)) (pa_cons (pv 4) (pa_cons (pv 4) (pa_cons (pv 4) (pa_cons (pv 4) pa_nil))))) pa_nil))))))
      (pss_one (ps_ret (pe_ix (ix_listK K rfl) (pv 3) (pv 1) (fun _ _ => rfl))))))), ?_⟩
    -- row = self.plain.setdefault(state, [])
    refine rd_cut (fun σ H1 => ∃ (r1 : List (Int × Addr)) (b : Addr) (ns : List Nat), σ = [some (.ref a.g), some (.int (l : Int)), some (.int s), some (.ref b), none] ∧ GStep (CG K) H a rows q H1 r1 q ∧ (s, b) ∈ r1 ∧
      H1 b = some (.lst (ns.map fun (n : Nat) => V.int (n : Int))) ∧ ∀ (i : Nat) n, ns[i]? = some n → q[n]? = some (Sq.even i s)) (by walk_at "mono") ?_ ?_
    · walk_at "rd"
      refine rd_isD G.pl ?_
      walk_at "rd"
      refine rd_new (hn := by show 0 ≤ sizeLine; decide) fun p hp => ?_
      have sm := same_upd (o := .lst []) hp
      have G1 := G.same sm
      have S1 := (GStep.refl G).same sm
      have rl : rows.length ≤ 8 := by have z := states_len G.rn G.rs; rw [List.length_map] at z; exact z
      refine ⟨_, Sum.inl s, G1.pl, rfl, by rw [List.length_map]; exact small1000 (by omega), fun v hv => ?_, fun hv => ?_⟩
      · obtain ⟨b, hb, rfl⟩ := rows_look.1 v hv
        obtain ⟨ns, e1, e2⟩ := G1.ro s b hb
        walk_at "rd"
        exact ⟨rows, b, ns, rfl, S1, hb, e1, e2⟩
      · rw [putK_new _ hv]
        walk_at "rd"
        have G2 := G.addrow hp (rows_look.2 hv) h0 h7
        refine ⟨_, p, [], rfl, ⟨G2, List.prefix_refl _, fun b o e n => ?_, fun b hb => ?_⟩, List.mem_append_right _ (List.mem_singleton_self _), ?_, fun i n h => by simp at h⟩
        · rw [upd_ne (fun z => n (by rw [z]; simp [GA.muts])), upd_ne (ne_of_none e hp)]; exact e
        · have em : a.muts (rows ++ [(s, p)]) = a.muts rows ++ [p] := by simp [GA.muts]
          rw [em] at hb
          rcases List.mem_append.mp hb with hb | hb
          · exact .inl hb
          · simp only [List.mem_singleton] at hb; subst hb; exact .inr hp
        · rw [upd_ne (ne_of_none G.pl hp).symm, upd_same]; rfl
    rintro σ H1 ⟨r1, b, ns, rfl, S1, hb, e1, e2⟩
    -- if len(row) == 0: row.append(self.cell(state))
    refine rd_cut (fun σ H2 => ∃ (q2 : List Sq) (ns2 : List Nat), σ = [some (.ref a.g), some (.int (l : Int)), some (.int s), some (.ref b), none] ∧ GStep (CG K) H a rows q H2 r1 q2 ∧
      H2 b = some (.lst (ns2.map fun (n : Nat) => V.int (n : Int))) ∧ (∀ (i : Nat) n, ns2[i]? = some n → q2[n]? = some (Sq.even i s)) ∧ 0 < ns2.length ∧ (q2.length ≤ q.length ∨ q2.length ≤ q.length + ns2.length ∧ ns2.length ≤ l + 1)) (by walk_at "mono") ?_ ?_
    · have ob1 := S1.gat.ob
      walk_at "rd"
      refine rd_len (SqL.of e1) ?_
      walk_at "rd"
      rw [map_int_len]
      refine ite_d (fun hz => ?_) (fun hz => ?_)
      · have hns : ns = [] := List.length_eq_zero_iff.mp (by omega)
        subst hns
        walk_at "rd"
        refine rd_tyL e1 ?_
        walk_at "rd"
        refine rd_methR S1.gat.ob (by rfl) ?_
        walk_at "rd"
        refine ⟨a, r1, q, s, rfl, S1.gat, h0, h7, by omega, fun H2 q2 n G2 pre len en fr => ?_⟩
        walk_at "rd"
        have eb : H2 b = some (.lst []) := fr _ _ e1 (row_not5 S1.gat hb)
        refine rd_append eb (by show 0 < sizeLine; decide) ?_
        walk_at "rd"
        have S2 := S1.m5 G2 pre fr
        have hv : ∀ (i : Nat) m, [n][i]? = some m → q2[m]? = some (Sq.even i s) := fun i m h => by
          cases i with
          | zero => cases h; exact en
          | succ i => simp at h
        exact ⟨q2, [n], rfl, S2.row hb hv, upd_same, hv, by simp, .inr ⟨by simp; omega, by simp⟩⟩
      · walk_at "rd"
        exact ⟨q, ns, rfl, S1, e1, e2, by omega, .inl (Nat.le_refl _)⟩
    rintro σ H2 ⟨q2, ns2, rfl, S2, e3, e4, hpos, hcnt⟩
    -- while len(row) <= level
    refine rd_cut (fun σ H3 => ∃ (q3 : List Sq) (ns3 : List Nat) (x : Option V), σ = [some (.ref a.g), some (.int (l : Int)), some (.int s), some (.ref b), x] ∧ GStep (CG K) H a rows q H3 r1 q3 ∧
      H3 b = some (.lst (ns3.map fun (n : Nat) => V.int (n : Int))) ∧ (∀ (i : Nat) n, ns3[i]? = some n → q3[n]? = some (Sq.even i s)) ∧ l < ns3.length ∧ q3.length ≤ q.length + l + 1) (by walk_at "mono") ?_ ?_
    · refine while_by (fun σ H3 => ∃ (q3 : List Sq) (ns3 : List Nat) (x : Option V), σ = [some (.ref a.g), some (.int (l : Int)), some (.int s), some (.ref b), x] ∧ GStep (CG K) H a rows q H3 r1 q3 ∧
        H3 b = some (.lst (ns3.map fun (n : Nat) => V.int (n : Int))) ∧ (∀ (i : Nat) n, ns3[i]? = some n → q3[n]? = some (Sq.even i s)) ∧ 0 < ns3.length ∧ q3.length + ns2.length ≤ q2.length + ns3.length ∧ (ns3.length ≤ ns2.length ∨ ns3.length ≤ l + 1) ∧ ns2.length ≤ ns3.length)
        (fun σ H3 => match H3 b with | some (.lst xs) => l + 1 - xs.length | _ => 0) ?_ ?_ (by
          have z : MonT (tTest (tOp (rI0 fun i j => V.bl (decide (i ≤ j))) (tCB (rLenS K) (tCons (tVar 3) tNil)) (tVar 1))) := by walk_at "mono"
          exact z)
      · exact ⟨q2, ns2, none, rfl, S2, e3, e4, hpos, Nat.le_refl _, .inl (Nat.le_refl _), Nat.le_refl _⟩
      · rintro σ H3 ⟨q3, ns3, x, rfl, S3, f3, f4, pos3, cnt3, le3, ge3⟩
        have ob3 := S3.gat.ob
        walk_at "rd"
        refine rd_len (SqL.of f3) ?_
        walk_at "rd"
        rw [map_int_len]
        refine ite_d (fun hz => ?_) (fun hz => ?_)
        · walk_at "rd"
          obtain ⟨init, last, rfl⟩ : ∃ init last, ns3 = init ++ [last] := ⟨ns3.dropLast, ns3.getLast (by intro z; simp [z] at pos3), (List.dropLast_concat_getLast _).symm⟩
          have hl1 : q3[last]? = some (Sq.even init.length s) := f4 init.length last (by simp)
          refine rd_ixL (SqL.of f3) (by rw [List.map_append]; exact atI_last _ _) ?_
          walk_at "rd"
          refine rd_tyL f3 ?_
          walk_at "rd"
          refine rd_methR S3.gat.ob (by rfl) ?_
          walk_at "rd"
          have hlen3 : init.length + 1 ≤ l := by simp at hz; omega
          refine ⟨a, r1, q3, Sq.even init.length s, Sq.even init.length s, Sq.even init.length s, Sq.even init.length s, last, last, last, last, rfl, S3.gat, hl1, hl1, hl1, hl1, Sq.wf_even h0 h7 (init.length + 1), by rw [Sq.level_even]; omega, ?_, fun H4 q4 n G4 pre len en fr => ?_⟩
          · simp only [List.length_append, List.length_cons, List.length_nil] at cnt3 le3 ge3
            omega
          walk_at "rd"
          have eb : H4 b = some (.lst ((init ++ [last]).map fun (n : Nat) => V.int (n : Int))) := fr _ _ f3 (row_not5 S3.gat hb)
          refine rd_append eb (by rw [map_int_len]; simp; exact small1000 (by omega)) ?_
          walk_at "rd"
          have S4 := S3.m5 G4 pre fr
          have hv : ∀ (i : Nat) m, ((init ++ [last]) ++ [n])[i]? = some m → q4[m]? = some (Sq.even i s) := fun i m h => by
            by_cases hi : i < (init ++ [last]).length
            · rw [List.getElem?_append_left hi] at h
              exact pre_get pre (f4 i m h)
            · have hi2 := (List.getElem?_eq_some_iff.mp h).1
              have e : i = init.length + 1 := by simp at hi hi2; omega
              subst e
              simp at h
              subst h
              exact en
          have S5 := S4.row hb hv
          simp only [List.length_append, List.length_cons, List.length_nil] at cnt3 le3 ge3
          refine ⟨⟨q4, (init ++ [last]) ++ [n], _, rfl, ?_, ?_, hv, by simp, by simp; omega, by simp; omega, by simp; omega⟩, ?_⟩
          · rw [List.map_append] at S5; exact S5
          · rw [upd_same, List.map_append (l₂ := [n])]; rfl
          · have e1' : ∀ (xs : List V), H3 b = some (.lst xs) → (match H3 b with | some (.lst xs) => l + 1 - xs.length | _ => 0) = l + 1 - xs.length := fun xs e => by rw [e]
            rw [e1' _ f3]
            simp only [upd_same]
            simp
            omega
        · refine ⟨q3, ns3, x, rfl, S3, f3, f4, by omega, ?_⟩
          rcases hcnt with h | ⟨h, h'⟩
          · rcases le3 with h2 | h2 <;> omega
          · rcases le3 with h2 | h2 <;> omega
    rintro σ H3 ⟨q3, ns3, x, rfl, S3, f3, f4, hlt, hq⟩
    obtain ⟨n, hn⟩ : ∃ n, ns3[l]? = some n := ⟨ns3[l], by simp [hlt]⟩
    walk_at "rd"
    refine rd_ixL (SqL.of f3) (atI_nat (map_get (fun (n : Nat) => V.int (n : Int)) hn)) ?_
    exact k H3 r1 q3 n S3 hq (f4 l n hn)
end
end JF

/-! ### the asking methods (no refusal) -/
namespace JF
open PySem PySem.Spec PyProof.Rows L2
section
variable {P : Program} {w : World} {K : PySem.W.Frag} {mg : Str → Option Value} {base : Heap}
theorem at_lt {q : List Sq} {n : Nat} {S : Sq} (h : q[n]? = some S) : n < q.length := (List.getElem?_eq_some_iff.mp h).1
def sp_asked (C : Addr) : Sp := fun vs H Q _ => ∃ (a : GA) (rows : List (Int × Addr)) (q : List Sq) (n : Nat) (S : Sq), vs = [.ref a.g, .int (n : Int)] ∧ GAt C H a rows q ∧ q[n]? = some S ∧ q.length ≤ 16000000 ∧ Q (.int (S.level : Int)) H
theorem mp_asked {C : Addr} : MonP (sp_asked C) := fun vs H Q Q' E h ⟨a, rows, q, n, S, x1, x2, x3, x4, k⟩ => ⟨a, rows, q, n, S, x1, x2, x3, x4, h _ _ k⟩
theorem ok_asked (T : Env fa fn K mg) : Good P w K mg base CX0 2 ("Grove", some "asked") ["self", "square"] (sp_asked (CG K)) := by
  have G_is_whole := ok_is_whole (P := P) (w := w) (base := base) T
  refine good_mk T 10 (d := d_Grove_asked) (N := ["self", "square"]) (ps := ["self", "square"]) rfl rfl sc_Grove_asked (fun _ _ _ _ _ _ us hl => match us, hl with | [_, _], _ => rfl) (fun vs H Q E h => ?_) (fun f cdv A outer s H vs Q E hr h => ?_)
  · obtain ⟨a, rows, q, n, S, rfl, _⟩ := h; rfl
  · obtain ⟨a, rows, q, n, S, rfl, G, hn, hlen, k⟩ := h
    have cl : Cls K (CG K) := T.cls 9
    obtain ⟨na1, na2, na3, na4, na5, na6⟩ := noats T
    have ob := G.ob
    have hlt := at_lt hn
    obtain ⟨tups, mk, spt, D⟩ := G.da
    refine ⟨_, (pss_cons (ps_if (PW.pt (pw_or (pt_not (pt_val (pe_cgK K rfl G_is_whole (hr.mono (by decide)) (T.glo 7) (pa_cons (pv 1) pa_nil)))) (pw_or1 (pt_not (pt_chain op_le op_lt pe_int (pv 1) (pe_gint (T.int 14) rfl)))))) pss_never pss_nil)
      (pss_one (ps_ret (pe_ix (ix_listK K rfl) (pe_fldK K rfl (pv 0) rfl) (pv 1) (fun _ _ => rfl))))), ?_⟩
    walk_at "rd"
    refine ⟨_, rfl, .inl ⟨_, rfl⟩, ?_⟩
    walk_at "rd"
    refine iteF ?_
    walk_at "rd"
    rw [decide_eq_true (show (0 : Int) ≤ (n : Int) by omega)]
    walk_at "rd"
    rw [decide_eq_true (show (n : Int) < 1000000000 by omega)]
    walk_at "rd"
    exact rd_ixL (SqL.of D.hl) (atI_nat (map_get (fun S : Sq => V.int (S.level : Int)) hn)) k
/-- what asks one square, and tells a value: the level and so on -/
def sp_level_of (C : Addr) : Sp := sp_asked C
theorem ok_level_of (T : Env fa fn K mg) : Good P w K mg base CX0 3 ("Grove", some "level_of") ["self", "square"] (sp_level_of (CG K)) := by
  have G_Grove_asked := ok_asked (P := P) (w := w) (base := base) T
  refine good_mk T 14 (d := d_Grove_level_of) (N := ["self", "square"]) (ps := ["self", "square"]) rfl rfl sc_Grove_level_of (fun _ _ _ _ _ _ us hl => match us, hl with | [_, _], _ => rfl) (fun vs H Q E h => ?_) (fun f cdv A outer s H vs Q E hr h => ?_)
  · obtain ⟨a, rows, q, n, S, rfl, _⟩ := h; rfl
  · obtain ⟨a, rows, q, n, S, rfl, G, hn, hlen, k⟩ := h
    have cl : Cls K (CG K) := T.cls 9
    refine ⟨_, (pss_one (ps_ret (pe_mgK K rfl (pv 0) (T.cls 9) (T.meth 21) G_Grove_asked (hr.mono (by decide)) (pa_cons (pv 1) pa_nil)))), ?_⟩
    walk_at "rd"
    refine rd_methR G.ob (by rfl) ?_
    walk_at "rd"
    exact ⟨a, rows, q, n, S, rfl, G, hn, hlen, k⟩
def sp_living (C : Addr) : Sp := fun vs H Q _ => ∃ (a : GA) (rows : List (Int × Addr)) (q : List Sq) (n : Nat) (S : Sq), vs = [.ref a.g, .int (n : Int)] ∧ GAt C H a rows q ∧ q[n]? = some S ∧ q.length ≤ 16000000 ∧ Q (.int S.lives) H
theorem mp_living {C : Addr} : MonP (sp_living C) := fun vs H Q Q' E h ⟨a, rows, q, n, S, x1, x2, x3, x4, k⟩ => ⟨a, rows, q, n, S, x1, x2, x3, x4, h _ _ k⟩
theorem ok_living (T : Env fa fn K mg) : Good P w K mg base CX0 3 ("Grove", some "living") ["self", "square"] (sp_living (CG K)) := by
  have G_Grove_asked := ok_asked (P := P) (w := w) (base := base) T
  refine good_mk T 17 (d := d_Grove_living) (N := ["self", "square"]) (ps := ["self", "square"]) rfl rfl sc_Grove_living (fun _ _ _ _ _ _ us hl => match us, hl with | [_, _], _ => rfl) (fun vs H Q E h => ?_) (fun f cdv A outer s H vs Q E hr h => ?_)
  · obtain ⟨a, rows, q, n, S, rfl, _⟩ := h; rfl
  · obtain ⟨a, rows, q, n, S, rfl, G, hn, hlen, k⟩ := h
    have cl : Cls K (CG K) := T.cls 9
    obtain ⟨na1, na2, na3, na4, na5, na6⟩ := noats T
    have ob := G.ob
    obtain ⟨tups, mk, spt, D⟩ := id G.da
    refine ⟨_, (pss_cons (ps_expr (pe_mgK K rfl (pv 0) (T.cls 9) (T.meth 21) G_Grove_asked (hr.mono (by decide)) (pa_cons (pv 1) pa_nil)))
      (pss_one (ps_ret (pe_ix (ix_listK K rfl) (pe_fldK K rfl (pv 0) rfl) (pv 1) (fun _ _ => rfl))))), ?_⟩
    walk_at "rd"
    refine rd_methR G.ob (by rfl) ?_
    walk_at "rd"
    refine ⟨a, rows, q, n, S, rfl, G, hn, hlen, ?_⟩
    walk_at "rd"
    exact rd_ixL (SqL.of D.hv) (atI_nat (map_get (fun S : Sq => V.int S.lives) hn)) k
def sp_span (C : Addr) : Sp := fun vs H Q _ => ∃ (a : GA) (rows : List (Int × Addr)) (q : List Sq) (n : Nat) (S : Sq), vs = [.ref a.g, .int (n : Int)] ∧ GAt C H a rows q ∧ q[n]? = some S ∧ q.length ≤ 16000000 ∧ ∀ v, SpanV H v S.span → Q v H
theorem mp_span {C : Addr} : MonP (sp_span C) := fun vs H Q Q' E h ⟨a, rows, q, n, S, x1, x2, x3, x4, k⟩ => ⟨a, rows, q, n, S, x1, x2, x3, x4, fun v hv => h _ _ (k v hv)⟩
theorem ok_span (T : Env fa fn K mg) : Good P w K mg base CX0 3 ("Grove", some "span") ["self", "square"] (sp_span (CG K)) := by
  have G_Grove_asked := ok_asked (P := P) (w := w) (base := base) T
  refine good_mk T 18 (d := d_Grove_span) (N := ["self", "square"]) (ps := ["self", "square"]) rfl rfl sc_Grove_span (fun _ _ _ _ _ _ us hl => match us, hl with | [_, _], _ => rfl) (fun vs H Q E h => ?_) (fun f cdv A outer s H vs Q E hr h => ?_)
  · obtain ⟨a, rows, q, n, S, rfl, _⟩ := h; rfl
  · obtain ⟨a, rows, q, n, S, rfl, G, hn, hlen, k⟩ := h
    have cl : Cls K (CG K) := T.cls 9
    obtain ⟨na1, na2, na3, na4, na5, na6⟩ := noats T
    have ob := G.ob
    obtain ⟨tups, mk, spt, D⟩ := id G.da
    refine ⟨_, (pss_cons (ps_expr (pe_mgK K rfl (pv 0) (T.cls 9) (T.meth 21) G_Grove_asked (hr.mono (by decide)) (pa_cons (pv 1) pa_nil)))
      (pss_one (ps_ret (pe_ix (ix_listK K rfl) (pe_fldK K rfl (pv 0) rfl) (pv 1) (fun _ _ => rfl))))), ?_⟩
    walk_at "rd"
    refine rd_methR G.ob (by rfl) ?_
    walk_at "rd"
    refine ⟨a, rows, q, n, S, rfl, G, hn, hlen, ?_⟩
    walk_at "rd"
    have hl : n < spt.length := by rw [D.ls]; exact at_lt hn
    exact rd_ixL (SqL.of D.hs) (atI_nat (by simp [hl] : spt[n]? = some spt[n])) (k _ (D.sp n _ S (by simp [hl]) hn))
/-- the quarters, as the tuple that stands there -/
def sp_quarters (C : Addr) : Sp := fun vs H Q _ => ∃ (a : GA) (rows : List (Int × Addr)) (q : List Sq) (n : Nat) (A B C' D : Sq), vs = [.ref a.g, .int (n : Int)] ∧ GAt C H a rows q ∧ q[n]? = some (.node A B C' D) ∧ q.length ≤ 16000000 ∧
  ∀ (t : Addr) (x y z u : Nat), H t = some (.tup [.int (x : Int), .int (y : Int), .int (z : Int), .int (u : Int)]) → q[x]? = some A → q[y]? = some B → q[z]? = some C' → q[u]? = some D → Q (.ref t) H
theorem mp_quarters {C : Addr} : MonP (sp_quarters C) := fun vs H Q Q' E h ⟨a, rows, q, n, A, B, C', D, x1, x2, x3, x4, k⟩ => ⟨a, rows, q, n, A, B, C', D, x1, x2, x3, x4, fun t x y z u e1 e2 e3 e4 e5 => h _ _ (k t x y z u e1 e2 e3 e4 e5)⟩
theorem ok_quarters (T : Env fa fn K mg) : Good P w K mg base CX0 3 ("Grove", some "quarters") ["self", "square"] (sp_quarters (CG K)) := by
  have G_Grove_asked := ok_asked (P := P) (w := w) (base := base) T
  refine good_mk T 15 (d := d_Grove_quarters) (N := ["self", "square"]) (ps := ["self", "square"]) rfl rfl sc_Grove_quarters (fun _ _ _ _ _ _ us hl => match us, hl with | [_, _], _ => rfl) (fun vs H Q E h => ?_) (fun f cdv A outer s H vs Q E hr h => ?_)
  · obtain ⟨a, rows, q, n, A, B, C', D, rfl, _⟩ := h; rfl
  · obtain ⟨a, rows, q, n, S1, S2, S3, S4, rfl, G, hn, hlen, k⟩ := h
    have cl : Cls K (CG K) := T.cls 9
    obtain ⟨na1, na2, na3, na4, na5, na6⟩ := noats T
    have ob := G.ob
    obtain ⟨tups, mk, spt, D⟩ := id G.da
    refine ⟨_, (pss_cons (ps_if (pt_cmpR op_eq (pe_mgK K rfl (pv 0) (T.cls 9) (T.meth 21) G_Grove_asked (hr.mono (by decide)) (pa_cons (pv 1) pa_nil)) pe_int (nomark _)) pss_never pss_nil)
      (pss_one (ps_ret (pe_ix (ix_listK K rfl) (pe_fldK K rfl (pv 0) rfl) (pv 1) (fun _ _ => rfl))))), ?_⟩
    walk_at "rd"
    refine rd_methR G.ob (by rfl) ?_
    walk_at "rd"
    refine ⟨a, rows, q, n, _, rfl, G, hn, hlen, ?_⟩
    walk_at "rd"
    refine ite_d (fun h => ?_) (fun h => ?_)
    · have : (Sq.node S1 S2 S3 S4).level = S1.level + 1 := rfl
      omega
    walk_at "rd"
    have hl : n < tups.length := by rw [D.lt]; exact at_lt hn
    have hm : n < mk.length := by rw [D.lm]; exact at_lt hn
    obtain ⟨x, y, z, u, e, h1, h2, h3, h4⟩ := D.md n mk[n] _ (by simp [hm]) hn
    have ht := D.tu n tups[n] mk[n] (by simp [hl]) (by simp [hm])
    rw [e] at ht
    refine rd_ixL (SqL.of D.hm) (atI_nat (map_get V.ref (by simp [hl] : tups[n]? = some tups[n]))) ?_
    exact k _ x y z u ht h1 h2 h3 h4
def sp_state_of (C : Addr) : Sp := fun vs H Q _ => ∃ (a : GA) (rows : List (Int × Addr)) (q : List Sq) (n : Nat) (s : Int), vs = [.ref a.g, .int (n : Int)] ∧ GAt C H a rows q ∧ q[n]? = some (.leaf s) ∧ q.length ≤ 16000000 ∧ Q (.int s) H
theorem mp_state_of {C : Addr} : MonP (sp_state_of C) := fun vs H Q Q' E h ⟨a, rows, q, n, S, x1, x2, x3, x4, k⟩ => ⟨a, rows, q, n, S, x1, x2, x3, x4, h _ _ k⟩
theorem ok_state_of (T : Env fa fn K mg) : Good P w K mg base CX0 3 ("Grove", some "state_of") ["self", "square"] (sp_state_of (CG K)) := by
  have G_Grove_asked := ok_asked (P := P) (w := w) (base := base) T
  refine good_mk T 16 (d := d_Grove_state_of) (N := ["self", "square"]) (ps := ["self", "square"]) rfl rfl sc_Grove_state_of (fun _ _ _ _ _ _ us hl => match us, hl with | [_, _], _ => rfl) (fun vs H Q E h => ?_) (fun f cdv A outer s H vs Q E hr h => ?_)
  · obtain ⟨a, rows, q, n, s, rfl, _⟩ := h; rfl
  · obtain ⟨a, rows, q, n, s, rfl, G, hn, hlen, k⟩ := h
    have cl : Cls K (CG K) := T.cls 9
    obtain ⟨na1, na2, na3, na4, na5, na6⟩ := noats T
    have ob := G.ob
    obtain ⟨tups, mk, spt, D⟩ := id G.da
    refine ⟨_, (pss_cons (ps_if (pt_cmpR op_gt (pe_mgK K rfl (pv 0) (T.cls 9) (T.meth 21) G_Grove_asked (hr.mono (by decide)) (pa_cons (pv 1) pa_nil)) pe_int (nomark _)) pss_never pss_nil)
      (pss_one (ps_ret (pe_ix (ix_tupK K rfl) (pe_ix (ix_listK K rfl) (pe_fldK K rfl (pv 0) rfl) (pv 1) (fun _ _ => rfl)) pe_int (fun _ _ => rfl))))), ?_⟩
    walk_at "rd"
    refine rd_methR G.ob (by rfl) ?_
    walk_at "rd"
    refine ⟨a, rows, q, n, _, rfl, G, hn, hlen, ?_⟩
    walk_at "rd"
    refine ite_d (fun h => ?_) (fun h => ?_)
    · have : (Sq.leaf s).level = 0 := rfl
      omega
    walk_at "rd"
    have hl : n < tups.length := by rw [D.lt]; exact at_lt hn
    have hm : n < mk.length := by rw [D.lm]; exact at_lt hn
    have e : mk[n] = [s] := D.md n mk[n] _ (by simp [hm]) hn
    have ht := D.tu n tups[n] mk[n] (by simp [hl]) (by simp [hm])
    rw [e] at ht
    refine rd_ixL (SqL.of D.hm) (atI_nat (map_get V.ref (by simp [hl] : tups[n]? = some tups[n]))) ?_
    walk_at "rd"
    exact k
def sp_leaf (C : Addr) : Sp := sp_cell C
theorem ok_leaf (T : Env fa fn K mg) : Good P w K mg base CX0 3 ("Grove", some "leaf") ["self", "state"] (sp_leaf (CG K)) := by
  have G_Grove_cell := ok_cell (P := P) (w := w) (base := base) T
  have G_is_state := ok_is_state (P := P) (w := w) (base := base) T
  refine good_mk T 11 (d := d_Grove_leaf) (N := ["self", "state"]) (ps := ["self", "state"]) rfl rfl sc_Grove_leaf (fun _ _ _ _ _ _ us hl => match us, hl with | [_, _], _ => rfl) (fun vs H Q E h => ?_) (fun f cdv A outer s H vs Q E hr h => ?_)
  · obtain ⟨a, rows, q, s, rfl, _⟩ := h; rfl
  · obtain ⟨a, rows, q, s, rfl, G, h0, h7, hlen, k⟩ := h
    have cl : Cls K (CG K) := T.cls 9
    refine ⟨_, (pss_cons (ps_if (pt_not (pt_val (pe_cgK K rfl G_is_state (hr.mono (by decide)) (T.glo 16) (pa_cons (pv 1) pa_nil)))) pss_never pss_nil)
      (pss_one (ps_ret (pe_mgK K rfl (pv 0) (T.cls 9) (T.meth 12) G_Grove_cell (hr.mono (by decide)) (pa_cons (pv 1) pa_nil))))), ?_⟩
    walk_at "rd"
    refine ⟨_, rfl, .inl ⟨_, rfl⟩, ?_⟩
    walk_at "rd"
    rw [stateV_ok h0 h7]
    walk_at "rd"
    walk_at "rd"
    refine rd_methR G.ob (by rfl) ?_
    walk_at "rd"
    exact ⟨a, rows, q, s, rfl, G, h0, h7, hlen, k⟩
def sp_solid (C : Addr) : Sp := fun vs H Q _ => ∃ (a : GA) (rows : List (Int × Addr)) (q : List Sq) (l : Nat) (s : Int), vs = [.ref a.g, .int (l : Int), .int s] ∧ GAt C H a rows q ∧ l ≤ 48 ∧ 0 ≤ s ∧ s ≤ 7 ∧ q.length + 100 < 16000000 ∧
  ∀ H' rows' q' (n : Nat), GStep C H a rows q H' rows' q' → q'.length ≤ q.length + l + 1 → q'[n]? = some (Sq.even l s) → Q (.int (n : Int)) H'
theorem mp_even {C : Addr} : MonP (sp_even C) := fun vs H Q Q' E h ⟨a, rows, q, l, s, x1, x2, x3, x4, x5, x6, k⟩ => ⟨a, rows, q, l, s, x1, x2, x3, x4, x5, x6, fun H' r' q' n g p l => h _ _ (k H' r' q' n g p l)⟩
theorem mp_solid {C : Addr} : MonP (sp_solid C) := fun vs H Q Q' E h ⟨a, rows, q, l, s, x1, x2, x3, x4, x5, x6, k⟩ => ⟨a, rows, q, l, s, x1, x2, x3, x4, x5, x6, fun H' r' q' n g p l => h _ _ (k H' r' q' n g p l)⟩
theorem ok_solid (T : Env fa fn K mg) : Good P w K mg base CX0 5 ("Grove", some "solid") ["self", "level", "state"] (sp_solid (CG K)) := by
  have G_Grove_even := ok_even (P := P) (w := w) (base := base) T
  have G_is_state := ok_is_state (P := P) (w := w) (base := base) T
  have G_is_whole := ok_is_whole (P := P) (w := w) (base := base) T
  refine good_mk T 13 (d := d_Grove_solid) (N := ["self", "level", "state"]) (ps := ["self", "level", "state"]) rfl rfl sc_Grove_solid (fun _ _ _ _ _ _ us hl => match us, hl with | [_, _, _], _ => rfl) (fun vs H Q E h => ?_) (fun f cdv A outer σ0 H vs Q E hr h => ?_)
  · obtain ⟨a, rows, q, l, s, rfl, _⟩ := h; rfl
  · obtain ⟨a, rows, q, l, s, rfl, G, hl, h0, h7, hlen, k⟩ := h
    have cl : Cls K (CG K) := T.cls 9
    refine ⟨_, (pss_cons (ps_if (PW.pt (pw_or (pt_not (pt_val (pe_cgK K rfl G_is_whole (hr.mono (by decide)) (T.glo 7) (pa_cons (pv 1) pa_nil)))) (pw_or1 (pt_not (pt_chain op_le op_le pe_int (pv 1) (pe_gint (T.int 19) rfl)))))) pss_never pss_nil)
      (pss_cons (ps_if (pt_not (pt_val (pe_cgK K rfl G_is_state (hr.mono (by decide)) (T.glo 16) (pa_cons (pv 2) pa_nil)))) pss_never pss_nil)
      (pss_one (ps_ret (pe_mgK K rfl (pv 0) (T.cls 9) (T.meth 20) G_Grove_even (hr.mono (by decide)) (pa_cons (pv 1) (pa_cons (pv 2) pa_nil))))))), ?_⟩
    walk_at "rd"
    refine ⟨_, rfl, .inl ⟨_, rfl⟩, ?_⟩
    walk_at "rd"
    refine iteF ?_
    walk_at "rd"
    rw [decide_eq_true (show (0 : Int) ≤ (l : Int) by omega)]
    walk_at "rd"
    rw [decide_eq_true (show (l : Int) ≤ 48 by omega)]
    walk_at "rd"
    refine ⟨_, rfl, .inl ⟨_, rfl⟩, ?_⟩
    walk_at "rd"
    rw [stateV_ok h0 h7]
    walk_at "rd"
    walk_at "rd"
    refine rd_methR G.ob (by rfl) ?_
    walk_at "rd"
    exact ⟨a, rows, q, l, s, rfl, G, by omega, h0, h7, hlen, k⟩
/-- four are joined -/
def sp_joined (C : Addr) : Sp := fun vs H Q _ => ∃ (a : GA) (rows : List (Int × Addr)) (q : List Sq) (A B C' D : Sq) (na nb nc nd : Nat), vs = [.ref a.g, .int (na : Int), .int (nb : Int), .int (nc : Int), .int (nd : Int)] ∧ GAt C H a rows q ∧
  q[na]? = some A ∧ q[nb]? = some B ∧ q[nc]? = some C' ∧ q[nd]? = some D ∧ B.level = A.level ∧ C'.level = A.level ∧ D.level = A.level ∧ A.level ≤ 47 ∧ q.length < 16000000 ∧
  ∀ H' q' (n : Nat), GStep C H a rows q H' rows q' → q'.length ≤ q.length + 1 → q'[n]? = some (.node A B C' D) → Fr a.m5 H H' → Q (.int (n : Int)) H'
theorem mp_joined {C : Addr} : MonP (sp_joined C) := fun vs H Q Q' E h ⟨a, rows, q, A, B, C', D, na, nb, nc, nd, x1, x2, x3, x4, x5, x6, x7, x8, x9, y1, y2, k⟩ => ⟨a, rows, q, A, B, C', D, na, nb, nc, nd, x1, x2, x3, x4, x5, x6, x7, x8, x9, y1, y2, fun H' q' n g p l f => h _ _ (k H' q' n g p l f)⟩
end
end JF

/-! ### helpers of the laws: the script's numbers, lists of tuples of numbers -/
namespace JF
open PySem PySem.Spec PyProof.Rows L2
/-- tuples of whole numbers, one by one -/
def TR (H : Hp) : List Addr → List (List Int) → Prop
  | [], [] => True
  | r :: rs, x :: xs => H r = some (.tup (x.map V.int)) ∧ TR H rs xs
  | _, _ => False
theorem TR.len {H : Hp} : ∀ {rs : List Addr} {xs : List (List Int)}, TR H rs xs → rs.length = xs.length
  | [], [], _ => rfl
  | r :: rs, x :: xs, h => congrArg (· + 1) (TR.len h.2)
  | [], _ :: _, h => h.elim
  | _ :: _, [], h => h.elim
theorem TR.keep {H H' : Hp} (k : ∀ b ys, H b = some (.tup ys) → H' b = some (.tup ys)) : ∀ {rs : List Addr} {xs : List (List Int)}, TR H rs xs → TR H' rs xs
  | [], [], _ => trivial
  | r :: rs, x :: xs, h => ⟨k _ _ h.1, TR.keep k h.2⟩
  | [], _ :: _, h => h.elim
  | _ :: _, [], h => h.elim
theorem TR.app {H : Hp} {r : Addr} {x : List Int} (hr : H r = some (.tup (x.map V.int))) : ∀ {rs : List Addr} {xs : List (List Int)}, TR H rs xs → TR H (rs ++ [r]) (xs ++ [x])
  | [], [], _ => ⟨hr, trivial⟩
  | _ :: _, _ :: _, h => ⟨h.1, TR.app hr h.2⟩
  | [], _ :: _, h => h.elim
  | _ :: _, [], h => h.elim
theorem TR.get {H : Hp} : ∀ {rs : List Addr} {xs : List (List Int)} {i : Nat} {r : Addr}, TR H rs xs → rs[i]? = some r → ∃ x, xs[i]? = some x ∧ H r = some (.tup (x.map V.int))
  | [], [], _, _, _, e => by simp at e
  | r :: rs, x :: xs, 0, _, h, e => by
    simp only [List.getElem?_cons_zero, Option.some.injEq] at e
    subst e
    exact ⟨x, rfl, h.1⟩
  | r :: rs, x :: xs, i + 1, _, h, e => by
    simp only [List.getElem?_cons_succ] at e ⊢
    exact TR.get h.2 e
  | [], _ :: _, _, _, h, _ => h.elim
  | _ :: _, [], _, _, h, _ => h.elim
/-- a list of tuples of whole numbers -/
def TL (H : Hp) (p : Addr) (xs : List (List Int)) : Prop := ∃ rs : List Addr, H p = some (.lst (rs.map V.ref)) ∧ TR H rs xs
theorem at_get {α : Type} {l : List α} {i : Nat} (h : i < l.length) : l[i]? = some l[i] := by simp [h]
section
variable {K : PySem.W.Frag} {σ : L2.St} {H : Hp} {Q : VK}
/-- [x[c] for x in list] of tuples of numbers -/
theorem rd_colT {L i n : Nat} {c : Int} {p : Addr} {xs : List (List Int)} (hi : i < σ.length) (hv : σ[L]? = some (some (.ref p))) (h : TL H p xs) (hx : ∀ x ∈ xs, x.length = n) (hc0 : 0 ≤ c) (hcn : c.toNat < n) (hz : xs.length ≤ sizeLine)
    (hd : ∀ D, H D = none → Q (.ref D) (upd H D (.lst ((xs.map fun x => x.getD c.toNat 0).map V.int)))) : tLc (iList K (tVar L)) (gName i) tYes (tOp (rIxT K) (tVar i) (tC (.int c))) [i] σ H Q := by
  obtain ⟨rs, hp, ht⟩ := h
  refine ⟨_, hv, p, rfl, ⟨_, SqL.of hp⟩, fun D hD => ?_⟩
  have sm : ∀ o, Same H (upd H D o) := fun o => same_upd hD
  refine lc_list (K := K) (xs := rs.map V.ref) (fun i H' => H' = upd H D (.lst (((xs.take i).map fun x => x.getD c.toNat 0).map V.int))) (by simp) (fun i H' _ e => SqL.of (by rw [e]; exact sm _ _ _ hp)) ?_ ?_
  · rintro j x H' hj rfl
    obtain ⟨r, hr, rfl⟩ : ∃ r, rs[j]? = some r ∧ x = .ref r := by
      rw [List.getElem?_map] at hj
      cases e : rs[j]? with
      | none => rw [e] at hj; cases hj
      | some r => rw [e] at hj; exact ⟨r, rfl, (Option.some.inj hj).symm⟩
    obtain ⟨x, hx1, hx2⟩ := ht.get hr
    have hl := hx x (List.mem_of_getElem? hx1)
    have hlt : c.toNat < x.length := by omega
    have hset : (((wipe σ [i]).set i (some (.ref r)))[i]? : Option (Option V)) = some (some (.ref r)) := by
      rw [List.getElem?_set_self (by rw [wipe_length]; exact hi)]
    refine ⟨by simp only [wipe, List.set_set], ?_⟩
    refine rd_yes (iteT' (rd_op (rd_var hset (rd_c ?_))))
    have e1 : atI (x.map V.int) c = some (V.int (x.getD c.toNat 0)) := by
      obtain ⟨m, rfl⟩ : ∃ m : Nat, c = m := ⟨c.toNat, by omega⟩
      refine atI_nat ?_
      rw [Int.toNat_natCast] at hlt ⊢
      rw [List.getElem?_map, at_get hlt]
      simp [List.getD, hlt]
    refine rd_ixT (SqT.of (sm _ _ _ hx2)) e1 ?_
    refine ⟨_, upd_same, ?_, ?_⟩
    · have hj2 : j < xs.length := (List.getElem?_eq_some_iff.mp hx1).1
      simp only [List.length_map, List.length_take]
      omega
    · rw [upd_upd]
      have : xs.take (j + 1) = xs.take j ++ [x] := by rw [List.take_succ, hx1]; rfl
      rw [this, List.map_append, List.map_append]; rfl
  · rintro H' rfl
    have e : xs.take (rs.map V.ref).length = xs := by rw [List.length_map, ht.len, List.take_length]
    rw [e]
    exact hd D hD
/-- min, max, of a list of numbers -/
theorem rd_min {p : Addr} {ns : List Int} (m0 : Int) (h : H p = some (.lst (ns.map V.int))) (hm : m0 ∈ ns) (hle : ∀ y ∈ ns, m0 ≤ y) (q : Q (.int m0) H) : rMin K [.ref p] H Q :=
  ⟨p, ns, rfl, SqL.of h, List.length_pos_of_mem hm, fun m h1 h2 => by
    have e : m = m0 := Int.le_antisymm (h2 m0 hm) (hle m h1)
    rw [e]; exact q⟩
theorem rd_max {p : Addr} {ns : List Int} (m0 : Int) (h : H p = some (.lst (ns.map V.int))) (hm : m0 ∈ ns) (hle : ∀ y ∈ ns, y ≤ m0) (q : Q (.int m0) H) : rMax K [.ref p] H Q :=
  ⟨p, ns, rfl, SqL.of h, List.length_pos_of_mem hm, fun m h1 h2 => by
    have e : m = m0 := Int.le_antisymm (hle m h1) (h2 m0 hm)
    rw [e]; exact q⟩
/-! lists of tuples, compared -/
theorem dp_tr : ∀ {rs : List Addr} {xs : List (List Int)}, TR H rs xs → DpAll K H (rs.map V.ref) (xs.map fun x => PyData.tuple (x.map PyData.int))
  | [], [], _ => .nil
  | r :: rs, x :: xs, h => .cons (.tup (SqT.of h.1) dp_ints) (dp_tr h.2)
  | [], _ :: _, h => h.elim
  | _ :: _, [], h => h.elim
theorem lay_ints : ∀ x : List Int, PyData.canLayAll0 (x.map PyData.int) = true
  | [] => by simp [PyData.canLayAll0]
  | i :: x => by simp [PyData.canLayAll0, PyData.canLay0, lay_ints x]
theorem depth_ints : ∀ x : List Int, PyData.depthAll (x.map PyData.int) ≤ 1
  | [] => by simp [PyData.depthAll]
  | i :: x => by simp [PyData.depthAll, PyData.depth, depth_ints x]
theorem lay_tr : ∀ xs : List (List Int), PyData.canLayAll0 (xs.map fun x => PyData.tuple (x.map PyData.int)) = true
  | [] => by simp [PyData.canLayAll0]
  | x :: xs => by simp [PyData.canLayAll0, PyData.canLay0, lay_tr xs, lay_ints x]
theorem depth_tr : ∀ xs : List (List Int), PyData.depthAll (xs.map fun x => PyData.tuple (x.map PyData.int)) ≤ 2
  | [] => by simp [PyData.depthAll]
  | x :: xs => by
    have h1 := depth_tr xs
    have h2 := depth_ints x
    simp only [List.map_cons, PyData.depthAll, PyData.depth]
    omega
theorem shaped_tr (xs : List (List Int)) : SeqAt.shaped (.list (xs.map fun x => PyData.tuple (x.map PyData.int))) = true := by
  have h1 := depth_tr xs
  have h2 := lay_tr xs
  have h3 : PyData.depth (.list (xs.map fun x => PyData.tuple (x.map PyData.int))) ≤ 64 := by
    simp only [PyData.depth]
    omega
  unfold SeqAt.shaped
  rw [decide_eq_true h3, Bool.and_true]
  simp only [PyData.canLay0, h2]
theorem TL.same {H H' : Hp} {p : Addr} {xs : List (List Int)} (h : TL H p xs) (s : Same H H') : TL H' p xs := by
  obtain ⟨rs, h1, h2⟩ := h
  exact ⟨rs, s _ _ h1, h2.keep fun _ _ e => s _ _ e⟩
/-- rows == [] -/
theorem rd_eqTL0 {p pe : Addr} {xs : List (List Int)} (h : TL H p xs) (he : H pe = some (.lst [])) (q : Q (.bl (decide (xs = []))) H) : rEqD K (.ref p) (.ref pe) H Q := by
  obtain ⟨rs, h1, h2⟩ := h
  refine ⟨_, _, .lst (SqL.of h1) (dp_tr h2), .lst (SqL.of he) .nil, shaped_tr xs, rfl, ?_⟩
  cases xs with
  | nil => exact q
  | cons x xs => exact q
/-- isinstance(tuple of the law's, tuple) -/
theorem rd_isiT {p : Addr} {xs : List V} (h : H p = some (.tup xs)) (q : Q (.bl true) H) : rIsi K [.ref p, .ty "tuple"] H Q :=
  isi_ty (.base (.tup h)) (by decide +kernel : kitB "tuple" "tuple" = some true) q
theorem rd_isiI {i : Int} (q : Q (.bl true) H) : rIsi K [.int i, .ty "int"] H Q := isi_ty (.base (.int i)) (by decide +kernel : kitB "int" "int" = some true) q
theorem rd_isiB {i : Int} (q : Q (.bl false) H) : rIsi K [.int i, .ty "bool"] H Q := isi_ty (.base (.int i)) (by decide +kernel : kitB "int" "bool" = some false) q
end
theorem sqL_on {K : PySem.W.Frag} {H H' : Hp} {a : Addr} {xs : List V} (h : SqL K H a xs) (e : ∀ o, H a = some o → H' a = some o) : SqL K H' a xs :=
  h.elim (fun h => .inl (h.elim (fun h => .inl (e _ h)) fun ⟨o, h⟩ => .inr ⟨o, e _ h⟩)) fun h => .inr h
theorem walk_r0 {n : Nat} : Walk (Itr 0 n) n (fun _ => True) (YFn fun i => .int (i : Int)) :=
  walk_range.mono (fun _ h => h) fun i H x H' _ _ y => ⟨y.1, y.2.trans (by show V.int (0 + (i : Int)) = V.int (i : Int); rw [Int.zero_add])⟩
def cutI (ns : List Int) (lo hi : Option Int) : List Int := (ns.drop (HT.sIx ns.length 0 lo)).take (HT.sIx ns.length ns.length hi - HT.sIx ns.length 0 lo)
theorem cutV_ints (ns : List Int) (lo hi : Option Int) : cutV (ns.map V.int) lo hi = (cutI ns lo hi).map V.int := by
  unfold cutV cutI
  rw [List.length_map, List.map_take, List.map_drop]
/-- Grove() -/
theorem rd_grove {K : PySem.W.Frag} {σ : L2.St} {H : Hp} {Q : VK} (h : ∀ (a : GA) H', GAt (CG K) H' a [] [] → (∀ b ∈ a.muts [], H b = none) → Same H H' → Q (.ref a.g) H') : tMake (CG K) (sp_ginit (CG K)) [] E0 tNil σ H Q := by
  intro x dx hx hdx hne
  refine ⟨x, dx, rfl, upd_same, fun a H' e G hn hk => ⟨rfl, ?_⟩⟩
  subst e
  have out : ∀ (b u : Addr) (Hx : Hp) (o : HO), upd Hx u o b = none → Hx b = none := fun b u Hx o e => by
    by_cases z : b = u
    · subst z; rw [upd_same] at e; cases e
    · rw [upd_ne z] at e; exact e
  refine h a H' G (fun b hb => out _ _ _ _ (out _ _ _ _ (hn b hb))) fun b o e => ?_
  have b1 : b ≠ a.g := ne_of_none e hx
  have b2 : b ≠ dx := ne_of_none e hdx
  exact hk b o (by rw [upd_ne b1, upd_ne b2]; exact e) b1
/-! #### the asker's own lists beside a grove -/
/-- tuples stay -/
def Tup (H H' : Hp) : Prop := ∀ b ys, H b = some (.tup ys) → H' b = some (.tup ys)
theorem Tup.refl (H : Hp) : Tup H H := fun _ _ h => h
theorem Tup.trans {H H1 H2 : Hp} (x : Tup H H1) (y : Tup H1 H2) : Tup H H2 := fun b ys h => y b ys (x b ys h)
theorem Tup.of {H H' : Hp} (x : Same H H') : Tup H H' := fun b ys h => x b _ h
theorem Tup.put {H : Hp} {p : Addr} {xs : List V} (h : H p = some (.lst xs)) (o : HO) : Tup H (upd H p o) := fun b ys e => by
  rw [upd_ne (by rintro rfl; rw [h] at e; cases e)]; exact e
theorem GStep.tup {C : Addr} {H H1 : Hp} {a : GA} {rows r1 : List (Int × Addr)} {q q1 : List Sq} (x : GStep C H a rows q H1 r1 q1) (G : GAt C H a rows q) : Tup H H1 := fun b ys e => x.fr b _ e (G.tup_out e)
/-- own lists, by their addresses -/
structure OwnL (a : GA) (rows : List (Int × Addr)) (H : Hp) (l : List (Addr × List V)) : Prop where
  nd : (l.map (·.1)).Nodup
  at_ : ∀ p xs, (p, xs) ∈ l → H p = some (.lst xs)
  out : ∀ p xs, (p, xs) ∈ l → p ∉ a.muts rows
theorem OwnL.same {a : GA} {rows : List (Int × Addr)} {H H' : Hp} {l : List (Addr × List V)} (h : OwnL a rows H l) (s : Same H H') : OwnL a rows H' l := ⟨h.nd, fun p xs m => s _ _ (h.at_ p xs m), h.out⟩
theorem OwnL.step {C : Addr} {H H1 : Hp} {a : GA} {rows r1 : List (Int × Addr)} {q q1 : List Sq} {l : List (Addr × List V)} (h : OwnL a rows H l) (x : GStep C H a rows q H1 r1 q1) : OwnL a r1 H1 l :=
  ⟨h.nd, fun p xs m => (x.own (h.at_ p xs m) (h.out p xs m)).1, fun p xs m => (x.own (h.at_ p xs m) (h.out p xs m)).2⟩
theorem OwnL.nil {a : GA} {rows : List (Int × Addr)} {H : Hp} : OwnL a rows H [] := ⟨by simp, fun _ _ m => by simp at m, fun _ _ m => by simp at m⟩
theorem OwnL.new {C : Addr} {a : GA} {rows : List (Int × Addr)} {q : List Sq} {H : Hp} {l : List (Addr × List V)} {p : Addr} {xs : List V} (h : OwnL a rows H l) (G : GAt C H a rows q) (hp : H p = none) : OwnL a rows (upd H p (.lst xs)) ((p, xs) :: l) := by
  refine ⟨?_, fun p' ys m => ?_, fun p' ys m => ?_⟩
  · rw [List.map_cons, List.nodup_cons]
    refine ⟨fun z => ?_, h.nd⟩
    obtain ⟨⟨p', ys⟩, m, e⟩ := List.mem_map.mp z
    have e' : p' = p := e
    subst e'
    rw [h.at_ _ _ m] at hp
    cases hp
  · rcases List.mem_cons.mp m with m | m
    · cases m; exact upd_same
    · exact same_upd hp _ _ (h.at_ _ _ m)
  · rcases List.mem_cons.mp m with m | m
    · cases m; exact G.new_out hp
    · exact h.out _ _ m
theorem OwnL.put {a : GA} {rows : List (Int × Addr)} {H : Hp} {p : Addr} {xs : List V} (l1 l2 : List (Addr × List V)) (ys : List V) (h : OwnL a rows H (l1 ++ (p, xs) :: l2)) : OwnL a rows (upd H p (.lst ys)) (l1 ++ (p, ys) :: l2) := by
  have nd := h.nd
  rw [List.map_append, List.map_cons] at nd
  have ne : ∀ p' zs, (p', zs) ∈ l1 ∨ (p', zs) ∈ l2 → p' ≠ p := fun p' zs m e => by
    subst e
    rw [List.nodup_append, List.nodup_cons] at nd
    rcases m with m | m
    · exact nd.2.2 p' (List.mem_map_of_mem (f := fun x : Addr × List V => x.1) (a := (p', zs)) m) p' List.mem_cons_self rfl
    · exact nd.2.1.1 (List.mem_map_of_mem (f := fun x : Addr × List V => x.1) (a := (p', zs)) m)
  refine ⟨by rw [List.map_append, List.map_cons]; exact nd, fun p' zs m => ?_, fun p' zs m => ?_⟩
  · rcases List.mem_append.mp m with m | m
    · rw [upd_ne (ne p' zs (.inl m))]; exact h.at_ _ _ (List.mem_append_left _ m)
    · rcases List.mem_cons.mp m with m | m
      · cases m; exact upd_same
      · rw [upd_ne (ne p' zs (.inr m))]; exact h.at_ _ _ (List.mem_append_right _ (List.mem_cons_of_mem _ m))
  · rcases List.mem_append.mp m with m | m
    · exact h.out _ _ (List.mem_append_left _ m)
    · rcases List.mem_cons.mp m with m | m
      · cases m; exact h.out _ xs (List.mem_append_right _ List.mem_cons_self)
      · exact h.out _ _ (List.mem_append_right _ (List.mem_cons_of_mem _ m))
theorem GAt.own {C : Addr} {H : Hp} {a : GA} {rows : List (Int × Addr)} {q : List Sq} {l : List (Addr × List V)} {p : Addr} {xs : List V} {o : HO} (G : GAt C H a rows q) (h : OwnL a rows H l) (m : (p, xs) ∈ l) : GAt C (L2.upd H p o) a rows q :=
  G.upd (fun u e => by rw [h.at_ _ _ m] at e; cases e; exact fun z => z) (h.out _ _ m)
theorem OwnL.ix {a : GA} {rows : List (Int × Addr)} {H : Hp} {l : List (Addr × List V)} {p : Addr} {xs : List V} (h : OwnL a rows H l) (i : Nat) (e : l[i]? = some (p, xs)) : H p = some (.lst xs) := h.at_ p xs (List.mem_of_getElem? e)
theorem GAt.ownI {C : Addr} {H : Hp} {a : GA} {rows : List (Int × Addr)} {q : List Sq} {l : List (Addr × List V)} {p : Addr} {xs : List V} (G : GAt C H a rows q) (h : OwnL a rows H l) (i : Nat) (e : l[i]? = some (p, xs)) (o : HO) : GAt C (L2.upd H p o) a rows q := G.own h (List.mem_of_getElem? e)
theorem OwnL.putI {a : GA} {rows : List (Int × Addr)} {H : Hp} {l : List (Addr × List V)} {p : Addr} {xs : List V} (h : OwnL a rows H l) (i : Nat) (e : l[i]? = some (p, xs)) (ys : List V) : OwnL a rows (upd H p (.lst ys)) (l.set i (p, ys)) := by
  obtain ⟨hi, e'⟩ := List.getElem?_eq_some_iff.mp e
  have e1 : l = l.take i ++ (p, xs) :: l.drop (i + 1) := by rw [← e']; simp
  rw [List.set_eq_take_append_cons_drop, if_pos hi]
  rw [e1] at h
  exact h.put (l.take i) (l.drop (i + 1)) ys
theorem OwnL.tup {a : GA} {rows : List (Int × Addr)} {H : Hp} {l : List (Addr × List V)} {p : Addr} {xs : List V} (h : OwnL a rows H l) (i : Nat) (e : l[i]? = some (p, xs)) (o : HO) : Tup H (L2.upd H p o) := Tup.put (h.ix i e) o
section
variable {P : Program} {w : World} {K : PySem.W.Frag} {mg : Str → Option Value} {base : Heap}
def atN (ns : List Int) (k : Nat) : Int := (ns[k]?).getD 0
def sp_at (K : PySem.W.Frag) : Sp := fun vs H Q _ => ∃ (a : Addr) (ns : List Int) (k : Int), vs = [.ref a, .int k] ∧ SqL K H a (ns.map V.int) ∧ 0 ≤ k ∧ Q (.int (atN ns k.toNat)) H
theorem mp_at : MonP (sp_at K) := fun vs H Q Q' E h ⟨a, ns, k, x1, x2, x3, q⟩ => ⟨a, ns, k, x1, x2, x3, h _ _ q⟩
theorem ok_at (T : Env fa fn K mg) : Good P w K mg base CX0 1 ("_law_at", none) ["_law_script", "_law_k"] (sp_at K) := by
  refine good_mk T 29 (d := d_w_at) (N := ["_law_script", "_law_k"]) (ps := ["_law_script", "_law_k"]) rfl rfl sc_w_at (fun _ _ _ _ _ _ us hl => match us, hl with | [_, _], _ => rfl) (fun vs H Q E h => ?_) (fun f cdv A outer s H vs Q E hr h => ?_)
  · obtain ⟨a, ns, k, rfl, _⟩ := h; rfl
  · obtain ⟨a, ns, k, rfl, hs, h0, q⟩ := h
    refine ⟨_, (pss_cons (ps_if (pt_cmpR op_lt (pv 1) (pe_callB (call_lenK K rfl) (by rfl) (T.free 8) (by decide +kernel) (pa_cons (pv 0) pa_nil)) (nomark _)) (pss_one (ps_ret (pe_ix (ix_listK K rfl) (pv 0) (pv 1) (fun _ _ => rfl)))) pss_nil)
      (pss_one (ps_ret pe_int))), ?_⟩
    obtain ⟨m, rfl⟩ : ∃ m : Nat, k = m := ⟨k.toNat, by omega⟩
    rw [Int.toNat_natCast] at q
    walk_at "rd"
    refine rd_len hs ?_
    walk_at "rd"
    rw [List.length_map]
    refine ite_d (fun hk => ?_) (fun hk => ?_)
    · walk_at "rd"
      have hlt : m < ns.length := by omega
      refine rd_ixL hs (v := .int (atN ns m)) (atI_nat ?_) q
      rw [List.getElem?_map, at_get hlt]
      simp [atN, hlt]
    · walk_at "rd"
      have e : atN ns m = 0 := by unfold atN; rw [List.getElem?_eq_none (by omega)]; rfl
      rw [e] at q
      exact q
end
end JF

/-! ### helpers of the laws: dicts by tuples, zips of tuples -/
namespace JF
open PySem PySem.Spec PyProof.Rows L2
section
variable {X : Cx}
/-- d.setdefault(tuple, x), the dict by tuples -/
def rSetdT : V → List V → Hp → VK → Prop := fun u us H Q => ∃ (d t : Addr) (k : List Key) (z : V) (tab : List (List Key × V)), u = .ref d ∧ us = [.ref t, z] ∧ H d = some (.dT tab) ∧ H t = some (.tup (k.map kV)) ∧ tab.length < sizeLine ∧
  (∀ v, valV tab k = some v → Q v H) ∧ (valV tab k = none → Q z (upd H d (.dT (putK tab k z))))
theorem mt_setdT (room : X.A.units + 64 < cLine) : MtR X "dict.setdefault" rSetdT := by
  intro pins s σ H u us uv uvs Q I ru rus h
  obtain ⟨d, t, k, z, tab, rfl, rfl, hd, ht, hlt, there, away⟩ := h
  cases ru
  obtain ⟨kv, zv, rfl, rk, rz⟩ := vals2 rus
  cases rk
  obtain ⟨hle, hsys, ys, tie, dict⟩ := dt_of I.hok hd
  have hys : ys.length ≤ sizeLine := Paired.length tie ▸ hle
  have look := tie.val k
  refine call_setdefault_heap (knd := tupleKind (mixKind X.prog X.w)) (k := k) (tupleKind_room_in1 (by omega)) (key_of I.hok ht) hsys dict ?got ?new hys
  case got =>
    intro p hp
    rw [hp] at look
    cases ev : valV tab k with
    | none => rw [ev] at look; exact False.elim look
    | some v =>
      rw [ev] at look
      exact ⟨v, H, I.tok _, look, there v ev⟩
  case new =>
    intro hn h2 dict2 but
    have ev : valV tab k = none := by
      cases ev : valV tab k with
      | none => rfl
      | some v => rw [hn, ev] at look; exact False.elim look
    obtain ⟨o, es, ep, ho, m1, m2, m3, _, m4⟩ := dict2
    have tie2 : KT (upd H d (.dT (putK tab k z))) (putK tab k z) (storedH ys k t zv) := (tie.put k ht rz).keeps fun b items e => by
      rw [upd_ne (ne_of e hd (fun x => nomatch x))]
      exact e
    have hle2 : (putK tab k z).length ≤ sizeLine := by
      rw [putK_new _ ev, List.length_append]
      exact hlt
    have I2 := d_write (t' := s.toks + (tupleKind (mixKind X.prog X.w)).draws k) I (by rw [hd]; exact True.intro) but ⟨o, ho⟩ (ob := .dT (putK tab k z)) ⟨hle2, hsys, _, tie2, o, es, ep, ho, m1, m2, m3, m4⟩
    exact ⟨z, _, I2, rz, away ev⟩
end
section
variable {X : Cx} {p pos tpos : Pos} {e e2 : Expr} {ta : TA} {elts : List Expr} {kk : Nat}
theorem pi_zipAK (K : PySem.W.Frag) (hK : X.K = K) (hg : Gl X "zip") (hm : X.mg "zip" = none) (ha : PA X [e, e2] ta) (hs : starEach [e, e2] X.env = (false, eval e X.env) :: starEach [e2] X.env := by rfl) (hpl : (backTo pos (starEach [e2] X.env)).any (·.1) = false := by rfl) :
    PI X (.Tuple elts kk tpos) (.Call (.Name "zip" p) [e, e2] [] pos) (RZ.iZipA K ta) := by subst hK; exact RZ.pi_zipA hg hm ha hs hpl
end
section
variable {K : PySem.W.Frag} {σ : L2.St} {H : Hp} {Q : VK}
theorem rd_iZA {tr : TA} {R : It → Hp → Prop} (h : tr σ H fun vs H1 => ∃ a b xs ys, vs = [.ref a, .ref b] ∧ ((SqL K H1 a xs ∧ SqL K H1 b ys ∧ R (Itz K a b) H1) ∨ (SqT K H1 a xs ∧ SqT K H1 b ys ∧ R (RZ.ItzT K a b) H1))) : RZ.iZipA K tr σ H R := h
theorem rd_tyD {l : Addr} {xs : List (Key × V)} {R : Prop} (h1 : H l = some (.dK xs)) (q : R) : tyV K "dict" (.ref l) H ∧ R := ⟨Or.inr (Or.inr (Or.inl ⟨rfl, Or.inl ⟨_, h1⟩⟩)), q⟩
theorem rd_tyDT {l : Addr} {xs : List (List Key × V)} {R : Prop} (h1 : H l = some (.dT xs)) (q : R) : tyV K "dict" (.ref l) H ∧ R := ⟨Or.inr (Or.inr (Or.inl ⟨rfl, Or.inr ⟨_, h1⟩⟩)), q⟩
theorem rd_iK {td : TE} {R : It → Hp → Prop} (h : td σ H fun x H1 => ∃ d o, x = .ref d ∧ ((∃ kvs, H1 d = some (.frz o (.dK kvs)) ∧ R (Itk d o kvs) H1) ∨ ∃ kvs, H1 d = some (.frz o (.dT kvs)) ∧ R (Itkt d o kvs) H1)) : iKeys td σ H R := h
theorem shaped_tup {ns : List Int} : SeqAt.shaped (.tuple (ns.map PyData.int)) = true := by
  have h1 := depth_ints ns
  have h2 := lay_ints ns
  have h3 : PyData.depth (.tuple (ns.map PyData.int)) ≤ 64 := by
    simp only [PyData.depth]
    omega
  unfold SeqAt.shaped
  rw [decide_eq_true h3, Bool.and_true]
  simp only [PyData.canLay0, h2]
theorem rd_neDT {p p' : Addr} {ns ms : List Int} (h1 : H p = some (.tup (ns.map V.int))) (h2 : H p' = some (.tup (ms.map V.int)))
    (q : Q (.bl (!PyData.eqv (.tuple (ns.map PyData.int)) (.tuple (ms.map PyData.int)))) H) : rNeD K (.ref p) (.ref p') H Q := ⟨_, _, .tup (SqT.of h1) dp_ints, .tup (SqT.of h2) dp_ints, shaped_tup, shaped_tup, q⟩
theorem eqvT_refl (ns : List Int) : PyData.eqv (.tuple (ns.map PyData.int)) (.tuple (ns.map PyData.int)) = true := SeqAt.eqv_refl _ (by simp only [PyData.canLay0]; exact lay_ints ns)
end
theorem eqvAll_ints : ∀ ns ms : List Int, PyData.eqvAll (ns.map PyData.int) (ms.map PyData.int) = decide (ns = ms)
  | [], [] => by simp [PyData.eqvAll]
  | [], _ :: _ => by simp [PyData.eqvAll]
  | _ :: _, [] => by simp [PyData.eqvAll]
  | n :: ns, m :: ms => by
    simp only [List.map_cons, PyData.eqvAll, PyData.eqv, eqvAll_ints ns ms, List.cons.injEq]
    by_cases a : n = m <;> by_cases b : ns = ms <;> simp [a, b]
theorem shaped_list {ns : List Int} : SeqAt.shaped (.list (ns.map PyData.int)) = true := by
  have h1 := depth_ints ns
  have h2 := lay_ints ns
  have h3 : PyData.depth (.list (ns.map PyData.int)) ≤ 64 := by
    simp only [PyData.depth]
    omega
  unfold SeqAt.shaped
  rw [decide_eq_true h3, Bool.and_true]
  simp only [PyData.canLay0, h2]
/-- lists, tuples of whole numbers, compared -/
theorem rd_eqLI {K : PySem.W.Frag} {H : Hp} {Q : VK} {p p' : Addr} {ns ms : List Int} (h1 : SqL K H p (ns.map V.int)) (h2 : SqL K H p' (ms.map V.int)) (q : Q (.bl (decide (ns = ms))) H) : rEqD K (.ref p) (.ref p') H Q :=
  rd_eqDI h1 h2 shaped_list shaped_list (by
    have e : PyData.eqv (.list (ns.map PyData.int)) (.list (ms.map PyData.int)) = decide (ns = ms) := by rw [← eqvAll_ints]; simp only [PyData.eqv]
    rw [e]; exact q)
theorem rd_neLI {K : PySem.W.Frag} {H : Hp} {Q : VK} {p p' : Addr} {ns ms : List Int} (h1 : SqL K H p (ns.map V.int)) (h2 : SqL K H p' (ms.map V.int)) (q : Q (.bl (!decide (ns = ms))) H) : rNeD K (.ref p) (.ref p') H Q :=
  rd_neDI h1 h2 shaped_list shaped_list (by
    have e : PyData.eqv (.list (ns.map PyData.int)) (.list (ms.map PyData.int)) = decide (ns = ms) := by rw [← eqvAll_ints]; simp only [PyData.eqv]
    rw [e]; exact q)
theorem rd_neTI {K : PySem.W.Frag} {H : Hp} {Q : VK} {p p' : Addr} {ns ms : List Int} (h1 : H p = some (.tup (ns.map V.int))) (h2 : H p' = some (.tup (ms.map V.int))) (q : Q (.bl (!decide (ns = ms))) H) : rNeD K (.ref p) (.ref p') H Q :=
  rd_neDT h1 h2 (by
    have e : PyData.eqv (.tuple (ns.map PyData.int)) (.tuple (ms.map PyData.int)) = decide (ns = ms) := by rw [← eqvAll_ints]; simp only [PyData.eqv]
    rw [e]; exact q)
theorem mm_setdT : MonM rSetdT := fun x y H Q Q' h ⟨d, t, k, z, tab, e1, e2, e3, e4, e5, q1, q2⟩ => ⟨d, t, k, z, tab, e1, e2, e3, e4, e5, fun v hv => h _ _ (q1 v hv), fun hv => h _ _ (q2 hv)⟩
theorem mr_neD {K : PySem.W.Frag} : MonR (rNeD K) := fun x y H Q Q' h ⟨a, b, e1, e2, e3, e4, q⟩ => ⟨a, b, e1, e2, e3, e4, h _ _ q⟩
theorem mr_eqD {K : PySem.W.Frag} : MonR (rEqD K) := fun x y H Q Q' h ⟨a, b, e1, e2, e3, e4, q⟩ => ⟨a, b, e1, e2, e3, e4, h _ _ q⟩
/-! own objects beside a grove: lists, dicts -/
structure OwnO (a : GA) (rows : List (Int × Addr)) (H : Hp) (l : List (Addr × HO)) : Prop where
  nd : (l.map (·.1)).Nodup
  at_ : ∀ p o, (p, o) ∈ l → H p = some o
  mv : ∀ p o, (p, o) ∈ l → ¬ HO.still o
  out : ∀ p o, (p, o) ∈ l → p ∉ a.muts rows
theorem OwnO.same {a : GA} {rows : List (Int × Addr)} {H H' : Hp} {l : List (Addr × HO)} (h : OwnO a rows H l) (s : Same H H') : OwnO a rows H' l := ⟨h.nd, fun p xs m => s _ _ (h.at_ p xs m), h.mv, h.out⟩
theorem OwnO.step {C : Addr} {H H1 : Hp} {a : GA} {rows r1 : List (Int × Addr)} {q q1 : List Sq} {l : List (Addr × HO)} (h : OwnO a rows H l) (x : GStep C H a rows q H1 r1 q1) : OwnO a r1 H1 l :=
  ⟨h.nd, fun p xs m => (x.own (h.at_ p xs m) (h.out p xs m)).1, h.mv, fun p xs m => (x.own (h.at_ p xs m) (h.out p xs m)).2⟩
theorem OwnO.nil {a : GA} {rows : List (Int × Addr)} {H : Hp} : OwnO a rows H [] := ⟨by simp, fun _ _ m => by simp at m, fun _ _ m => by simp at m, fun _ _ m => by simp at m⟩
theorem OwnO.new {C : Addr} {a : GA} {rows : List (Int × Addr)} {q : List Sq} {H : Hp} {l : List (Addr × HO)} {p : Addr} {o : HO} (h : OwnO a rows H l) (G : GAt C H a rows q) (hp : H p = none) (ho : ¬ HO.still o) : OwnO a rows (upd H p o) ((p, o) :: l) := by
  refine ⟨?_, fun p' ys m => ?_, fun p' ys m => ?_, fun p' ys m => ?_⟩
  · rw [List.map_cons, List.nodup_cons]
    refine ⟨fun z => ?_, h.nd⟩
    obtain ⟨⟨p', ys⟩, m, e⟩ := List.mem_map.mp z
    have e' : p' = p := e
    subst e'
    rw [h.at_ _ _ m] at hp
    cases hp
  · rcases List.mem_cons.mp m with m | m
    · cases m; exact upd_same
    · exact same_upd hp _ _ (h.at_ _ _ m)
  · rcases List.mem_cons.mp m with m | m
    · cases m; exact ho
    · exact h.mv _ _ m
  · rcases List.mem_cons.mp m with m | m
    · cases m; exact G.new_out hp
    · exact h.out _ _ m
theorem OwnO.ix {a : GA} {rows : List (Int × Addr)} {H : Hp} {l : List (Addr × HO)} {p : Addr} {o : HO} (h : OwnO a rows H l) (i : Nat) (e : l[i]? = some (p, o)) : H p = some o := h.at_ p o (List.mem_of_getElem? e)
theorem mem_set {α : Type} {l : List α} {i : Nat} {y x : α} (h : x ∈ l.set i y) : x = y ∨ ∃ j, j ≠ i ∧ l[j]? = some x := by
  obtain ⟨j, hj, e⟩ := List.mem_iff_getElem.mp h
  by_cases z : i = j
  · subst z; left; rw [← e, List.getElem_set_self]
  · right
    refine ⟨j, Ne.symm z, ?_⟩
    rw [List.getElem_set_ne z] at e
    rw [List.length_set] at hj
    rw [at_get hj, e]
theorem OwnO.ne {a : GA} {rows : List (Int × Addr)} {H : Hp} {l : List (Addr × HO)} (h : OwnO a rows H l) {i j : Nat} {p p' : Addr} {o o' : HO} (e : l[i]? = some (p, o)) (e' : l[j]? = some (p', o')) (n : j ≠ i) : p' ≠ p := fun z => by
  obtain ⟨hi, ei⟩ := List.getElem?_eq_some_iff.mp e
  obtain ⟨hj, ej⟩ := List.getElem?_eq_some_iff.mp e'
  exact n ((List.getElem_inj (xs := l.map (·.1)) (h₀ := by simpa using hj) (h₁ := by simpa using hi) h.nd).mp (by simp [ei, ej, z]))
theorem OwnO.put {a : GA} {rows : List (Int × Addr)} {H : Hp} {l : List (Addr × HO)} {p : Addr} {o : HO} (h : OwnO a rows H l) (i : Nat) (e : l[i]? = some (p, o)) (o' : HO) (ho : ¬ HO.still o') : OwnO a rows (upd H p o') (l.set i (p, o')) := by
  have nd' : ((l.set i (p, o')).map (·.1)) = l.map (·.1) := by
    rw [List.map_set]
    obtain ⟨hi, ei⟩ := List.getElem?_eq_some_iff.mp e
    refine List.ext_getElem (by simp) fun j h1 h2 => ?_
    by_cases z : i = j
    · subst z; simp [ei]
    · rw [List.getElem_set_ne z]
  have cases_ : ∀ p' u, (p', u) ∈ l.set i (p, o') → (p' = p ∧ u = o') ∨ (p' ≠ p ∧ (p', u) ∈ l) := fun p' u m => by
    rcases mem_set m with m | ⟨j, hj, m⟩
    · cases m; exact .inl ⟨rfl, rfl⟩
    · exact .inr ⟨h.ne e m hj, List.mem_of_getElem? m⟩
  refine ⟨by rw [nd']; exact h.nd, fun p' u m => ?_, fun p' u m => ?_, fun p' u m => ?_⟩
  · rcases cases_ p' u m with ⟨rfl, rfl⟩ | ⟨n, m⟩
    · exact upd_same
    · rw [upd_ne n]; exact h.at_ _ _ m
  · rcases cases_ p' u m with ⟨rfl, rfl⟩ | ⟨n, m⟩
    · exact ho
    · exact h.mv _ _ m
  · rcases cases_ p' u m with ⟨rfl, rfl⟩ | ⟨n, m⟩
    · exact h.out _ o (List.mem_of_getElem? e)
    · exact h.out _ _ m
theorem GAt.ownO {C : Addr} {H : Hp} {a : GA} {rows : List (Int × Addr)} {q : List Sq} {l : List (Addr × HO)} {p : Addr} {o : HO} (G : GAt C H a rows q) (h : OwnO a rows H l) (i : Nat) (e : l[i]? = some (p, o)) (o' : HO) : GAt C (L2.upd H p o') a rows q :=
  G.upd (fun u e' => by rw [h.ix i e] at e'; cases e'; exact h.mv _ _ (List.mem_of_getElem? e)) (h.out _ _ (List.mem_of_getElem? e))
theorem OwnO.tup {a : GA} {rows : List (Int × Addr)} {H : Hp} {l : List (Addr × HO)} {p : Addr} {o : HO} (h : OwnO a rows H l) (i : Nat) (e : l[i]? = some (p, o)) (o' : HO) : Tup H (L2.upd H p o') := fun b ys e' => by
  rw [upd_ne (by rintro rfl; rw [h.ix i e] at e'; cases e'; exact h.mv _ _ (List.mem_of_getElem? e) trivial)]; exact e'
/-! the law's promise -/
def sp_law (K : PySem.W.Frag) : Sp := fun vs H Q _ => ∃ (a : Addr) (ns : List Int), vs = [.ref a] ∧ SqL K H a (ns.map V.int) ∧ ns.length ≤ 63 ∧ Only H ∧ ∀ H', Q (.bl true) H'
theorem sp_law_in {K : PySem.W.Frag} (H : Hp) (a : Addr) (ns : List Int) (hl : ns.length ≤ 63) (hO : Only H) (hS : SqL K H a (ns.map V.int)) : sp_law K [.ref a] H (fun v _ => v = .bl true) (fun _ _ _ => False) := ⟨a, ns, rfl, hS, hl, hO, fun _ => rfl⟩
theorem shl_ok {i : Nat} : (1 : Int) * 2 ^ ((i : Int)).toNat = 2 ^ i := by rw [Int.one_mul, Int.toNat_natCast]
/-! solid squares: what lives, the span -/
theorem even_none : ∀ l : Nat, (Sq.even l 0).lives = 0 ∧ (Sq.even l 0).span = none
  | 0 => ⟨rfl, rfl⟩
  | l + 1 => by
    obtain ⟨h1, h2⟩ := even_none l
    refine ⟨?_, ?_⟩
    · show (Sq.even l 0).lives + (Sq.even l 0).lives + (Sq.even l 0).lives + (Sq.even l 0).lives = 0
      rw [h1]; rfl
    · show r4 _ (Sq.even l 0).span (Sq.even l 0).span (Sq.even l 0).span (Sq.even l 0).span = none
      rw [h2]; rfl
theorem even_some {s : Int} (hs : s ≠ 0) : ∀ l : Nat, (Sq.even l s).lives = 2 ^ l * 2 ^ l ∧ (Sq.even l s).span = some (0, 0, 2 ^ l, 2 ^ l)
  | 0 => by simp [Sq.even, Sq.lives, Sq.span, hs]
  | l + 1 => by
    obtain ⟨h1, h2⟩ := even_some hs l
    have e : (2 : Int) ^ (l + 1) = 2 * 2 ^ l := by rw [Int.pow_succ]; omega
    have h0 : (0 : Int) < 2 ^ l := Int.pow_pos (by decide)
    refine ⟨?_, ?_⟩
    · show (Sq.even l s).lives + (Sq.even l s).lives + (Sq.even l s).lives + (Sq.even l s).lives = _
      rw [h1, e]
      generalize (2 : Int) ^ l = h
      have e2 : 2 * h * (2 * h) = 4 * (h * h) := by rw [Int.mul_assoc, Int.mul_left_comm h 2 h, ← Int.mul_assoc]; rfl
      rw [e2]; omega
    · show r4 (2 ^ (Sq.even l s).level) (Sq.even l s).span (Sq.even l s).span (Sq.even l s).span (Sq.even l s).span = _
      rw [h2, Sq.level_even, e]
      generalize (2 : Int) ^ l = h at h0
      simp only [r4, r4step, rb, Option.some.injEq, Prod.mk.injEq]
      refine ⟨?_, ?_, ?_, ?_⟩ <;> omega
theorem even_inj {s s' : Int} : ∀ {l l' : Nat}, Sq.even l s = Sq.even l' s' → l = l' ∧ s = s'
  | 0, 0, h => by cases h; exact ⟨rfl, rfl⟩
  | 0, _ + 1, h => by cases h
  | _ + 1, 0, h => by cases h
  | l + 1, l' + 1, h => by
    injection h with h1
    obtain ⟨a, b⟩ := even_inj h1
    exact ⟨by rw [a], b⟩
theorem pow64 {i : Nat} (h : i ≤ 60) : (0 : Int) < 2 ^ i ∧ (2 : Int) ^ i < 2 ^ 64 := by
  refine ⟨Int.pow_pos (by decide), ?_⟩
  have e2 : 2 ^ i < 2 ^ 64 := Nat.pow_lt_pow_right (by decide) (by omega)
  exact_mod_cast e2
theorem sq_ok {i : Nat} (h : i ≤ 60) : CMulW ((2 : Int) ^ i) (2 ^ i) := by
  obtain ⟨h1, h2⟩ := pow64 h
  have e1 : (2 : Int) ^ 64 ≤ 2 ^ 2000 := by decide +kernel
  exact mulW_of (by omega) (by omega) (by omega) (by omega)
section
variable {P : Program} {w : World} {K : PySem.W.Frag} {mg : Str → Option Value} {base : Heap}
def sp_same : Sp := fun vs H Q _ => ∃ i d : Int, vs = [.int i, .int d] ∧ Q (.bl (decide (i = d))) H
theorem mp_same : MonP sp_same := fun vs H Q Q' E h ⟨i, d, x1, q⟩ => ⟨i, d, x1, h _ _ q⟩
theorem sp_sameT {i : Int} {H : Hp} {Q : VK} {E : XK} (q : Q (.bl true) H) : sp_same [.int i, .int i] H Q E := ⟨i, i, rfl, by rw [decide_eq_true rfl]; exact q⟩
end
end JF

/-! ### helpers of the laws: the script beside a grove -/
namespace JF
open PySem PySem.Spec PyProof.Rows L2
/-- the script stays as it was, and is none of the grove's own -/
def Scr (H0 : Hp) (a0 : Addr) (a : GA) (rows : List (Int × Addr)) (H : Hp) : Prop := ∀ o, H0 a0 = some o → H a0 = some o ∧ a0 ∉ a.muts rows
theorem Scr.new {H0 H1 : Hp} {a0 : Addr} {a : GA} (hnew : ∀ b ∈ a.muts [], H0 b = none) (sm : Same H0 H1) : Scr H0 a0 a [] H1 := fun o e => ⟨sm _ _ e, fun z => by
  have y := hnew _ z
  rw [e] at y
  cases y⟩
theorem Scr.same {H0 H H' : Hp} {a0 : Addr} {a : GA} {rows : List (Int × Addr)} (h : Scr H0 a0 a rows H) (s : Same H H') : Scr H0 a0 a rows H' := fun o e => ⟨s _ _ (h o e).1, (h o e).2⟩
theorem Scr.step {C : Addr} {H0 H H1 : Hp} {a0 : Addr} {a : GA} {rows r1 : List (Int × Addr)} {q q1 : List Sq} (h : Scr H0 a0 a rows H) (x : GStep C H a rows q H1 r1 q1) : Scr H0 a0 a r1 H1 := fun o e => x.own (h o e).1 (h o e).2
theorem Scr.put {H0 H : Hp} {a0 p : Addr} {a : GA} {rows : List (Int × Addr)} {xs : List V} {o' : HO} (h : Scr H0 a0 a rows H) (hO : Only H0) (hp : H p = some (.lst xs)) : Scr H0 a0 a rows (upd H p o') := fun o e => by
  refine ⟨?_, (h o e).2⟩
  rw [upd_ne]
  · exact (h o e).1
  · rintro rfl
    rw [(h o e).1] at hp
    cases hp
    rcases hO a0 with z | ⟨u, ys, z⟩
    · rw [z] at e; cases e
    · rw [z] at e; cases e
theorem Scr.sq {K : PySem.W.Frag} {H0 H : Hp} {a0 : Addr} {a : GA} {rows : List (Int × Addr)} {xs : List V} (h : Scr H0 a0 a rows H) (hS : SqL K H0 a0 xs) : SqL K H a0 xs := sqL_on hS fun o e => (h o e).1
/-- the number read at a place -/
theorem rd_at {K : PySem.W.Frag} {H : Hp} {Q : VK} {E : XK} {a0 : Addr} {ns : List Int} {k : Int} (hs : SqL K H a0 (ns.map V.int)) (h0 : 0 ≤ k) (q : Q (.int (atN ns k.toNat)) H) : sp_at K [.ref a0, .int k] H Q E := ⟨a0, ns, k, rfl, hs, h0, q⟩
theorem nat_of {z : Int} (h : 0 ≤ z) : ∃ n : Nat, z = (n : Int) := ⟨z.toNat, by omega⟩
/-- range(i, j, c), small and upwards -/
theorem rgc_up {i j c : Int} (h1 : 0 ≤ i) (h2 : i ≤ 1000) (h3 : 0 ≤ j) (h4 : j ≤ 1000) (h5 : 1 ≤ c) (h6 : c ≤ 1000) : ∃ n : Nat, RgC i j c n ∧ ∀ k : Nat, k < n → i + (k : Int) * c < j := by
  have hq : 0 ≤ (j - i + c - 1) / c ∨ j ≤ i := by
    rcases Int.lt_or_le i j with h | h
    · left; exact Int.ediv_nonneg (by omega) (by omega)
    · exact .inr h
  have hle : (j - i + c - 1) / c ≤ 3000 := by
    rcases Int.lt_or_le (j - i + c - 1) 0 with h | h
    · have := Int.ediv_neg_of_neg_of_pos h (by omega : 0 < c); omega
    · exact Int.le_trans (Int.ediv_le_self _ h) (by omega)
  have es : Builtin.Range.rangeSize i j c = if i < j then (j - i - 1) / c + 1 else 0 := by
    unfold Builtin.Range.rangeSize
    rw [if_pos (by omega : c > 0)]
  have hdn : i < j → 0 ≤ (j - i - 1) / c := fun h => Int.ediv_nonneg (by omega) (by omega)
  have hdl : i < j → (j - i - 1) / c ≤ 1000 := fun h => Int.le_trans (Int.ediv_le_self _ (by omega)) (by omega)
  refine ⟨(Builtin.Range.rangeSize i j c).toNat, ⟨by omega, by omega, ?_, ?_⟩, fun k hk => ?_⟩
  · unfold Builtin.Range.small
    rw [es]
    simp only [Builtin.Range.rangeFitsLong, Bool.and_eq_true, Bool.or_eq_true, decide_eq_true_eq, beq_iff_eq, show c > 0 by omega, if_true]
    split
    · have a := hdn (by assumption); have b := hdl (by assumption); omega
    · omega
  · rw [es]
    split
    · have a := hdn (by assumption); omega
    · rfl
  · rw [es] at hk
    split at hk
    · have a := hdn (by assumption)
      have e := Int.mul_ediv_add_emod (j - i - 1) c
      have r := Int.emod_nonneg (j - i - 1) (by omega : c ≠ 0)
      have hk' : (k : Int) ≤ (j - i - 1) / c := by omega
      have hm : (k : Int) * c ≤ (j - i - 1) / c * c := Int.mul_le_mul_of_nonneg_right hk' (by omega)
      rw [Int.mul_comm ((j - i - 1) / c) c] at hm
      omega
    · omega
theorem rd_rng3 {i j c : Int} {R : It → Prop} (h1 : 0 ≤ i) (h2 : i ≤ 1000) (h3 : 0 ≤ j) (h4 : j ≤ 1000) (h5 : 1 ≤ c) (h6 : c ≤ 1000) (h : ∀ n : Nat, (∀ k : Nat, k < n → i + (k : Int) * c < j) → R (Itc i c n)) : ∃ (i' j' c' : Int) (n : Nat), [V.int i, V.int j, V.int c] = [.int i', .int j', .int c'] ∧ RgC i' j' c' n ∧ R (Itc i' c' n) := by
  obtain ⟨n, a, b⟩ := rgc_up h1 h2 h3 h4 h5 h6
  exact ⟨i, j, c, n, rfl, a, h n b⟩
end JF

/-! ### walks that the hand layer lacks: zip over lists and tuples alike, enumerate of a text -/
namespace JF
open PySem PySem.Spec PyProof.Rows L2
/-- a tuple, or a list -/
def sqB (t : Bool) (K : PySem.W.Frag) (H : Hp) (a : Addr) (xs : List V) : Prop := match t with
  | true => SqT K H a xs
  | false => SqL K H a xs
def isB (t : Bool) (h : Heap) (a : Addr) (its : Array Value) : Prop := match t with
  | true => h.IsTuple a its
  | false => h.IsList a its
def itB (t : Bool) (h : Heap) (it a : Addr) (i : Nat) : Prop := match t with
  | true => h.IsTupleIter it a i
  | false => h.IsListIter it a i
def obB (t : Bool) (a : Addr) : Obj := match t with
  | true => { cls := .type "tuple_iterator", data := .fields #[.ref a, .int 0 0] }
  | false => { cls := .type "list_iterator", data := .fields #[.ref a, .int 0 0] }
theorem itB.obj {t : Bool} {h : Heap} {it a : Addr} {i : Nat} (s : itB t h it a i) : ∃ o vs, h.get? it = some o ∧ o.data = .fields vs := by
  cases t with
  | true => obtain ⟨o, e, _, d⟩ := s; exact ⟨o, _, e, d⟩
  | false => obtain ⟨o, e, _, d⟩ := s; exact ⟨o, _, e, d⟩
theorem itB.at {t : Bool} {h h' : Heap} {it a : Addr} {i : Nat} (s : itB t h it a i) (k : ∀ o, h.get? it = some o → h'.get? it = some o) : itB t h' it a i := by
  cases t with
  | true => exact Heap.IsTupleIter.at s k
  | false => exact Heap.IsListIter.at s k
theorem isB.at {t : Bool} {h h' : Heap} {a : Addr} {its : Array Value} (s : isB t h a its) (k : ∀ o, h.get? a = some o → h'.get? a = some o) : isB t h' a its := by
  cases t with
  | true => exact Heap.IsTuple.at s k
  | false => exact Heap.IsList.at s k
theorem isB.lt {t : Bool} {h : Heap} {a : Addr} {its : Array Value} (s : isB t h a its) : a < h.objs.size := by
  cases t with
  | true => obtain ⟨o, e, _⟩ := s; exact Heap.lt_size e
  | false => obtain ⟨o, e, _⟩ := s; exact Heap.lt_size e
theorem isB.ne {t u : Bool} {h : Heap} {a b it : Addr} {i : Nat} {its : Array Value} (p : isB t h a its) (s : itB u h it b i) : a ≠ it := fun q => by
  obtain ⟨o', vs, e', d'⟩ := s.obj
  rw [← q] at e'
  cases t with
  | true => obtain ⟨o, e, _, n, d⟩ := p; rw [e] at e'; cases e'; rw [d] at d'; cases d'
  | false => obtain ⟨o, e, _, n, d⟩ := p; rw [e] at e'; cases e'; rw [d] at d'; cases d'
theorem drawsB {P : Program} {w : World} {A : Around} (hh : A.handled = none) (t : Bool) (it a : Addr) (hne : a ≠ it) (its : Array Value) :
    Draws P w A it [it, a] its.size (fun i v => its[i]? = some v) (fun i h => itB t h it a i ∧ isB t h a its) := by
  cases t with
  | true => exact Draws.tuple hh it a hne its
  | false => exact Draws.list hh it a hne its
theorem beginsB (t : Bool) (a : Addr) (its : Array Value) : Begins (.ref a) (obB t a) fun h => isB t h a its := by
  cases t with
  | true => exact begins_tuple a its
  | false => exact begins_list a its
theorem itB0 {t : Bool} {h : Heap} {it a : Addr} (e : h.get? it = some (obB t a)) : itB t h it a 0 := by
  cases t with
  | true => exact ⟨_, e, rfl, rfl⟩
  | false => exact ⟨_, e, rfl, rfl⟩
theorem sqB_inv {X : Cx} {pins : List (Addr × Obj)} {σ : L2.St} {H : Hp} {s : Shared} {t : Bool} {a : Addr} {xs : List V} (I : Inv X pins σ H s) (h : sqB t X.K H a xs) : ∃ its : List Value, Vals xs its ∧ isB t s.heap a its.toArray := by
  cases t with
  | true => obtain ⟨its, r, p, _⟩ := I.tuple h; exact ⟨its, r, p⟩
  | false => obtain ⟨its, r, p, _⟩ := I.list h; exact ⟨its, r, p.isList⟩
theorem sqB_inj {X : Cx} {pins : List (Addr × Obj)} {σ : L2.St} {H : Hp} {s : Shared} {t : Bool} {a : Addr} {xs ys : List V} (I : Inv X pins σ H s) (h : sqB t X.K H a xs) (h' : sqB t X.K H a ys) : xs = ys := by
  cases t with
  | true => exact I.tuple_inj h h'
  | false => exact I.list_inj h h'
/-- the things at a and b, in step, each turn a new pair -/
def ItzQ (K : PySem.W.Frag) (t u : Bool) (a b : Addr) : It :=
  ⟨fun i H => ∃ (xs ys : List V) (x y : V), sqB t K H a xs ∧ sqB u K H b ys ∧ xs[i]? = some x ∧ ys[i]? = some y,
    fun i H v H' => ∃ T x y, v = .ref T ∧ H T = none ∧ H' = upd H T (.tup [x, y]) ∧ (∀ xs, sqB t K H a xs → xs[i]? = some x) ∧ ∀ ys, sqB u K H b ys → ys[i]? = some y,
    fun i H => ∃ xs ys : List V, sqB t K H a xs ∧ sqB u K H b ys ∧ i ≤ xs.length ∧ i ≤ ys.length ∧ (xs.length = i ∨ ys.length = i)⟩
theorem turn_zipQ {P : Program} {w : World} {K : PySem.W.Frag} {elts : List Expr} {kk : Nat} {tpos : Pos} {t u : Bool} {a b z TI TO i1 i2 : Addr} (D : ZipSep2 z TI TO i1 i2 [i1, a] [i2, b]) :
    Turn P w K (.Tuple elts kk tpos) (ItzQ K t u a b) [z, TI, TO, i1, i2] z (fun i h => IsZip h z TI TO .none ∧ IsPair h TI (.ref i1) (.ref i2) ∧ (∃ x y, IsPair h TO x y) ∧ itB t h i1 a i ∧ itB u h i2 b i) where
  mem := by simp
  obj := fun i h st c hc => by
    obtain ⟨hz, hI, ⟨x, y, hO⟩, h1, h2⟩ := st
    obtain ⟨o1, v1, e1, d1⟩ := h1.obj
    obtain ⟨o2, v2, e2, d2⟩ := h2.obj
    have five : c = z ∨ c = TI ∨ c = TO ∨ c = i1 ∨ c = i2 := by simpa using hc
    rcases five with rfl | rfl | rfl | rfl | rfl
    · exact ⟨_, hz, fun v q => nomatch q⟩
    · exact ⟨_, hI, fun v q => nomatch q⟩
    · exact ⟨_, hO, fun v q => nomatch q⟩
    · exact ⟨o1, e1, fun v q => by rw [d1] at q; cases q⟩
    · exact ⟨o2, e2, fun v q => by rw [d2] at q; cases q⟩
  keep := fun i h h' st k => by
    obtain ⟨hz, hI, ⟨x, y, hO⟩, h1, h2⟩ := st
    exact ⟨k _ (by simp) _ hz, k _ (by simp) _ hI, ⟨x, y, k _ (by simp) _ hO⟩, h1.at fun o => k _ (by simp) o, h2.at fun o => k _ (by simp) o⟩
  item := by
    intro X eP ew eK hc i pins s σ H E I hf st hg
    subst eP ew eK
    obtain ⟨hz, hI, ⟨x0, y0, hO⟩, h1, h2⟩ := st
    obtain ⟨xs, ys, x, y, qa, qb, hx, hy⟩ := hg
    obtain ⟨its, rv, p⟩ := sqB_inv I qa
    obtain ⟨its2, rv2, p2⟩ := sqB_inv I qb
    obtain ⟨v, hv, ru⟩ := rv.get hx
    obtain ⟨v2, hv2, ru2⟩ := rv2.get hy
    have l1 : i < its.toArray.size := by rw [List.size_toArray]; exact (List.getElem?_eq_some_iff.mp hv).1
    have l2 : i < its2.toArray.size := by rw [List.size_toArray]; exact (List.getElem?_eq_some_iff.mp hv2).1
    have zl := Heap.lt_size hz
    obtain ⟨o1, _, e1, _⟩ := h1.obj
    obtain ⟨o2, _, e2, _⟩ := h2.obj
    have na : a ≠ i1 := p.ne h1
    have nb : b ≠ i2 := p2.ne h2
    refine wpAny_pyNext_zipD2_item D (drawsB (P := X.prog) (w := X.w) (A := X.A.in1) (show X.A.in1.handled = none from I.ok.hd hc) t i1 a na its.toArray) (drawsB (P := X.prog) (w := X.w) (A := X.A.in1) (show X.A.in1.handled = none from I.ok.hd hc) u i2 b nb its2.toArray) hz hI hO ⟨h1, p⟩ ⟨h2, p2⟩ l1 l2 fun w1 w2 g tk m1 m2 z' tO d1 d2 hT hsz hk => ?_
    have ew1 : w1 = v := by
      have q : its.toArray[i]? = some v := by simpa using hv
      exact Option.some.inj (m1.symm.trans q)
    have ew2 : w2 = v2 := by
      have q : its2.toArray[i]? = some v2 := by simpa using hv2
      exact Option.some.inj (m2.symm.trans q)
    subst ew1 ew2
    refine ⟨_, rfl, wpAny_letOwnedTupleGo_zip (s := { s with heap := g, toks := tk }) z' fun g2 z2 sb => ?_⟩
    have hT2 : g2.get? s.heap.objs.size = some { cls := .type "tuple", data := .seq #[w1, w2] } := (sb.2 _ (Nat.ne_of_gt zl)).trans hT
    have hob : ObjOk X.prog X.w (upd H s.heap.objs.size (.tup [x, y])) g2 s.heap.objs.size (.tup [x, y]) :=
      ⟨by show 2 ≤ sizeLine; decide, [w1, w2], .cons ru (.cons ru2 .nil), _, hT2, rfl, _, rfl⟩
    have kk : ∀ c o, c ∉ [z, TI, TO, i1, i2] → s.heap.get? c = some o → g2.get? c = some o := fun c o hb e => by
      simp only [List.mem_cons, List.not_mem_nil, or_false, not_or] at hb
      exact (sb.2 c hb.1).trans (hk c o hb.1 hb.2.2.1 hb.2.2.2.1 hb.2.2.2.2 e)
    refine ⟨.ref s.heap.objs.size, _, I.turnedNew (t' := tk) kk hf (Nat.le_refl _) hob, rfl, ⟨_, x, y, rfl, I.hok.fresh (Nat.le_refl _), rfl, fun l hl => by rw [sqB_inj I hl qa]; exact hx, fun l hl => by rw [sqB_inj I hl qb]; exact hy⟩, ⟨z2, ?_, ⟨w1, w2, ?_⟩, ?_, ?_⟩, fun c hcm => ?_⟩
    · exact Eq.trans (sb.2 _ D.TIz) (hk _ _ D.TIz D.TITO D.TIi1 D.TIi2 hI)
    · exact (sb.2 _ D.TOz).trans tO
    · exact d1.1.at fun o q => (sb.2 _ (Ne.symm D.zi1)).trans q
    · exact d2.1.at fun o q => (sb.2 _ (Ne.symm D.zi2)).trans q
    · have lt : c < s.heap.objs.size := by
        have five : c = z ∨ c = TI ∨ c = TO ∨ c = i1 ∨ c = i2 := by simpa using hcm
        rcases five with rfl | rfl | rfl | rfl | rfl
        · exact zl
        · exact Heap.lt_size hI
        · exact Heap.lt_size hO
        · exact Heap.lt_size e1
        · exact Heap.lt_size e2
      rw [upd_ne (Nat.ne_of_lt lt)]
      exact (hf c hcm).1
  done := by
    intro X eP ew eK hc i pins s σ H E I hf st hg
    subst eP ew eK
    obtain ⟨hz, hI, ⟨x0, y0, hO⟩, h1, h2⟩ := st
    obtain ⟨xs, ys, qa, qb, lx, ly, hend⟩ := hg
    obtain ⟨its, rv, p⟩ := sqB_inv I qa
    obtain ⟨its2, rv2, p2⟩ := sqB_inv I qb
    have l1 := rv.length
    have l2 := rv2.length
    have na : a ≠ i1 := p.ne h1
    have nb : b ≠ i2 := p2.ne h2
    exact wpAny_pyNext_zipD2_end D (drawsB (P := X.prog) (w := X.w) (A := X.A.in1) (show X.A.in1.handled = none from I.ok.hd hc) t i1 a na its.toArray) (drawsB (P := X.prog) (w := X.w) (A := X.A.in1) (show X.A.in1.handled = none from I.ok.hd hc) u i2 b nb its2.toArray) hz hI hO ⟨h1, p⟩ ⟨h2, p2⟩ (by simp; omega) (by simp; omega) (by simp; omega) fun g tk hk =>
      ⟨rfl, I.turnedL (t' := tk) (ch := [z, TI, TO, i1, i2]) (fun c o hb q => by
        simp only [List.mem_cons, List.not_mem_nil, or_false, not_or] at hb
        exact hk c o hb.1 hb.2.2.1 hb.2.2.2.1 hb.2.2.2.2 q) hf⟩
  self := fun A i s Q E sg => wpAny_pyIter_zip sg.1
theorem sep2 (I l1 l2 : Nat) (h1 : l1 < I) (h2 : l2 < I) : ZipSep2 (I + 4) (I + 2) (I + 3) I (I + 1) [I, l1] [I + 1, l2] := by
  have n0 : ∀ {x y : Nat}, x ≠ y → ¬ ((x : Addr) = y) := fun h => h
  constructor
  all_goals first
    | exact List.mem_cons_self
    | (intro q; rcases List.mem_cons.mp q with q | q
       · revert q; refine n0 ?_; omega
       · rw [List.mem_singleton] at q; revert q; refine n0 ?_; omega)
    | (refine n0 ?_; omega)
def iZipQ (K : PySem.W.Frag) (t u : Bool) (ta : TA) : TI := fun σ H R => ta σ H fun vs H1 => ∃ a b xs ys, vs = [.ref a, .ref b] ∧ sqB t K H1 a xs ∧ sqB u K H1 b ys ∧ R (ItzQ K t u a b) H1
theorem pi_zipQ {X : Cx} (K : PySem.W.Frag) (hK : X.K = K) (t u : Bool) {e e2 : Expr} {ta : TA} {p pos tpos : Pos} {elts : List Expr} {kk : Nat} (hg : Gl X "zip") (hm : X.mg "zip" = none) (ha : PA X [e, e2] ta)
    (hs : starEach [e, e2] X.env = (false, eval e X.env) :: starEach [e2] X.env := by rfl) (hpl : (backTo pos (starEach [e2] X.env)).any (·.1) = false := by rfl) : PI X (.Tuple elts kk tpos) (.Call (.Name "zip" p) [e, e2] [] pos) (iZipQ K t u ta) := by
  subst hK
  refine ⟨fun pins s σ H R I hh => ?_⟩
  refine Call_ (ld_blt I hg hm PyProof.Rows.boot_zip (PyProof.Rows.callWith_type1 (thn (ha.run pos pins s σ H _ I hh) fun _ s1 ⟨_, H1, I1, r1, q1⟩ => ?_) hs hpl))
  obtain ⟨a, b, xs, ys, rfl, qa, qb, q⟩ := q1
  obtain ⟨v1, v2, rfl, r, r'⟩ := vals2 r1
  cases r
  cases r'
  obtain ⟨its, rv, p1⟩ := sqB_inv I1 qa
  obtain ⟨its2, rv2, p2⟩ := sqB_inv I1 qb
  refine zip_begins2 (beginsB t a its.toArray) (beginsB u b its2.toArray) p1 p2 fun g hz hI hO h1 h2 hsz hk => wpAny_pyIter_zip hz ?_
  have I2 : Inv X pins σ H1 { s1 with heap := g } := I1.kept (t' := s1.toks) hk
  refine ⟨s1.heap.objs.size + 4, [s1.heap.objs.size + 4, s1.heap.objs.size + 2, s1.heap.objs.size + 3, s1.heap.objs.size, s1.heap.objs.size + 1], _, _, H1, rfl, I2, turn_zipQ (sep2 s1.heap.objs.size a b p1.lt p2.lt), ⟨hz, hI, ⟨_, _, hO⟩, itB0 h1, itB0 h2⟩, fun c hcm => ?_, q⟩
  have le : s1.heap.objs.size ≤ c := by
    simp only [List.mem_cons, List.not_mem_nil, or_false] at hcm
    rcases hcm with rfl | rfl | rfl | rfl | rfl
    · exact Nat.le_add_right _ _
    · exact Nat.le_add_right _ _
    · exact Nat.le_add_right _ _
    · exact Nat.le_refl _
    · exact Nat.le_add_right _ _
  exact I1.fpOk le (I1.hok.fresh le)
theorem walk_zipQ {K : PySem.W.Frag} {t u : Bool} {a b : Addr} {xs ys : List V} (hl : xs.length = ys.length) : Walk (ItzQ K t u a b) xs.length (fun H => sqB t K H a xs ∧ sqB u K H b ys) (YPair (fun i => xs[i]?) (fun i => ys[i]?)) :=
  ⟨fun i H hi ⟨p, q⟩ => ⟨xs, ys, xs[i], ys[i]'(hl ▸ hi), p, q, List.getElem?_eq_getElem hi, List.getElem?_eq_getElem (hl ▸ hi)⟩, fun H ⟨p, q⟩ => ⟨xs, ys, p, q, Nat.le_refl _, by omega, .inl rfl⟩,
    fun i H x H' hi ⟨p, q⟩ ⟨T, x', y', e, hT, eH, f1, f2⟩ => ⟨T, x', y', e, hT, eH, f1 xs p, f2 ys q⟩⟩
/-! enumerate(text) -/
def ItES (x : Str) : It :=
  ⟨fun i _ => i < x.cps.size, fun i H v H' => ∃ T c, v = .ref T ∧ H T = none ∧ x.cps[i]? = some c ∧ H' = upd H T (.tup [.int (i : Nat), .str ⟨#[c]⟩]), fun i _ => i = x.cps.size⟩
theorem turn_enumS {P : Program} {w : World} {K : PySem.W.Frag} {elts : List Expr} {kk : Nat} {tpos : Pos} (x : Str) (tk0 : Tok) (e it : Addr) (hne : e ≠ it) :
    Turn P w K (.Tuple elts kk tpos) (ItES x) [e, it] e (fun i h => (∃ old, IsEnum h e it ((i : Nat) : Int) old) ∧ h.IsStrIter it (strIterType x) x tk0 i) where
  mem := by simp
  obj := fun i h st b hb => by
    obtain ⟨⟨old, he⟩, o, ho, hc, hd⟩ := st
    have two : b = e ∨ b = it := by simpa using hb
    rcases two with rfl | rfl
    · exact ⟨_, he, fun v q => nomatch q⟩
    · exact ⟨o, ho, fun v q => by rw [hd] at q; cases q⟩
  keep := fun i h h' st k => by
    obtain ⟨⟨old, he⟩, o, ho, hc, hd⟩ := st
    exact ⟨⟨old, k e (by simp) _ he⟩, o, k it (by simp) _ ho, hc, hd⟩
  item := by
    intro X eP ew eK hc i pins s σ H E I hf st hg
    subst eP ew eK
    obtain ⟨⟨old, he⟩, hit⟩ := st
    have el := Heap.lt_size he
    have il : it < s.heap.objs.size := by obtain ⟨_, q, _⟩ := hit; exact Heap.lt_size q
    refine wpAny_pyNext_enum_itemD (Draws.text (prog := X.prog) (w := X.w) (A := X.A.in1) (show X.A.in1.handled = none from I.ok.hd hc) it x tk0) he hit hg hne (by simp [hne]) fun v g tk m ho hit2 hT hsz hk => ?_
    obtain ⟨c, tk2, hx, rfl⟩ := m
    refine ⟨_, rfl, wpAny_letOwnedTupleGo_enum (s := { s with heap := g, toks := tk + 1 }) ho fun g2 he2 sb => ?_⟩
    have hT2 : g2.get? s.heap.objs.size = some { cls := .type "tuple", data := .seq #[.int i tk, .str ⟨#[c]⟩ tk2] } := (sb.2 _ (Nat.ne_of_gt el)).trans hT
    have hob : ObjOk X.prog X.w (upd H s.heap.objs.size (.tup [.int (i : Nat), .str ⟨#[c]⟩])) g2 s.heap.objs.size (.tup [.int (i : Nat), .str ⟨#[c]⟩]) :=
      ⟨by show 2 ≤ sizeLine; decide, [.int i tk, .str ⟨#[c]⟩ tk2], .cons ⟨_, rfl⟩ (.cons ⟨_, rfl⟩ .nil), _, hT2, rfl, _, rfl⟩
    have kk : ∀ b o, b ∉ [e, it] → s.heap.get? b = some o → g2.get? b = some o := fun b o hb q => by
      simp only [List.mem_cons, List.not_mem_nil, or_false, not_or] at hb
      exact (sb.2 b hb.1).trans (hk b o hb.1 hb.2 q)
    refine ⟨.ref s.heap.objs.size, _, I.turnedNew (t' := tk + 1) kk hf (Nat.le_refl _) hob, rfl, ⟨_, c, rfl, I.hok.fresh (Nat.le_refl _), hx, rfl⟩, ⟨⟨.str ⟨#[c]⟩ tk2, ?_⟩, ?_⟩, fun b hb => ?_⟩
    · have q : ((i + 1 : Nat) : Int) = (i : Int) + 1 := by omega
      rw [q]; exact he2
    · obtain ⟨o, q, r⟩ := hit2
      exact ⟨o, (sb.2 it (Ne.symm hne)).trans q, r⟩
    · have lt : b < s.heap.objs.size := by
        have two : b = e ∨ b = it := by simpa using hb
        rcases two with rfl | rfl
        · exact el
        · exact il
      rw [upd_ne (Nat.ne_of_lt lt)]
      exact (hf b hb).1
  done := by
    intro X eP ew eK hc i pins s σ H E I hf st hg
    subst eP ew eK
    obtain ⟨⟨old, he⟩, hit⟩ := st
    obtain rfl : i = x.cps.size := hg
    obtain ⟨c0, c1, c2, c3, c4, c5⟩ := hf it (by simp)
    exact wpAny_pyNext_enum_endD (Draws.text (prog := X.prog) (w := X.w) (A := X.A.in1) (show X.A.in1.handled = none from I.ok.hd hc) it x tk0) he hit fun g eb => ⟨rfl, I.turned (t' := s.toks) (fun b o hb q => eb b o hb q) c0 c1 c3 c4 c5⟩
  self := fun A i s Q E sg => let ⟨⟨_, he⟩, _⟩ := sg; wpAny_pyIter_enum he
def iEnumS (ta : TA) : TI := fun σ H R => ta σ H fun vs H1 => ∃ x, vs = [.str x] ∧ R (ItES x) H1
theorem pi_enumS {X : Cx} {e : Expr} {ta : TA} {p pos tpos : Pos} {elts : List Expr} {kk : Nat} (hg : Gl X "enumerate") (hm : X.mg "enumerate" = none) (ha : PA X [e] ta) (hs : starEach [e] X.env = [(false, eval e X.env)] := by rfl) :
    PI X (.Tuple elts kk tpos) (.Call (.Name "enumerate" p) [e] [] pos) (iEnumS ta) := by
  refine ⟨fun pins s σ H R I hh => ?_⟩
  refine Call_ (ld_blt I hg hm boot_enumerate (PyProof.Rows.callWith_type1 (thn (ha.run pos pins s σ H _ I hh) fun _ s1 ⟨_, H1, I1, r1, q1⟩ => ?_) hs rfl))
  obtain ⟨x, rfl, q⟩ := q1
  obtain ⟨v, rfl, tk0, rfl⟩ := vals1 r1
  refine call_enumerate_str fun g he hit hsz hk => wpAny_pyIter_enum he ?_
  have I2 : Inv X pins σ H1 { s1 with heap := g } := I1.kept (t' := s1.toks) hk
  refine ⟨s1.heap.objs.size + 1, [s1.heap.objs.size + 1, s1.heap.objs.size], _, _, H1, rfl, I2, turn_enumS x tk0 (s1.heap.objs.size + 1) s1.heap.objs.size (Nat.succ_ne_self _), ⟨⟨.none, he⟩, hit⟩, fun b hb => ?_, q⟩
  have le : s1.heap.objs.size ≤ b := by
    simp only [List.mem_cons, List.not_mem_nil, or_false] at hb
    rcases hb with rfl | rfl
    · exact Nat.le_add_right _ _
    · exact Nat.le_refl _
  exact I1.fpOk le (I1.hok.fresh le)
theorem walk_enumS {x : Str} : Walk (ItES x) x.cps.size (fun _ => True) (fun i H v H' => ∃ T c, v = .ref T ∧ H T = none ∧ x.cps[i]? = some c ∧ H' = upd H T (.tup [.int (i : Nat), .str ⟨#[c]⟩])) :=
  ⟨fun _ _ h _ => h, fun _ _ => rfl, fun _ _ _ _ _ _ y => y⟩
theorem pg_tupK {X : Cx} (K : PySem.W.Frag) (hK : X.K = K) {n : Nat} {es : List Expr} {k : Nat} {t : TGs} {pos : Pos} (hc : X.calm = true) (h : PGs X es t) (hn : (assignEach es X.env).length = n := by rfl)
    (hst : (assignEach es X.env).findIdx? (·.1) = none := by rfl) : PG X (.Tuple es k pos) (gTup K n t) := by subst hK; exact pg_tup hc h hn hst
theorem pe_lenSetIK {X : Cx} (K : PySem.W.Frag) (hK : X.K = K) {a : Expr} {ta : TE} {p p2 q pos : Pos} (hg : Gl X "len") (hm : X.mg "len" = none) (hg2 : Gl X "set") (hm2 : X.mg "set" = none) (ha : PE X a ta) (hc : X.calm = true := by rfl)
    (na : starEach [a] X.env = (false, eval a X.env) :: starEach [] X.env := by rfl) : PE X (.Call (.Name "len" p) [.Call (.Name "set" p2) [a] [] q] [] pos) (RZ.tLenSetI K ta) := by subst hK; exact RZ.pe_lenSetI hg hm hg2 hm2 ha hc na
section
variable {K : PySem.W.Frag} {σ : L2.St} {H : Hp} {Q : VK}
theorem rd_lenSet {ta : TE} (h : ta σ H fun x H1 => ∃ (l : Addr) (ns : List Int), x = .ref l ∧ SqL K H1 l (ns.map V.int) ∧ ns.Nodup ∧ ns.length ≤ 4000 ∧ Q (.int (ns.length : Nat)) H1) : RZ.tLenSetI K ta σ H Q := h
theorem rd_iZQ {t u : Bool} {tr : TA} {R : It → Hp → Prop} (h : tr σ H fun vs H1 => ∃ a b xs ys, vs = [.ref a, .ref b] ∧ sqB t K H1 a xs ∧ sqB u K H1 b ys ∧ R (ItzQ K t u a b) H1) : iZipQ K t u tr σ H R := h
theorem rd_iES {tr : TA} {R : It → Hp → Prop} (h : tr σ H fun vs H1 => ∃ x, vs = [.str x] ∧ R (ItES x) H1) : iEnumS tr σ H R := h
end
end JF

/-! ### refusals: own exceptions raised, caught, asked for their class; defs called in an except clause -/
namespace JF
open PySem PySem.Spec PyProof.Rows L2
/-- what the written part says of an exception class -/
structure ExF (K : PySem.W.Frag) (x : Str) : Prop where
  q : PySem.W.excIn K (He.ga K x) veT "ValueError.__new__" = true
  kp : PySem.W.keepIn K (.ref (He.ga K x)) = true
  sb : PySem.W.subIn K (.ref (He.ga K x)) (.type "BaseException") = some true
  ty : PySem.W.typeIn K (.ref (He.ga K x)) = some (.type "type")
  ec : ExcC K (He.ga K x)
section
variable {fa : List He.Fa} {fn : List He.DefD} {K : PySem.W.Frag} {mg : Str → Option Value}
theorem exF_of {x : Str} (h : exB1 K x = true) : ExF K x := by
  unfold exB1 at h
  simp only [Bool.and_eq_true, beq_iff_eq] at h
  obtain ⟨⟨⟨⟨⟨⟨⟨⟨⟨⟨h1, h2⟩, h3⟩, h4⟩, h5⟩, h6⟩, h7⟩, h8⟩, h9⟩, h10⟩, h11⟩ := h
  exact ⟨h1, h2, h3, h4, ⟨h5, h6, h3, h7, h8, h9, h10, h11⟩⟩
theorem Env.exf (T : Env fa fn K mg) {x : Str} (h : x ∈ JF.exN) : ExF K x := exF_of (T.ex1 h)
theorem Env.exm (T : Env fa fn K mg) {x : Str} {c : Sum Str String} {b : Bool} (h : (x, c, b) ∈ JF.exP) : PySem.W.exmOne K (.ref (He.ga K x)) (exV K c) = some b := by
  have z := T.ex2 h
  unfold exB2 at z
  simp only [Bool.and_eq_true, beq_iff_eq] at z
  exact z.1
theorem Env.exk (T : Env fa fn K mg) {x : Str} {c : Sum Str String} {b : Bool} (h : (x, c, b) ∈ JF.exP) : PySem.W.kitOne K (.ref (He.ga K x)) (exV K c) = some b := by
  have z := T.ex2 h
  unfold exB2 at z
  simp only [Bool.and_eq_true, beq_iff_eq] at z
  exact z.2
end
/-! #### raise -/
def sRaise (W : WX) (c : Value) : TS := fun _ σ H => W c none σ H
theorem ps_raiseT {X : Cx} (K : PySem.W.Frag) (hK : X.K = K) {x m : Str} {j : Nat} {p p2 pos pos2 : Pos} {W : WX} (F : ExF K x) (gC : X.mg x = some (.ref (He.ga K x))) (hc : X.calm = true) (tk : L2N.Takes X W) (hg : Gl X x) (hdb : (x == ("__debug__" : Str)) = false := by decide) :
    PS X (.Raise (some (.Call (.Name x p) [.Constant (.str m) j p2] [] pos)) none pos2) (sRaise W (.ref (He.ga K x))) := by
  subst hK
  exact L2N.ps_raise hc tk (L2N.pmk_own PySem.F.excBase_ValueError F.q gC F.kp (raises_own F.sb F.ty) hg hdb)
theorem rd_raise {W : WX} {c : Value} {D : Ends} {σ : L2.St} {H : Hp} (h : W c none σ H) : sRaise W c D σ H := h
/-! #### defs that may raise -/
section
variable {P : Program} {w : World} {K : PySem.W.Frag} {mg : Str → Option Value} {base : Heap} {fa : List He.Fa} {fn : List He.DefD}
theorem good_mkX (T : Env fa fn K mg) (i : Nat) {d : He.DefD} {k : Nat} {N ps : List Str} {sp : Sp} {x qual : Str} {st : Stmt} {at_ : Str × Option Str} (hi : fn[i]? = some d) (hd : d = ⟨at_, x, qual, defArgs st, defBody st, defScope st, [], []⟩) (S : FnScope N ps (defScope st))
    (hb : ∀ (kV doc pm : Value) (an : Option Addr) (cdv ct : Value) (us : List Value), us.length = ps.length → bindArgs (PySem.W.fnOf x qual (defArgs st) (defBody st) (defScope st) .none kV doc pm an cdv ct) ⟨us, []⟩ = pure (ps.zip us))
    (len : ∀ vs H Q E, sp vs H Q E → vs.length = ps.length)
    (hbody : ∀ (f : Addr) (cdv : Value) (A : Around) (outer : List PySem.Env) (s : Shared) (H : Hp) (vs : List V) (Q : VK) (E : XK), Room k (A.deeper (envOfC qual (defScope st) s.heap.objs.size f cdv)) → sp vs H Q E →
      ∃ t, PSs (cxOf (L2N.CX P w) P w K mg base N qual (defScope st) f cdv A outer s H E) (defBody st) t ∧ t { nx := fun _ H' => Q .non H', rt := Q } (start N vs) H) : Good P w K mg base (L2N.CX P w) (k + 1) at_ ps sp := by
  subst hd
  obtain ⟨fd, F⟩ := T.c.def_ i hi
  exact ⟨fd, FunD.ok F S len fun cdv A outer s H vs Q E hr h => hbody _ cdv A outer s H vs Q E hr h, FunD.bindsN F hb, F.kp, fdAt_of F⟩
end
section
variable {X : Cx} {k : Nat} {x m : Str} {ps : List Str} {sp : Sp} {p pos apos : Pos} {e o : Expr} {es : List Expr} {ta : TE} {t : TA} {W : WX} {K : PySem.W.Frag}
/-- the call of a def that may raise -/
theorem pe_cgX (K : PySem.W.Frag) (hK : X.K = K) (tk : L2N.Takes X W) (G : Good X.prog X.w K X.mg X.base (L2N.CX X.prog X.w) k (x, none) ps sp) (hr : Room k X.A) (hm : X.mg x = some (.ref (He.ga K x))) (ha : PA X (e :: es) t) (hg : Gl X x := by rfl)
    (hdb : (x == ("__debug__" : Str)) = false := by decide) (he : starEach (e :: es) X.env = (false, eval e X.env) :: starEach es X.env := by rfl) (hpl : (backTo pos (starEach es X.env)).any (·.1) = false := by rfl) :
    PE X (.Call (.Name x p) (e :: es) [] pos) (tCallS sp (fun σ cls d H' => W cls d σ H') t) := by
  subst hK
  obtain ⟨fd, F, b, kp, lk⟩ := G
  exact pe_callS F hr hg hm kp b (fun σ => L2N.passAt tk σ) ha hdb he hpl
theorem rd_callS {E : L2.St → XK} {σ : L2.St} {H : Hp} {Q : VK} (h : t σ H fun vs H1 => sp vs H1 Q (E σ)) : tCallS sp E t σ H Q := h
end
theorem takes0N {X : Cx} : L2N.Takes X (fun _ _ _ _ => False) := fun _ _ x => by
  obtain ⟨_, _, _, _, _, _, _, _, _, _, _, _, _, _, _, _, z⟩ := x
  exact z.elim
/-! #### try: .. except X as n -/
def sTryAs (K : PySem.W.Frag) (c : Value) (i : Nat) (tb : WX → TS) (ts : Addr → Value → Option Addr → TS) (Wo : WX) : TS := fun D σ H => tb (wAs K c i ts Wo D) D σ H
theorem ps_tryA {X : Cx} (K : PySem.W.Frag) (hK : X.K = K) {x n : Str} {c : Value} {i : Nat} {body suite : List Stmt} {b₀ : Stmt} {np pos pos' : Pos} {tb : WX → TS} {ts : Addr → Value → Option Addr → TS} {Wo : WX} (hs : X.stack = X.env :: X.outer) (hf : X.env.frame = some X.env.locals) (hN : X.N.Nodup)
    (hi : X.N[i]? = some n) (hln : X.env.kindOf n = some .local) (hc : Names X x c) (tk : L2N.Takes X Wo)
    (hb : ∀ (W : WX) (pn : List (Addr × Obj)) (xe : Value → Shared → Prop), L2N.Takes (X.tr pn xe) W → PassesOwn (model X.prog X.w) X.A X.env xe → PSs (X.tr pn xe) body (tb W))
    (hsu : ∀ (a : Addr) (oe : Obj) (cls : Value) (d : Option Addr) (pn : List (Addr × Obj)), L2N.Zn cls d oe → (∃ vs, oe.data = .fields vs) → PSs (X.suite a ((a, oe) :: pn)) (b₀ :: suite) (ts a cls d)) :
    PS X (.Try body [.ExceptHandler (some (.Name x np)) (some n) (b₀ :: suite) pos'] [] [] pos) (sTryAs K c i tb ts Wo) := by
  subst hK
  exact L2N.ps_try_as hs hf hN hi hln hc tk hb hsu
theorem rd_tryA {K : PySem.W.Frag} {c : Value} {i : Nat} {tb : WX → TS} {ts : Addr → Value → Option Addr → TS} {Wo : WX} {D : Ends} {σ : L2.St} {H : Hp} (h : tb (wAs K c i ts Wo D) D σ H) : sTryAs K c i tb ts Wo D σ H := h
/-- the exception is of the class -/
theorem wAs_yes {K : PySem.W.Frag} {c cls : Value} {i : Nat} {ts : Addr → Value → Option Addr → TS} {Wo : WX} {D : Ends} {d : Option Addr} {σ : L2.St} {H : Hp} (e : PySem.W.exmOne K cls c = some true)
    (h : ∀ a, H a = none → ts a cls d { nx := fun σ' H' => D.nx (σ'.set i none) H', rt := D.rt, bk := fun σ' H' => D.bk (σ'.set i none) H', ct := fun σ' H' => D.ct (σ'.set i none) H' } (σ.set i (some (.ref a))) H) : wAs K c i ts Wo D cls d σ H :=
  ⟨true, e, fun _ => h, fun z => nomatch z⟩
/-! #### try: .. except X -/
def sTry1 (K : PySem.W.Frag) (c : Value) (tb : WX → TS) (ts : Addr → Value → Option Addr → TS) (Wo : WX) : TS := fun D σ H => tb (wMany K Wo D [(c, ts)]) D σ H
theorem ps_try1 {X : Cx} (K : PySem.W.Frag) (hK : X.K = K) {x : Str} {c : Value} {body suite : List Stmt} {b₀ : Stmt} {np pos pos' : Pos} {tb : WX → TS} {ts : Addr → Value → Option Addr → TS} {Wo : WX} (hs : X.stack = X.env :: X.outer) (hf : X.env.frame = some X.env.locals) (hc : Names X x c) (tk : L2N.Takes X Wo)
    (hb : ∀ (W : WX) (pn : List (Addr × Obj)) (xe : Value → Shared → Prop), L2N.Takes (X.tr pn xe) W → PassesOwn (model X.prog X.w) X.A X.env xe → PSs (X.tr pn xe) body (tb W))
    (hsu : ∀ (a : Addr) (oe : Obj) (cls : Value) (d : Option Addr) (pn : List (Addr × Obj)), L2N.Zn cls d oe → (∃ vs, oe.data = .fields vs) → PSs (X.suite a ((a, oe) :: pn)) (b₀ :: suite) (ts a cls d)) :
    PS X (.Try body [.ExceptHandler (some (.Name x np)) none (b₀ :: suite) pos'] [] [] pos) (sTry1 K c tb ts Wo) := by
  subst hK
  exact L2N.ps_try_many hs hf tk hb (.cons hc hsu .nil)
theorem rd_try1 {K : PySem.W.Frag} {c : Value} {tb : WX → TS} {ts : Addr → Value → Option Addr → TS} {Wo : WX} {D : Ends} {σ : L2.St} {H : Hp} (h : tb (wMany K Wo D [(c, ts)]) D σ H) : sTry1 K c tb ts Wo D σ H := h
/-! #### isinstance of the exception -/
def rIsX (K : PySem.W.Frag) (cls : Value) (d : Option Addr) (a : Addr) : List V → Hp → VK → Prop := fun xs H Q => ∃ D, cls = .ref D ∧ d = none ∧ ExcC K D ∧ rIsE K D a xs H Q
theorem call_isP {X : Cx} (K : PySem.W.Frag) (hK : X.K = K) {a : Addr} {oe : Obj} {cls : Value} {d : Option Addr} (hp : (a, oe) ∈ X.pn) (hz : Zc cls d oe) (hf : ∃ vs, oe.data = .fields vs) : CallR X (.builtin "isinstance") (rIsX K cls d a) := by
  subst hK
  intro pins s σ H xs us Q I r h
  obtain ⟨D, rfl, rfl, C, c, cv, b, rfl, hcv, e, q⟩ := h
  obtain ⟨u1, u2, rfl, rx, rt⟩ := vals2 r
  cases rx
  obtain rfl := hcv _ rt
  obtain ⟨hget, _⟩ := I.pin (a, oe) (List.mem_append_left _ hp)
  obtain ⟨vs, hv⟩ := hf
  have J : PySem.W.InstAt s.heap a oe D none := by
    obtain ⟨oc, od, oda, osl⟩ := oe
    obtain ⟨h1, h2⟩ := hz
    simp only at h1 h2 hv
    subst h1 h2 hv
    exact ⟨hget, rfl, rfl, trivial⟩
  exact PySem.W.kia_one (PySem.W.handS_kitx_exc C.hg C.hk C.hs C.hd C.ha C.hn C.ht C.hm) I.kIn J e (fun z => nomatch z) fun tk => ⟨.bl b, H, I.kept (t' := tk) fun _ _ z => z, rfl, q⟩
section
variable {K : PySem.W.Frag} {H : Hp} {Q : VK} {D a : Addr}
theorem rd_isX {c : Addr} {b : Bool} (C : ExcC K D) (e : PySem.W.kitOne K (.ref D) (.ref c) = some b) (q : Q (.bl b) H) : rIsX K (.ref D) none a [.ref a, .ref c] H Q := ⟨D, rfl, rfl, C, .ref c, .ref c, b, rfl, fun _ r => r, e, q⟩
theorem rd_isXT {t : String} {b : Bool} (C : ExcC K D) (e : PySem.W.kitOne K (.ref D) (.type t) = some b) (q : Q (.bl b) H) : rIsX K (.ref D) none a [.ref a, .ty t] H Q := ⟨D, rfl, rfl, C, .ty t, .type t, b, rfl, fun _ r => r, e, q⟩
end
/-! #### a def called with the exception in an except clause -/
structure FnE (P : Program) (w : World) (K : PySem.W.Frag) (mg : Str → Option Value) (base : Heap) (k : Nat) (f : Addr) (fd : FuncData) (ps : List Str) (sp : Value → Option Addr → Addr → Sp) : Prop where
  len : ∀ cls d a vs H Q E, sp cls d a vs H Q E → vs.length = ps.length
  run : ∀ (A : Around) (outer : List PySem.Env) (s : Shared) (H : Hp) (args : Args) (us : List Value) (vs : List V) (Q : VK) (E : XK) (p : Addr × Obj) (cls : Value) (d : Option Addr), L2H.RoomH k A → L2H.Hot1 A p → L2H.PinOk outer H s p → Zc cls d p.2 → Env0 P w K mg base A outer s H →
    BindsTo s fd args (ps.zip us) → Vals vs us → sp cls d p.1 vs H Q E → codeAny (model P w) A (.call (.ref f) args) (CR CX0 outer P w H s Q E) s
theorem fn_mkE {P : Program} {w : World} {K : PySem.W.Frag} {mg : Str → Option Value} {base : Heap} {k : Nat} {f : Addr} {name qual : Str} {params : Arguments} {body : List Stmt} {scope : Scope} {dV kV doc pm cdv ct oc : Value} {an od : Option Addr} {osl : Array (Option Value)} {N ps : List Str} {sp : Value → Option Addr → Addr → Sp}
    (lk : K.lookup f = some ⟨oc, od, .func (PySem.W.fnOf name qual params body scope dV kV doc pm an cdv ct), osl⟩) (hcd : PySem.W.codeIn K cdv qual = true) (S : FnScope N ps scope) (len : ∀ cls d a vs H Q E, sp cls d a vs H Q E → vs.length = ps.length)
    (hbody : ∀ (A : Around) (outer : List PySem.Env) (s : Shared) (H : Hp) (vs : List V) (Q : VK) (E : XK) (p : Addr × Obj) (cls : Value) (d : Option Addr), L2H.Hot1 A p → Zc cls d p.2 → L2H.RoomH k (A.deeper (envOfC qual scope s.heap.objs.size f cdv)) → sp cls d p.1 vs H Q E →
      ∃ t, PSs (L2H.cxH CX0 P w K mg base N qual scope f cdv A outer s H E p) body t ∧ t { nx := fun _ H' => Q .non H', rt := Q } (L2.start N vs) H) :
    FnE P w K mg base (k + 1) f (PySem.W.fnOf name qual params body scope dV kV doc pm an cdv ct) ps sp := by
  refine ⟨len, fun A outer s H args us vs Q E p cls d hr hot pok hz e0 hb r h => ?_⟩
  have KX : K.In s.heap := e0.mod.kin.keeps fun b o e => (e0.bs b o e).1
  have nl : s.heap.NoLimit := e0.mod.nolimit.keeps fun b o e => (e0.bs b o e).1
  have kinds : ∀ y ∈ ps.zip us, scope.names.lookup y.1 = some .local ∨ (scope.names.lookup y.1 = some .cell ∧ ((cellsFrom (s.heap.objs.size + 1) scope.names []).lookup y.1).isSome = true) := by
    rintro ⟨n, v⟩ hy
    rcases S.par n (List.of_mem_zip hy).1 with z | z
    · exact .inl z
    · exact .inr ⟨z, PySem.W.cellsFrom_some _ _ _ (.inl z)⟩
  refine codeAny_call_function hr.depth (KX _ _ lk) rfl S.co S.gen rfl (PySem.W.codeRec_of KX hcd) (hb _ _ _ _ (wpAny_newFunctionEnv_cells S.kind kinds fun env he s1 x => ?_))
  subst he
  refine ⟨nl.keeps x.toInCall.keep, codeAny_func ?_⟩
  obtain ⟨t, ht, hq⟩ := hbody A outer s H vs Q E p cls d hot hz (hr.deeper _) h
  have I := L2H.inv_startH (CX := CX0) (E := E) S pok e0 (len _ _ _ _ _ _ _ h) r x
  refine wpAny_mono (ht.run [] s1 (L2.start N vs) H _ I hq) (fun fl s2 hs => ?_) fun _ _ hs => hs
  cases fl with
  | next => obtain ⟨σ2, H2, J, q⟩ := hs; exact ⟨V.non, H2, J.os, J.bare, J.base, J.hok, rfl, q⟩
  | ret u => obtain ⟨v, σ2, H2, J, rv, q⟩ := hs; exact ⟨v, H2, J.os, J.bare, J.base, J.hok, rv, q⟩
  | brk => obtain ⟨_, _, _, q⟩ := hs; exact q.elim
  | cont => obtain ⟨_, _, _, q⟩ := hs; exact q.elim
def GoodE (P : Program) (w : World) (K : PySem.W.Frag) (mg : Str → Option Value) (base : Heap) (k : Nat) (p : Str × Option Str) (ps : List Str) (sp : Value → Option Addr → Addr → Sp) : Prop :=
  ∃ fd, FnE P w K mg base k (He.fAd K p) fd ps sp ∧ Binds K fd ps [] ∧ PySem.W.keepIn K (.ref (He.fAd K p)) = true
theorem good_mkE {P : Program} {w : World} {K : PySem.W.Frag} {mg : Str → Option Value} {base : Heap} {fa : List He.Fa} {fn : List He.DefD} (T : Env fa fn K mg) (i : Nat) {d : He.DefD} {k : Nat} {N ps : List Str} {sp : Value → Option Addr → Addr → Sp} {x qual : Str} {st : Stmt} {at_ : Str × Option Str} (hi : fn[i]? = some d)
    (hd : d = ⟨at_, x, qual, defArgs st, defBody st, defScope st, [], []⟩) (S : FnScope N ps (defScope st))
    (hb : ∀ (kV doc pm : Value) (an : Option Addr) (cdv ct : Value) (us : List Value), us.length = ps.length → bindArgs (PySem.W.fnOf x qual (defArgs st) (defBody st) (defScope st) .none kV doc pm an cdv ct) ⟨us, []⟩ = pure (ps.zip us))
    (len : ∀ cls d a vs H Q E, sp cls d a vs H Q E → vs.length = ps.length)
    (hbody : ∀ (f : Addr) (cdv : Value) (A : Around) (outer : List PySem.Env) (s : Shared) (H : Hp) (vs : List V) (Q : VK) (E : XK) (p : Addr × Obj) (cls : Value) (d : Option Addr), Zc cls d p.2 → (∃ vs, p.2.data = .fields vs) → L2H.RoomH k (A.deeper (envOfC qual (defScope st) s.heap.objs.size f cdv)) → sp cls d p.1 vs H Q E →
      ∃ t, PSs (L2H.cxH CX0 P w K mg base N qual (defScope st) f cdv A outer s H E p) (defBody st) t ∧ t { nx := fun _ H' => Q .non H', rt := Q } (start N vs) H) : GoodE P w K mg base (k + 1) at_ ps sp := by
  subst hd
  obtain ⟨fd, F⟩ := T.c.def_ i hi
  refine ⟨fd, ?_, FunD.bindsN F hb, F.kp⟩
  obtain ⟨oc, od, dV, kV, doc, pm, an, cdv, ct, osl, rfl, lk, hcd, _, _⟩ := F.ex
  exact fn_mkE lk hcd S len fun A outer s H vs Q E p cls d hot hz hr h => hbody _ cdv A outer s H vs Q E p cls d hz (let ⟨v, e, _⟩ := hot.2; ⟨v, e⟩) hr h
section
variable {X : Cx} {k : Nat} {x : Str} {ps : List Str} {sp : Value → Option Addr → Addr → Sp} {q pos : Pos} {e : Expr} {es : List Expr} {t : TA} {cls : Value} {d : Option Addr} {a : Addr} {oe : Obj}
def tCallE (sp : Sp) (t : TA) : TE := fun σ H Q => t σ H fun vs H1 => sp vs H1 Q E0
theorem pe_callE (K : PySem.W.Frag) (hK : X.K = K) (G : GoodE X.prog X.w K X.mg X.base k (x, none) ps sp) (hr : L2H.RoomH k X.A) (hot : L2H.Hot1 X.A (a, oe)) (hp : (a, oe) ∈ X.pn) (hz : Zc cls d oe) (hm : X.mg x = some (.ref (He.ga K x))) (ha : PA X (e :: es) t) (hg : Gl X x := by rfl)
    (hdb : (x == ("__debug__" : Str)) = false := by decide) (he : starEach (e :: es) X.env = (false, eval e X.env) :: starEach es X.env := by rfl) (hpl : (backTo pos (starEach es X.env)).any (·.1) = false := by rfl) :
    PE X (.Call (.Name x q) (e :: es) [] pos) (tCallE (sp cls d a) t) := by
  subst hK
  obtain ⟨fd, F, hb, hk⟩ := G
  refine ⟨fun pins s σ H Q I h => wpAny_Call_Name_kw (ld_glob I hg hm ?_ hdb)⟩
  refine PySem.W.callWith_K (h₀ := X.base) I.ok.mod.kin hk (thn (ha.run pos pins s σ H _ I h) fun us s1 ⟨vs, H1, I1, r, h1⟩ => ⟨I1.kIn, ?_⟩) he hpl
  have hl : us.length = ps.length := by rw [← r.length]; exact F.len _ _ _ _ _ _ _ h1
  have b := hb s1 us I1.kIn (by rw [List.append_nil]; exact hl)
  rw [List.append_nil] at b
  have p1 := I1.pin (a, oe) (List.mem_append_left _ hp)
  have pok : L2H.PinOk X.stack H1 s1 (a, oe) := ⟨p1.1, p1.2.1, fun hm => (List.mem_cons.mp (I1.stkSub a hm)).elim p1.2.2.1 p1.2.2.2.1, p1.2.2.2.2⟩
  refine wpAny_call (codeAny_mono (F.run X.A X.stack s1 H1 ⟨us, []⟩ us vs Q E0 (a, oe) cls d hr hot pok hz I1.env0 b r h1) fun z s2 hq => ?_)
  cases z with
  | error e => exact hq.elim
  | ok fl =>
    cases fl with
    | ret u => exact I1.after hq
    | next => exact hq.elim
    | brk => exact hq.elim
    | cont => exact hq.elim
theorem rd_callE {sp : Sp} {σ : L2.St} {H : Hp} {Q : VK} (h : t σ H fun vs H1 => sp vs H1 Q E0) : tCallE sp t σ H Q := h
end
theorem roomH_suite {X : Cx} {k j : Nat} {a : Addr} {pn : List (Addr × Obj)} (hr : Room k X.A) (h : j ≤ k) : L2H.RoomH j (X.suite a pn).A := ⟨(hr.mono h).dp, (hr.mono h).un⟩
theorem hot_of {A : Around} {a : Addr} {oe : Obj} {cls : Value} {d : Option Addr} (h : A.handled = some (.ref a)) (hz : L2N.Zn cls d oe) (hf : ∃ vs, oe.data = .fields vs) : L2H.Hot1 A (a, oe) := ⟨h, let ⟨vs, e⟩ := hf; ⟨vs, e, hz.2.2 vs e⟩⟩
end JF

/-! ### methods that may raise -/
namespace JF
open PySem PySem.Spec PyProof.Rows L2
section
variable {X : Cx} {k : Nat} {x m : Str} {ps : List Str} {sp : Sp} {p pos apos : Pos} {e o : Expr} {es : List Expr} {ta : TE} {t : TA} {W : WX} {K : PySem.W.Frag}
def tMethX (C : Addr) (m : Str) (sp : Sp) (E : L2.St → XK) (ta : TE) (t : TA) : TE := fun σ H Q => ta σ H fun x H1 => ∃ a dx fs, x = .ref a ∧ H1 a = some (.ins C dx fs) ∧ fs.lookup m = none ∧ t σ H1 fun vs H2 => sp (x :: vs) H2 Q (E σ)
theorem pe_mgX (K : PySem.W.Frag) (hK : X.K = K) {cn : Str} {pl : Sem Bool} (tk : L2N.Takes X W) (he : PE X o ta) (c : Cls K (He.ga K cn)) (hm : Meth K (He.ga K cn) m (He.ma K (He.ga K cn) m)) (G : Good X.prog X.w K X.mg X.base (L2N.CX X.prog X.w) k (cn, some m) ps sp) (hr : Room k X.A) (ha : PA X (e :: es) t)
    (hst : starEach (e :: es) X.env = (false, eval e X.env) :: starEach es X.env := by rfl) (hpl : (backTo pos (starEach es X.env)).any (·.1) = false := by rfl)
    (ht : eval (.Call (.Attribute o m apos) (e :: es) [] pos) X.env = (do
      let ov ← eval o X.env
      standAt apos.atName
      let (f, first) ← holding [ov] (getMethod ov m pl)
      callWith pos f first (backTo pos (starEach (e :: es) X.env)) (backToKw pos (keywordEach [] X.env))) := by rfl) :
    PE X (.Call (.Attribute o m apos) (e :: es) [] pos) (tMethX (He.ga K cn) m sp (fun σ cls d H' => W cls d σ H') ta t) := by
  subst hK
  obtain ⟨fd, F, b, kp, lk⟩ := G
  refine ⟨fun pins s σ H Q I h => ?_⟩
  refine PySem.W.methodCall_KW (pl := pl) (thn (he.run pins s σ H _ I h) fun u s1 ⟨x, H1, I1, rx, a, dx, fs, ex, ea, l, q⟩ => ?_) ht
  subst ex
  have eu : u = Value.ref a := rx
  subst eu
  refine (getmeth_ok I1 ea c hm l ?_)
  refine (PySem.W.callWith_K (first := [.ref a]) (h₀ := X.base) I.ok.mod.kin hm.kp (thn (ha.run pos pins s1 σ H1 _ I1 q) fun us s2 ⟨vs, H2, I2, r, q2⟩ => ⟨I2.kIn, ?_⟩) hst hpl)
  exact run_fnS (us := .ref a :: us) (vs := .ref a :: vs) F hr b (L2N.passAt tk σ) I2 (.cons rfl r) q2
theorem rd_methX {C : Addr} {E : L2.St → XK} {σ : L2.St} {H : Hp} {Q : VK} (h : ta σ H fun x H1 => ∃ a dx fs, x = .ref a ∧ H1 a = some (.ins C dx fs) ∧ fs.lookup m = none ∧ t σ H1 fun vs H2 => sp (x :: vs) H2 Q (E σ)) : tMethX C m sp E ta t σ H Q := h
end
end JF

/-! ### fields: the mathematics of cells in squares, no program in sight -/
namespace JF
open PySem PySem.Spec PyProof.Rows L2
namespace Sq
def get : Sq → Int → Int → Int
  | leaf s, _, _ => s
  | node a b c d, x, y => if y < 2 ^ a.level then (if x < 2 ^ a.level then a.get x y else b.get (x - 2 ^ a.level) y) else (if x < 2 ^ a.level then c.get x (y - 2 ^ a.level) else d.get (x - 2 ^ a.level) (y - 2 ^ a.level))
def put : Sq → Int → Int → Int → Sq
  | leaf _, _, _, s => leaf s
  | node a b c d, x, y, s => if y < 2 ^ a.level then (if x < 2 ^ a.level then node (a.put x y s) b c d else node a (b.put (x - 2 ^ a.level) y s) c d)
      else (if x < 2 ^ a.level then node a b (c.put x (y - 2 ^ a.level) s) d else node a b c (d.put (x - 2 ^ a.level) (y - 2 ^ a.level) s))
theorem level_put (s : Int) : ∀ (S : Sq) (x y : Int), (S.put x y s).level = S.level
  | leaf _, _, _ => rfl
  | node a b c d, x, y => by
    unfold put
    split <;> split
    · exact congrArg (· + 1) (level_put s a x y)
    · rfl
    · rfl
    · rfl
theorem wf_put {s : Int} (h0 : 0 ≤ s) (h7 : s ≤ 7) : ∀ {S : Sq} (x y : Int), S.wf → (S.put x y s).wf
  | leaf _, _, _, _ => ⟨h0, h7⟩
  | node a b c d, x, y, ⟨wa, wb, wc, wd, e1, e2, e3⟩ => by
    unfold put
    split <;> split
    · exact ⟨wf_put h0 h7 _ _ wa, wb, wc, wd, by rw [level_put]; exact e1, by rw [level_put]; exact e2, by rw [level_put]; exact e3⟩
    · exact ⟨wa, wf_put h0 h7 _ _ wb, wc, wd, by rw [level_put]; exact e1, e2, e3⟩
    · exact ⟨wa, wb, wf_put h0 h7 _ _ wc, wd, e1, by rw [level_put]; exact e2, e3⟩
    · exact ⟨wa, wb, wc, wf_put h0 h7 _ _ wd, e1, e2, by rw [level_put]; exact e3⟩
theorem two_succ (n : Nat) : (2 : Int) ^ (n + 1) = 2 * 2 ^ n := by rw [Int.pow_succ]; omega
theorem two_pos (n : Nat) : (0 : Int) < 2 ^ n := Int.pow_pos (by decide)
theorem get_put {s : Int} : ∀ {S : Sq} {x y u v : Int}, S.wf → 0 ≤ x → x < 2 ^ S.level → 0 ≤ y → y < 2 ^ S.level → 0 ≤ u → u < 2 ^ S.level → 0 ≤ v → v < 2 ^ S.level → (S.put x y s).get u v = if u = x ∧ v = y then s else S.get u v
  | leaf r, x, y, u, v, _, h1, h2, h3, h4, h5, h6, h7, h8 => by
    have e : (2 : Int) ^ (leaf r).level = 1 := rfl
    rw [e] at h2 h4 h6 h8
    rw [if_pos (by omega)]; rfl
  | node a b c d, x, y, u, v, ⟨wa, wb, wc, wd, e1, e2, e3⟩, h1, h2, h3, h4, h5, h6, h7, h8 => by
    have e : (2 : Int) ^ (node a b c d).level = 2 * 2 ^ a.level := two_succ _
    rw [e] at h2 h4 h6 h8
    have ia := fun x y u v => @get_put s a x y u v wa
    have ib := fun x y u v => @get_put s b x y u v wb
    have ic := fun x y u v => @get_put s c x y u v wc
    have id_ := fun x y u v => @get_put s d x y u v wd
    rw [e1] at ib; rw [e2] at ic; rw [e3] at id_
    have la := level_put s a x y
    unfold put
    generalize hh : (2 : Int) ^ a.level = h at *
    by_cases cy : y < h <;> by_cases cx : x < h
    · rw [if_pos cy, if_pos cx]
      unfold get
      rw [la, hh]
      by_cases cv : v < h <;> by_cases cu : u < h
      · simp only [cv, cu, if_true, if_false]; rw [ia x y u v h1 cx h3 cy h5 cu h7 cv]
      · simp only [cv, cu, if_true, if_false]; rw [if_neg (by omega)]
      · simp only [cv, cu, if_true, if_false]; rw [if_neg (by omega)]
      · simp only [cv, cu, if_true, if_false]; rw [if_neg (by omega)]
    · rw [if_pos cy, if_neg cx]
      unfold get
      rw [hh]
      by_cases cv : v < h <;> by_cases cu : u < h
      · simp only [cv, cu, if_true, if_false]; rw [if_neg (by omega)]
      · simp only [cv, cu, if_true, if_false]; rw [ib (x - h) y (u - h) v (by omega) (by omega) h3 cy (by omega) (by omega) h7 cv]
        by_cases z : u = x ∧ v = y
        · rw [if_pos z, if_pos (by omega)]
        · rw [if_neg z, if_neg (by omega)]
      · simp only [cv, cu, if_true, if_false]; rw [if_neg (by omega)]
      · simp only [cv, cu, if_true, if_false]; rw [if_neg (by omega)]
    · rw [if_neg cy, if_pos cx]
      unfold get
      rw [hh]
      by_cases cv : v < h <;> by_cases cu : u < h
      · simp only [cv, cu, if_true, if_false]; rw [if_neg (by omega)]
      · simp only [cv, cu, if_true, if_false]; rw [if_neg (by omega)]
      · simp only [cv, cu, if_true, if_false]; rw [ic x (y - h) u (v - h) h1 cx (by omega) (by omega) h5 cu (by omega) (by omega)]
        by_cases z : u = x ∧ v = y
        · rw [if_pos z, if_pos (by omega)]
        · rw [if_neg z, if_neg (by omega)]
      · simp only [cv, cu, if_true, if_false]; rw [if_neg (by omega)]
    · rw [if_neg cy, if_neg cx]
      unfold get
      rw [hh]
      by_cases cv : v < h <;> by_cases cu : u < h
      · simp only [cv, cu, if_true, if_false]; rw [if_neg (by omega)]
      · simp only [cv, cu, if_true, if_false]; rw [if_neg (by omega)]
      · simp only [cv, cu, if_true, if_false]; rw [if_neg (by omega)]
      · simp only [cv, cu, if_true, if_false]; rw [id_ (x - h) (y - h) (u - h) (v - h) (by omega) (by omega) (by omega) (by omega) (by omega) (by omega) (by omega) (by omega)]
        by_cases z : u = x ∧ v = y
        · rw [if_pos z, if_pos (by omega)]
        · rw [if_neg z, if_neg (by omega)]
/-- the cell at a place, the square set about the middle -/
def half (S : Sq) : Int := 2 ^ (S.level - 1)
def val (S : Sq) (x y : Int) : Int := if -S.half ≤ x ∧ x < S.half ∧ -S.half ≤ y ∧ y < S.half then S.get (x + S.half) (y + S.half) else 0
theorem get_even (s : Int) : ∀ (l : Nat) (x y : Int), (even l s).get x y = s
  | 0, _, _ => rfl
  | l + 1, x, y => by
    unfold even get
    split <;> split <;> exact get_even s l _ _
theorem val_even0 (l : Nat) (x y : Int) : (even l 0).val x y = 0 := by
  unfold val
  split
  · exact get_even 0 l _ _
  · rfl
def wide : Sq → Sq
  | leaf s => leaf s
  | node a b c d => node (node (even a.level 0) (even a.level 0) (even a.level 0) a) (node (even a.level 0) (even a.level 0) b (even a.level 0)) (node (even a.level 0) c (even a.level 0) (even a.level 0)) (node d (even a.level 0) (even a.level 0) (even a.level 0))
theorem node_of {S : Sq} (h : 1 ≤ S.level) : ∃ a b c d, S = node a b c d := by
  cases S with
  | leaf s => simp [level] at h
  | node a b c d => exact ⟨a, b, c, d, rfl⟩
theorem level_wide {S : Sq} (h : 1 ≤ S.level) : S.wide.level = S.level + 1 := by
  obtain ⟨a, b, c, d, rfl⟩ := node_of h
  show (even a.level 0).level + 1 + 1 = a.level + 1 + 1
  rw [level_even]
theorem wf_wide {S : Sq} (w : S.wf) : S.wide.wf := by
  cases S with
  | leaf s => exact w
  | node a b c d =>
    obtain ⟨wa, wb, wc, wd, e1, e2, e3⟩ := w
    have we : (even a.level 0).wf := wf_even (by decide) (by decide) _
    have le : (even a.level 0).level = a.level := level_even _ _
    exact ⟨⟨we, we, we, wa, rfl, rfl, le.symm⟩, ⟨we, we, wb, we, rfl, by rw [e1, le], rfl⟩, ⟨we, wc, we, we, by rw [e2, le], rfl, rfl⟩, ⟨wd, we, we, we, by rw [e3, le], by rw [e3, le], by rw [e3, le]⟩, rfl, rfl, by show d.level + 1 = (even a.level 0).level + 1; rw [e3, le]⟩
theorem half_node (a b c d : Sq) : (node a b c d).half = 2 ^ a.level := rfl
set_option maxHeartbeats 4000000 in
theorem val_wide {S : Sq} (w : S.wf) (h : 1 ≤ S.level) (x y : Int) : S.wide.val x y = S.val x y := by
  obtain ⟨a, b, c, d, rfl⟩ := node_of h
  obtain ⟨wa, wb, wc, wd, e1, e2, e3⟩ := w
  have le : (even a.level 0).level = a.level := level_even _ _
  have hw : (wide (node a b c d)).half = 2 * 2 ^ a.level := by
    show (2 : Int) ^ ((even a.level 0).level + 1) = _
    rw [le]; exact two_succ _
  unfold val
  rw [hw, half_node]
  have n1 : (node (even a.level 0) (even a.level 0) (even a.level 0) a).level = a.level + 1 := by show (even a.level 0).level + 1 = _; rw [le]
  have h0 := two_pos a.level
  have e2' := two_succ a.level
  unfold wide
  simp only [get, n1, le, e3, get_even, e2']
  generalize (2 : Int) ^ a.level = h at *
  repeat' split
  all_goals first | rfl | omega | (congr 1 <;> omega)
/-! the middle, what is trimmed -/
def mid : Sq → Sq
  | node (node _ _ _ a) (node _ _ b _) (node _ c _ _) (node d _ _ _) => node a b c d
  | S => S
theorem mid_form {S : Sq} (w : S.wf) (h : 2 ≤ S.level) : ∃ a1 a2 a3 a4 b1 b2 b3 b4 c1 c2 c3 c4 d1 d2 d3 d4, S = node (node a1 a2 a3 a4) (node b1 b2 b3 b4) (node c1 c2 c3 c4) (node d1 d2 d3 d4) := by
  obtain ⟨a, b, c, d, rfl⟩ := node_of (by omega : 1 ≤ S.level)
  obtain ⟨wa, wb, wc, wd, e1, e2, e3⟩ := w
  have h' : 1 ≤ a.level := by have z : (node a b c d).level = a.level + 1 := rfl; omega
  obtain ⟨a1, a2, a3, a4, rfl⟩ := node_of h'
  obtain ⟨b1, b2, b3, b4, rfl⟩ := node_of (by omega : 1 ≤ b.level)
  obtain ⟨c1, c2, c3, c4, rfl⟩ := node_of (by omega : 1 ≤ c.level)
  obtain ⟨d1, d2, d3, d4, rfl⟩ := node_of (by omega : 1 ≤ d.level)
  exact ⟨_, _, _, _, _, _, _, _, _, _, _, _, _, _, _, _, rfl⟩
theorem wf_mid {S : Sq} (w : S.wf) (h : 2 ≤ S.level) : S.mid.wf ∧ S.mid.level + 1 = S.level := by
  obtain ⟨a1, a2, a3, a4, b1, b2, b3, b4, c1, c2, c3, c4, d1, d2, d3, d4, rfl⟩ := mid_form w h
  obtain ⟨wa, wb, wc, wd, e1, e2, e3⟩ := w
  simp only [wf] at wa wb wc wd
  simp only [level] at e1 e2 e3
  refine ⟨⟨wa.2.2.2.1, wb.2.2.1, wc.2.1, wd.1, ?_, ?_, ?_⟩, ?_⟩
  · omega
  · omega
  · omega
  · show a4.level + 1 + 1 = a1.level + 1 + 1
    omega
theorem lives_zero : ∀ {S : Sq}, S.wf → S.lives = 0 → ∀ x y, S.get x y = 0
  | leaf s, _, h, _, _ => by
    unfold lives at h
    split at h
    · assumption
    · cases h
  | node a b c d, ⟨wa, wb, wc, wd, _, _, _⟩, h, x, y => by
    have n1 := a.lives_nonneg; have n2 := b.lives_nonneg; have n3 := c.lives_nonneg; have n4 := d.lives_nonneg
    unfold lives at h
    unfold get
    split <;> split
    · exact lives_zero wa (by omega) _ _
    · exact lives_zero wb (by omega) _ _
    · exact lives_zero wc (by omega) _ _
    · exact lives_zero wd (by omega) _ _
set_option maxHeartbeats 8000000 in
theorem val_mid {S : Sq} (w : S.wf) (h : 2 ≤ S.level) (hl : ¬ S.mid.lives < S.lives) (x y : Int) : S.mid.val x y = S.val x y := by
  obtain ⟨a1, a2, a3, a4, b1, b2, b3, b4, c1, c2, c3, c4, d1, d2, d3, d4, rfl⟩ := mid_form w h
  obtain ⟨wa, wb, wc, wd, e1, e2, e3⟩ := w
  simp only [wf] at wa wb wc wd
  simp only [level] at e1 e2 e3
  simp only [mid, lives] at hl
  have na1 := a1.lives_nonneg; have na2 := a2.lives_nonneg; have na3 := a3.lives_nonneg
  have nb1 := b1.lives_nonneg; have nb2 := b2.lives_nonneg; have nb4 := b4.lives_nonneg
  have nc1 := c1.lives_nonneg; have nc3 := c3.lives_nonneg; have nc4 := c4.lives_nonneg
  have nd2 := d2.lives_nonneg; have nd3 := d3.lives_nonneg; have nd4 := d4.lives_nonneg
  have za1 := lives_zero wa.1 (by omega); have za2 := lives_zero wa.2.1 (by omega); have za3 := lives_zero wa.2.2.1 (by omega)
  have zb1 := lives_zero wb.1 (by omega); have zb2 := lives_zero wb.2.1 (by omega); have zb4 := lives_zero wb.2.2.2.1 (by omega)
  have zc1 := lives_zero wc.1 (by omega); have zc3 := lives_zero wc.2.2.1 (by omega); have zc4 := lives_zero wc.2.2.2.1 (by omega)
  have zd2 := lives_zero wd.2.1 (by omega); have zd3 := lives_zero wd.2.2.1 (by omega); have zd4 := lives_zero wd.2.2.2.1 (by omega)
  have l4 : a4.level = a1.level := by omega
  have lb : b1.level = a1.level := by omega
  have lc : c1.level = a1.level := by omega
  have ld : d1.level = a1.level := by omega
  have h0 := two_pos a1.level
  have e2' := two_succ a1.level
  unfold val
  simp only [mid, half_node, level, get, za1, za2, za3, zb1, zb2, zb4, zc1, zc3, zc4, zd2, zd3, zd4, l4, lb, lc, ld, e2']
  generalize (2 : Int) ^ a1.level = h at *
  repeat' split
  all_goals first | rfl | omega | (congr 1 <;> omega)
def trimN : Nat → Sq → Sq
  | 0, S => S
  | n + 1, S => if S.level ≤ 1 then S else if S.mid.lives < S.lives then S else trimN n S.mid
def trim (S : Sq) : Sq := trimN S.level S
/-- nothing more is to be trimmed -/
def Least (S : Sq) : Prop := S.level = 1 ∨ 2 ≤ S.level ∧ S.mid.lives < S.lives
theorem trimN_ok : ∀ (n : Nat) {S : Sq}, S.wf → 1 ≤ S.level → S.level ≤ n → (trimN n S).wf ∧ 1 ≤ (trimN n S).level ∧ (trimN n S).level ≤ S.level ∧ (trimN n S).Least ∧ ∀ x y, (trimN n S).val x y = S.val x y
  | 0, S, _, h1, h2 => by omega
  | n + 1, S, w, h1, h2 => by
    unfold trimN
    by_cases z : S.level ≤ 1
    · rw [if_pos z]
      exact ⟨w, h1, Nat.le_refl _, .inl (by omega), fun _ _ => rfl⟩
    · rw [if_neg z]
      by_cases y : S.mid.lives < S.lives
      · rw [if_pos y]
        exact ⟨w, h1, Nat.le_refl _, .inr ⟨by omega, y⟩, fun _ _ => rfl⟩
      · rw [if_neg y]
        obtain ⟨wm, lm⟩ := wf_mid w (by omega)
        obtain ⟨g1, g2, g3, g4, g5⟩ := trimN_ok n wm (by omega) (by omega)
        exact ⟨g1, g2, by omega, g4, fun u v => (g5 u v).trans (val_mid w (by omega) y u v)⟩
/-- enough turns are enough -/
theorem trimN_more : ∀ (n m : Nat) {S : Sq}, S.wf → 1 ≤ S.level → S.level ≤ n → S.level ≤ m → trimN n S = trimN m S
  | 0, m, S, _, h1, h2, _ => by omega
  | n + 1, 0, S, _, h1, _, h2 => by omega
  | n + 1, m + 1, S, w, h1, h2, h3 => by
    unfold trimN
    split
    · rfl
    · split
      · rfl
      · rename_i z _
        obtain ⟨wm, lm⟩ := wf_mid w (by omega)
        exact trimN_more n m wm (by omega) (by omega) (by omega)
theorem trim_mid {S : Sq} (w : S.wf) (h : 2 ≤ S.level) (y : ¬ S.mid.lives < S.lives) : S.trim = S.mid.trim := by
  obtain ⟨wm, lm⟩ := wf_mid w h
  unfold trim
  have e : S.level = S.mid.level + 1 := lm.symm
  rw [e]
  show (if S.level ≤ 1 then S else if S.mid.lives < S.lives then S else trimN S.mid.level S.mid) = _
  rw [if_neg (by omega), if_neg y]
theorem trim_self {S : Sq} (h : S.Least) : S.trim = S := by
  unfold trim
  cases e : S.level with
  | zero => rfl
  | succ n =>
    show (if S.level ≤ 1 then S else if S.mid.lives < S.lives then S else trimN n S.mid) = _
    rcases h with h | ⟨h, y⟩
    · rw [if_pos (by omega)]
    · rw [if_neg (by omega), if_pos y]
end Sq
end JF

/-! ### fields: the program's defs -/
namespace JF
open PySem PySem.Spec PyProof.Rows L2
theorem while_m {c : TT} {t : TS} {D : Ends} {σ : L2.St} {H : Hp} (W : Nat → L2.St → Hp → Prop) (m0 : Nat) (h0 : W m0 σ H)
    (hs : ∀ m σ H, W m σ H → c σ H fun k H1 => if k = true then ∃ N : L2.St → Hp → Prop, (∀ σ' H', N σ' H' → ∃ m', m' < m ∧ W m' σ' H') ∧ t { D with nx := N, ct := N, bk := D.nx } σ H1 else D.nx σ H1) : tWhile c t D σ H := ⟨W, ⟨m0, h0⟩, hs⟩
theorem div_lo {y h : Int} (h0 : 0 ≤ y) (h1 : y < h) : y / h = 0 ∧ y % h = y := (Int.ediv_emod_unique (by omega)).mpr ⟨by omega, h0, h1⟩
theorem div_hi {y h : Int} (h0 : h ≤ y) (h1 : y < 2 * h) : y / h = 1 ∧ y % h = y - h := (Int.ediv_emod_unique (by omega)).mpr ⟨by omega, by omega, by omega⟩
theorem small_mul {a b : Int} (h1 : -1000000 < a) (h2 : a < 1000000) (h3 : -(2 ^ 100) < b) (h4 : b < 2 ^ 100) : CMulW a b := by
  have e1 : (2 : Int) ^ 100 ≤ 2 ^ 2000 := by decide +kernel
  have e2 : (1000000 : Int) ≤ 2 ^ 2000 := by decide +kernel
  exact mulW_of (by omega) (by omega) (by omega) (by omega)
theorem pow64' {i : Nat} (h : i ≤ 60) : (0 : Int) < 2 ^ i ∧ (2 : Int) ^ i < 2 ^ 64 := by
  refine ⟨Int.pow_pos (by decide), ?_⟩
  have e2 : 2 ^ i < 2 ^ 64 := Nat.pow_lt_pow_right (by decide) (by omega)
  exact_mod_cast e2
theorem shl_ok' {i : Nat} : (1 : Int) * 2 ^ ((i : Int)).toNat = 2 ^ i := by rw [Int.one_mul, Int.toNat_natCast]
section
variable {P : Program} {w : World} {K : PySem.W.Frag} {mg : Str → Option Value} {base : Heap}
def InGround (x y : Int) : Prop := -1099511627776 ≤ x ∧ x < 1099511627776 ∧ -1099511627776 ≤ y ∧ y < 1099511627776
def sp_in_ground : Sp := fun vs H Q _ => ∃ x y : Int, vs = [.int x, .int y] ∧ InGround x y ∧ Q (.bl true) H
theorem ok_in_ground (T : Env fa fn K mg) : Good P w K mg base CX0 1 ("in_ground", none) ["x", "y"] sp_in_ground := by
  refine good_mk T 19 (d := d_in_ground) (N := ["x", "y"]) (ps := ["x", "y"]) rfl rfl sc_in_ground (fun _ _ _ _ _ _ us hl => match us, hl with | [_, _], _ => rfl) (fun vs H Q E h => ?_) (fun f cdv A outer σ0 H vs Q E hr h => ?_)
  · obtain ⟨x, y, rfl, _⟩ := h; rfl
  · obtain ⟨x, y, rfl, ⟨h1, h2, h3, h4⟩, k⟩ := h
    refine ⟨_, (pss_one (ps_ret (pe_and (pe_chain op_le op_lt (pe_un un_neg (pe_gint (T.int 22) rfl)) (pv 0) (pe_gint (T.int 22) rfl)) (pe_one (pe_chain op_le op_lt (pe_un un_neg (pe_gint (T.int 22) rfl)) (pv 1) (pe_gint (T.int 22) rfl)))))), ?_⟩
    walk_at "rd"
    rw [decide_eq_true h1]
    walk_at "rd"
    rw [decide_eq_true h2]
    walk_at "rd"
    rw [decide_eq_true h3]
    walk_at "rd"
    rw [decide_eq_true h4]
    exact k
/-- one corner of each of four -/
def sp_meeting (C : Addr) : Sp := fun vs H Q _ => ∃ (a : GA) (rows : List (Int × Addr)) (q : List Sq) (na nb nc nd : Nat) (a1 a2 a3 a4 b1 b2 b3 b4 c1 c2 c3 c4 d1 d2 d3 d4 : Sq), vs = [.ref a.g, .int (na : Int), .int (nb : Int), .int (nc : Int), .int (nd : Int)] ∧ GAt C H a rows q ∧
  q[na]? = some (.node a1 a2 a3 a4) ∧ q[nb]? = some (.node b1 b2 b3 b4) ∧ q[nc]? = some (.node c1 c2 c3 c4) ∧ q[nd]? = some (.node d1 d2 d3 d4) ∧ (Sq.node a4 b3 c2 d1).wf ∧ a4.level ≤ 60 ∧ q.length < 16000000 ∧
  ∀ H' q' (n : Nat), GAt C H' a rows q' → q <+: q' → q'.length ≤ q.length + 1 → q'[n]? = some (.node a4 b3 c2 d1) → Fr a.m5 H H' → Q (.int (n : Int)) H'
theorem mp_meeting {C : Addr} : MonP (sp_meeting C) := fun vs H Q Q' E h ⟨a, rows, q, na, nb, nc, nd, a1, a2, a3, a4, b1, b2, b3, b4, c1, c2, c3, c4, d1, d2, d3, d4, x1, x2, x3, x4, x5, x6, x7, x8, x9, k⟩ =>
  ⟨a, rows, q, na, nb, nc, nd, a1, a2, a3, a4, b1, b2, b3, b4, c1, c2, c3, c4, d1, d2, d3, d4, x1, x2, x3, x4, x5, x6, x7, x8, x9, fun H' q' n g p l e f => h _ _ (k H' q' n g p l e f)⟩
theorem ok_meeting (T : Env fa fn K mg) : Good P w K mg base CX0 4 ("meeting", none) ["grove", "a", "b", "c", "d"] (sp_meeting (CG K)) := by
  have G_Grove_quarters := ok_quarters (P := P) (w := w) (base := base) T
  have G_Grove_knit := ok_knit (P := P) (w := w) (base := base) T
  refine good_mk T 20 (d := d_meeting) (N := ["grove", "a", "b", "c", "d", "one", "two", "three", "four"]) (ps := ["grove", "a", "b", "c", "d"]) rfl rfl sc_meeting (fun _ _ _ _ _ _ us hl => match us, hl with | [_, _, _, _, _], _ => rfl) (fun vs H Q E h => ?_) (fun f cdv A outer σ0 H vs Q E hr h => ?_)
  · obtain ⟨a, rows, q, na, nb, nc, nd, a1, a2, a3, a4, b1, b2, b3, b4, c1, c2, c3, c4, d1, d2, d3, d4, rfl, _⟩ := h; rfl
  · obtain ⟨a, rows, q, na, nb, nc, nd, a1, a2, a3, a4, b1, b2, b3, b4, c1, c2, c3, c4, d1, d2, d3, d4, rfl, G, ha, hb, hc, hd, hw, hlv, hlen, k⟩ := h
    refine ⟨_, (pss_cons (ps_set (i := 5) sc_meeting.nd rfl (Or.inl rfl) (pe_ix (ix_tupK K rfl) (pe_mgK K rfl (pv 0) (T.cls 9) (T.meth 23) G_Grove_quarters (hr.mono (by decide)) (pa_cons (pv 1) pa_nil)) pe_int (fun _ _ => rfl)))
      (pss_cons (ps_set (i := 6) sc_meeting.nd rfl (Or.inl rfl) (pe_ix (ix_tupK K rfl) (pe_mgK K rfl (pv 0) (T.cls 9) (T.meth 23) G_Grove_quarters (hr.mono (by decide)) (pa_cons (pv 2) pa_nil)) pe_int (fun _ _ => rfl)))
      (pss_cons (ps_set (i := 7) sc_meeting.nd rfl (Or.inl rfl) (pe_ix (ix_tupK K rfl) (pe_mgK K rfl (pv 0) (T.cls 9) (T.meth 23) G_Grove_quarters (hr.mono (by decide)) (pa_cons (pv 3) pa_nil)) pe_int (fun _ _ => rfl)))
      (pss_cons (ps_set (i := 8) sc_meeting.nd rfl (Or.inl rfl) (pe_ix (ix_tupK K rfl) (pe_mgK K rfl (pv 0) (T.cls 9) (T.meth 23) G_Grove_quarters (hr.mono (by decide)) (pa_cons (pv 4) pa_nil)) pe_int (fun _ _ => rfl)))
      (pss_one (ps_ret (pe_mgK K rfl (pv 0) (T.cls 9) (T.meth 13) G_Grove_knit (hr.mono (by decide)) (pa_cons (pv 5) (pa_cons (pv 6) (pa_cons (pv 7) (pa_cons (pv 8) pa_nil))))))))))), ?_⟩
    walk_at "rd"
    refine rd_methR G.ob (by rfl) ?_
    walk_at "rd"
    refine ⟨a, rows, q, na, _, _, _, _, rfl, G, ha, by omega, fun t x1 x2 x3 x4 ht _ _ _ hx => ?_⟩
    walk_at "rd"
    refine rd_methR G.ob (by rfl) ?_
    walk_at "rd"
    refine ⟨a, rows, q, nb, _, _, _, _, rfl, G, hb, by omega, fun t2 y1 y2 y3 y4 ht2 _ _ hy _ => ?_⟩
    walk_at "rd"
    refine rd_methR G.ob (by rfl) ?_
    walk_at "rd"
    refine ⟨a, rows, q, nc, _, _, _, _, rfl, G, hc, by omega, fun t3 z1 z2 z3 z4 ht3 _ hz _ _ => ?_⟩
    walk_at "rd"
    refine rd_methR G.ob (by rfl) ?_
    walk_at "rd"
    refine ⟨a, rows, q, nd, _, _, _, _, rfl, G, hd, by omega, fun t4 u1 u2 u3 u4 ht4 hu _ _ _ => ?_⟩
    walk_at "rd"
    refine rd_methR G.ob (by rfl) ?_
    walk_at "rd"
    exact ⟨a, rows, q, _, _, _, _, x4, y3, z2, u1, rfl, G, hx, hy, hz, hu, hw, hlv, hlen, k⟩
def sp_middle_of (C : Addr) : Sp := fun vs H Q _ => ∃ (a : GA) (rows : List (Int × Addr)) (q : List Sq) (n : Nat) (S : Sq), vs = [.ref a.g, .int (n : Int)] ∧ GAt C H a rows q ∧ q[n]? = some S ∧ 2 ≤ S.level ∧ S.level ≤ 60 ∧ q.length < 16000000 ∧
  ∀ H' q' (m : Nat), GAt C H' a rows q' → q <+: q' → q'.length ≤ q.length + 1 → q'[m]? = some S.mid → Fr a.m5 H H' → Q (.int (m : Int)) H'
theorem mp_middle_of {C : Addr} : MonP (sp_middle_of C) := fun vs H Q Q' E h ⟨a, rows, q, n, S, x1, x2, x3, x4, x5, x6, k⟩ => ⟨a, rows, q, n, S, x1, x2, x3, x4, x5, x6, fun H' q' m g p l e f => h _ _ (k H' q' m g p l e f)⟩
theorem ok_middle_of (T : Env fa fn K mg) : Good P w K mg base CX0 5 ("middle_of", none) ["grove", "square"] (sp_middle_of (CG K)) := by
  have G_Grove_quarters := ok_quarters (P := P) (w := w) (base := base) T
  have G_meeting := ok_meeting (P := P) (w := w) (base := base) T
  refine good_mk T 21 (d := d_middle_of) (N := ["grove", "square", "four"]) (ps := ["grove", "square"]) rfl rfl sc_middle_of (fun _ _ _ _ _ _ us hl => match us, hl with | [_, _], _ => rfl) (fun vs H Q E h => ?_) (fun f cdv A outer σ0 H vs Q E hr h => ?_)
  · obtain ⟨a, rows, q, n, S, rfl, _⟩ := h; rfl
  · obtain ⟨a, rows, q, n, S, rfl, G, hn, h2, h60, hlen, k⟩ := h
    have hw := G.wf _ (List.mem_of_getElem? hn)
    obtain ⟨wm, lm⟩ := Sq.wf_mid hw h2
    obtain ⟨a1, a2, a3, a4, b1, b2, b3, b4, c1, c2, c3, c4, d1, d2, d3, d4, rfl⟩ := Sq.mid_form hw h2
    refine ⟨_, (pss_cons (ps_set (i := 2) sc_middle_of.nd rfl (Or.inl rfl) (pe_mgK K rfl (pv 0) (T.cls 9) (T.meth 23) G_Grove_quarters (hr.mono (by decide)) (pa_cons (pv 1) pa_nil)))
      (pss_one (ps_ret (pe_cgK K rfl G_meeting (hr.mono (by decide)) (T.glo 24) (pa_cons (pv 0) (pa_cons (pe_ix (ix_tupK K rfl) (pv 2) pe_int (fun _ _ => rfl)) (pa_cons (pe_ix (ix_tupK K rfl) (pv 2) pe_int (fun _ _ => rfl)) (pa_cons (pe_ix (ix_tupK K rfl) (pv 2) pe_int (fun _ _ => rfl)) (pa_cons (pe_ix (ix_tupK K rfl) (pv 2) pe_int (fun _ _ => rfl)) pa_nil))))))))), ?_⟩
    walk_at "rd"
    refine rd_methR G.ob (by rfl) ?_
    walk_at "rd"
    refine ⟨a, rows, q, n, _, _, _, _, rfl, G, hn, by omega, fun t x1 x2 x3 x4 ht e1 e2 e3 e4 => ?_⟩
    walk_at "rd"
    have l4 : a4.level + 1 = (Sq.mid (.node (.node a1 a2 a3 a4) (.node b1 b2 b3 b4) (.node c1 c2 c3 c4) (.node d1 d2 d3 d4))).level := rfl
    exact ⟨a, rows, q, x1, x2, x3, x4, _, _, _, _, _, _, _, _, _, _, _, _, _, _, _, _, rfl, G, e1, e2, e3, e4, wm, by omega, hlen, k⟩
def sp_widened (C : Addr) : Sp := fun vs H Q _ => ∃ (a : GA) (rows : List (Int × Addr)) (q : List Sq) (n : Nat) (S : Sq), vs = [.ref a.g, .int (n : Int)] ∧ GAt C H a rows q ∧ q[n]? = some S ∧ 1 ≤ S.level ∧ S.level ≤ 47 ∧ q.length + 200 < 16000000 ∧
  ∀ H' rows' q' (m : Nat), GStep C H a rows q H' rows' q' → q'.length ≤ q.length + 60 → q'[m]? = some S.wide → Q (.int (m : Int)) H'
theorem mp_widened {C : Addr} : MonP (sp_widened C) := fun vs H Q Q' E h ⟨a, rows, q, n, S, x1, x2, x3, x4, x5, x6, k⟩ => ⟨a, rows, q, n, S, x1, x2, x3, x4, x5, x6, fun H' r' q' m g l e => h _ _ (k H' r' q' m g l e)⟩
set_option maxHeartbeats 8000000 in
theorem ok_widened (T : Env fa fn K mg) : Good P w K mg base CX0 5 ("widened", none) ["grove", "square"] (sp_widened (CG K)) := by
  have G_Grove_quarters := ok_quarters (P := P) (w := w) (base := base) T
  have G_Grove_level_of := ok_level_of (P := P) (w := w) (base := base) T
  have G_Grove_knit := ok_knit (P := P) (w := w) (base := base) T
  have G_Grove_even := ok_even (P := P) (w := w) (base := base) T
  refine good_mk T 22 (d := d_widened) (N := ["grove", "square", "level", "four", "no", "one", "two", "three", "last"]) (ps := ["grove", "square"]) rfl rfl sc_widened (fun _ _ _ _ _ _ us hl => match us, hl with | [_, _], _ => rfl) (fun vs H Q E h => ?_) (fun f cdv A outer σ0 H vs Q E hr h => ?_)
  · obtain ⟨a, rows, q, n, S, rfl, _⟩ := h; rfl
  · obtain ⟨a, rows, q, n, S, rfl, G, hn, h1, h47, hlen, k⟩ := h
    have hw := G.wf _ (List.mem_of_getElem? hn)
    obtain ⟨A', B, C', D, rfl⟩ := Sq.node_of h1
    obtain ⟨wa, wb, wc, wd, ee1, ee2, ee3⟩ := id hw
    have hl : (Sq.node A' B C' D).level = A'.level + 1 := rfl
    have we : (Sq.even A'.level 0).wf := Sq.wf_even (by decide) (by decide) _
    have le : (Sq.even A'.level 0).level = A'.level := Sq.level_even _ _
    refine ⟨_, (pss_cons (ps_set (i := 2) sc_widened.nd rfl (Or.inl rfl) (pe_mgK K rfl (pv 0) (T.cls 9) (T.meth 25) G_Grove_level_of (hr.mono (by decide)) (pa_cons (pv 1) pa_nil)))
      (pss_cons (ps_if (PW.pt (pw_or (pt_cmpR op_eq (pv 2) pe_int (nomark _)) (pw_or1 (pt_cmpR op_ge (pv 2) (pe_gint (T.int 19) rfl) (nomark _))))) pss_never pss_nil)
      (pss_cons (ps_set (i := 3) sc_widened.nd rfl (Or.inl rfl) (pe_mgK K rfl (pv 0) (T.cls 9) (T.meth 23) G_Grove_quarters (hr.mono (by decide)) (pa_cons (pv 1) pa_nil)))
      (pss_cons (ps_set (i := 4) sc_widened.nd rfl (Or.inl rfl) (pe_mgK K rfl (pv 0) (T.cls 9) (T.meth 20) G_Grove_even (hr.mono (by decide)) (pa_cons (pe_op op_sub (pv 2) pe_int) (pa_cons pe_int pa_nil))))
      (pss_cons (ps_set (i := 5) sc_widened.nd rfl (Or.inl rfl) (pe_mgK K rfl (pv 0) (T.cls 9) (T.meth 13) G_Grove_knit (hr.mono (by decide)) (pa_cons (pv 4) (pa_cons (pv 4) (pa_cons (pv 4) (pa_cons (pe_ix (ix_tupK K rfl) (pv 3) pe_int (fun _ _ => rfl)) pa_nil))))))
      (pss_cons (ps_set (i := 6) sc_widened.nd rfl (Or.inl rfl) (pe_mgK K rfl (pv 0) (T.cls 9) (T.meth 13) G_Grove_knit (hr.mono (by decide)) (pa_cons (pv 4) (pa_cons (pv 4) (pa_cons (pe_ix (ix_tupK K rfl) (pv 3) pe_int (fun _ _ => rfl)) (pa_cons (pv 4) pa_nil))))))
      (pss_cons (ps_set (i := 7) sc_widened.nd rfl (Or.inl rfl) (pe_mgK K rfl (pv 0) (T.cls 9) (T.meth 13) G_Grove_knit (hr.mono (by decide)) (pa_cons (pv 4) (pa_cons (pe_ix (ix_tupK K rfl) (pv 3) pe_int (fun _ _ => rfl)) (pa_cons (pv 4) (pa_cons (pv 4) pa_nil))))))
      (pss_cons (ps_set (i := 8) sc_widened.nd rfl (Or.inl rfl) (pe_mgK K rfl (pv 0) (T.cls 9) (T.meth 13) G_Grove_knit (hr.mono (by decide)) (pa_cons (pe_ix (ix_tupK K rfl) (pv 3) pe_int (fun _ _ => rfl)) (pa_cons (pv 4) (pa_cons (pv 4) (pa_cons (pv 4) pa_nil))))))
      (pss_one (ps_ret (pe_mgK K rfl (pv 0) (T.cls 9) (T.meth 13) G_Grove_knit (hr.mono (by decide)) (pa_cons (pv 5) (pa_cons (pv 6) (pa_cons (pv 7) (pa_cons (pv 8) pa_nil))))))))))))))), ?_⟩
    walk_at "rd"
    refine rd_methR G.ob (by rfl) ?_
    walk_at "rd"
    refine ⟨a, rows, q, n, _, rfl, G, hn, by omega, ?_⟩
    walk_at "rd"
    rw [decide_eq_false (by rw [hl]; omega)]
    walk_at "rd"
    rw [decide_eq_false (by omega)]
    walk_at "rd"
    refine rd_methR G.ob (by rfl) ?_
    walk_at "rd"
    refine ⟨a, rows, q, n, _, _, _, _, rfl, G, hn, by omega, fun t x1 x2 x3 x4 ht e1 e2 e3 e4 => ?_⟩
    walk_at "rd"
    refine rd_methR G.ob (by rfl) ?_
    walk_at "rd"
    have el : (((Sq.node A' B C' D).level : Nat) : Int) - 1 = ((A'.level : Nat) : Int) := by rw [hl]; omega
    rw [el]
    refine ⟨a, rows, q, A'.level, 0, rfl, G, by omega, by decide, by decide, by omega, fun H1 r1 q1 m0 S1 len1 hm0 => ?_⟩
    have t1 := S1.tup G _ _ ht
    have P1 := S1.pre
    walk_at "rd"
    refine rd_methR S1.gat.ob (by rfl) ?_
    walk_at "rd"
    refine ⟨a, r1, q1, _, _, _, _, m0, m0, m0, x1, rfl, S1.gat, hm0, hm0, hm0, pre_get P1 e1, ⟨we, we, we, wa, rfl, rfl, le.symm⟩, by omega, by omega, fun H2 q2 n2 G2 p2 l2 f2 fr2 => ?_⟩
    have S2 := S1.m5 G2 p2 fr2
    have t2 := S2.tup G _ _ ht
    walk_at "rd"
    refine rd_methR G2.ob (by rfl) ?_
    walk_at "rd"
    refine ⟨a, r1, q2, _, _, _, _, m0, m0, x2, m0, rfl, G2, pre_get p2 hm0, pre_get p2 hm0, pre_get S2.pre e2, pre_get p2 hm0, ⟨we, we, wb, we, rfl, by rw [ee1, le], rfl⟩, by omega, by omega, fun H3 q3 n3 G3 p3 l3 f3 fr3 => ?_⟩
    have S3 := S2.m5 G3 p3 fr3
    have t3 := S3.tup G _ _ ht
    walk_at "rd"
    refine rd_methR G3.ob (by rfl) ?_
    walk_at "rd"
    refine ⟨a, r1, q3, _, _, _, _, m0, x3, m0, m0, rfl, G3, pre_get (p2.trans p3) hm0, pre_get S3.pre e3, pre_get (p2.trans p3) hm0, pre_get (p2.trans p3) hm0, ⟨we, wc, we, we, by rw [ee2, le], rfl, rfl⟩, by omega, by omega, fun H4 q4 n4 G4 p4 l4 f4 fr4 => ?_⟩
    have S4 := S3.m5 G4 p4 fr4
    have t4 := S4.tup G _ _ ht
    walk_at "rd"
    refine rd_methR G4.ob (by rfl) ?_
    walk_at "rd"
    refine ⟨a, r1, q4, _, _, _, _, x4, m0, m0, m0, rfl, G4, pre_get S4.pre e4, pre_get ((p2.trans p3).trans p4) hm0, pre_get ((p2.trans p3).trans p4) hm0, pre_get ((p2.trans p3).trans p4) hm0, ⟨wd, we, we, we, by rw [ee3, le], by rw [ee3, le], by rw [ee3, le]⟩, by omega, by omega, fun H5 q5 n5 G5 p5 l5 f5 fr5 => ?_⟩
    have S5 := S4.m5 G5 p5 fr5
    walk_at "rd"
    refine rd_methR G5.ob (by rfl) ?_
    walk_at "rd"
    have ww := Sq.wf_wide hw
    have lw : (Sq.node (Sq.even A'.level 0) (Sq.even A'.level 0) (Sq.even A'.level 0) A').level = A'.level + 1 := by show (Sq.even A'.level 0).level + 1 = _; rw [le]
    refine ⟨a, r1, q5, _, _, _, _, n2, n3, n4, n5, rfl, G5, pre_get ((p3.trans p4).trans p5) f2, pre_get (p4.trans p5) f3, pre_get p5 f4, f5, ww, by omega, by omega, fun H6 q6 n6 G6 p6 l6 f6 fr6 => ?_⟩
    exact k _ _ _ _ (S5.m5 G6 p6 fr6) (by omega) f6
def sp_trimmed (C : Addr) : Sp := fun vs H Q _ => ∃ (a : GA) (rows : List (Int × Addr)) (q : List Sq) (n : Nat) (S : Sq), vs = [.ref a.g, .int (n : Int)] ∧ GAt C H a rows q ∧ q[n]? = some S ∧ 1 ≤ S.level ∧ S.level ≤ 60 ∧ q.length + 200 < 16000000 ∧
  ∀ H' q' (m : Nat), GStep C H a rows q H' rows q' → q'.length ≤ q.length + 60 → q'[m]? = some S.trim → Q (.int (m : Int)) H'
theorem mp_trimmed {C : Addr} : MonP (sp_trimmed C) := fun vs H Q Q' E h ⟨a, rows, q, n, S, x1, x2, x3, x4, x5, x6, k⟩ => ⟨a, rows, q, n, S, x1, x2, x3, x4, x5, x6, fun H' q' m g l e => h _ _ (k H' q' m g l e)⟩
theorem ok_trimmed (T : Env fa fn K mg) : Good P w K mg base CX0 6 ("trimmed", none) ["grove", "square"] (sp_trimmed (CG K)) := by
  have G_Grove_level_of := ok_level_of (P := P) (w := w) (base := base) T
  have G_Grove_living := ok_living (P := P) (w := w) (base := base) T
  have G_middle_of := ok_middle_of (P := P) (w := w) (base := base) T
  refine good_mk T 23 (d := d_trimmed) (N := ["grove", "square", "inner"]) (ps := ["grove", "square"]) rfl rfl sc_trimmed (fun _ _ _ _ _ _ us hl => match us, hl with | [_, _], _ => rfl) (fun vs H Q E h => ?_) (fun f cdv A outer σ0 H vs Q E hr h => ?_)
  · obtain ⟨a, rows, q, n, S, rfl, _⟩ := h; rfl
  · obtain ⟨a, rows, q, n, S, rfl, G, hn, h1, h60, hlen, k⟩ := h
    refine ⟨_, (pss_cons (ps_if (pt_cmpR op_eq (pe_mgK K rfl (pv 0) (T.cls 9) (T.meth 25) G_Grove_level_of (hr.mono (by decide)) (pa_cons (pv 1) pa_nil)) pe_int (nomark _)) pss_never pss_nil)
      (pss_cons (ps_while PassesOwn.never (pt_cmpR op_gt (pe_mgK K rfl (pv 0) (T.cls 9) (T.meth 25) G_Grove_level_of (hr.mono (by decide)) (pa_cons (pv 1) pa_nil)) pe_int (nomark _)) (pss_cons (ps_set (i := 2) sc_trimmed.nd rfl (Or.inl rfl) (pe_cgK K rfl G_middle_of (hr.mono (by decide)) (T.glo 27) (pa_cons (pv 0) (pa_cons (pv 1) pa_nil))))
      (pss_cons (ps_if (pt_cmpR op_lt (pe_mgK K rfl (pv 0) (T.cls 9) (T.meth 28) G_Grove_living (hr.mono (by decide)) (pa_cons (pv 2) pa_nil)) (pe_mgK K rfl (pv 0) (T.cls 9) (T.meth 28) G_Grove_living (hr.mono (by decide)) (pa_cons (pv 1) pa_nil)) (nomark _)) (pss_one (ps_ret (pv 1))) pss_nil)
      (pss_one (ps_set (i := 1) sc_trimmed.nd rfl (Or.inl rfl) (pv 2))))))
      (pss_one (ps_ret (pv 1))))), ?_⟩
    walk_at "rd"
    refine rd_methR G.ob (by rfl) ?_
    walk_at "rd"
    refine ⟨a, rows, q, n, _, rfl, G, hn, by omega, ?_⟩
    walk_at "rd"
    rw [decide_eq_false (by omega)]
    walk_at "rd"
    refine while_m (fun m σ H' => ∃ (q1 : List Sq) (n1 : Nat) (S1 : Sq) (x2 : Option V), σ = [some (.ref a.g), some (.int (n1 : Int)), x2] ∧ GStep (CG K) H a rows q H' rows q1 ∧ q1[n1]? = some S1 ∧ m = S1.level ∧ 1 ≤ S1.level ∧ S1.level ≤ S.level ∧ S1.trim = S.trim ∧ q1.length + S1.level ≤ q.length + S.level) S.level
      ⟨q, n, S, none, rfl, GStep.refl G, hn, rfl, h1, Nat.le_refl _, rfl, Nat.le_refl _⟩ ?_
    rintro m σ H1 ⟨q1, n1, S1, x2, rfl, St, hn1, rfl, g1, g2, g3, g4⟩
    have hw := St.gat.wf _ (List.mem_of_getElem? hn1)
    walk_at "rd"
    refine rd_methR St.gat.ob (by rfl) ?_
    walk_at "rd"
    refine ⟨a, rows, q1, n1, _, rfl, St.gat, hn1, by omega, ?_⟩
    walk_at "rd"
    refine ite_d (fun hb => ?_) (fun hb => ?_)
    · refine ⟨fun σ' H' => ∃ m', m' < S1.level ∧ _, fun _ _ h => h, ?_⟩
      walk_at "rd"
      refine ⟨a, rows, q1, n1, S1, rfl, St.gat, hn1, by omega, by omega, by omega, fun H2 q2 m2 G2 p2 l2 e2 fr2 => ?_⟩
      have S2 := St.m5 G2 p2 fr2
      obtain ⟨wm, lm⟩ := Sq.wf_mid hw (by omega)
      have hn2 := pre_get p2 hn1
      walk_at "rd"
      refine rd_methR G2.ob (by rfl) ?_
      walk_at "rd"
      refine ⟨a, rows, q2, m2, _, rfl, G2, e2, by omega, ?_⟩
      walk_at "rd"
      refine rd_methR G2.ob (by rfl) ?_
      walk_at "rd"
      refine ⟨a, rows, q2, n1, _, rfl, G2, hn2, by omega, ?_⟩
      walk_at "rd"
      refine ite_d (fun hc => ?_) (fun hc => ?_)
      · walk_at "rd"
        refine k _ q2 n1 S2 (by omega) ?_
        rw [← g3, Sq.trim_self (.inr ⟨by omega, hc⟩)]
        exact hn2
      · walk_at "rd"
        exact ⟨S1.mid.level, by omega, q2, m2, S1.mid, _, rfl, S2, e2, rfl, by omega, by omega, (Sq.trim_mid hw (by omega) hc).symm.trans g3, by omega⟩
    · walk_at "rd"
      refine k _ q1 n1 St (by omega) ?_
      rw [← g3, Sq.trim_self (.inl (by omega))]
      exact hn1
end
end JF

/-! ### fields: cell_at, put_in, planted -/
namespace JF
open PySem PySem.Spec PyProof.Rows L2
theorem get_node (a b c d : Sq) (x y : Int) : (Sq.node a b c d).get x y = if y < 2 ^ a.level then (if x < 2 ^ a.level then a.get x y else b.get (x - 2 ^ a.level) y) else (if x < 2 ^ a.level then c.get x (y - 2 ^ a.level) else d.get (x - 2 ^ a.level) (y - 2 ^ a.level)) := rfl
theorem band1 (i : Int) : Builtin.bitAnd i 1 = i % 2 := PySem.W.kbt_mask i 1
theorem bit_split {X h : Int} (h0 : 0 < h) : ((X / h) % 2 = 0 ∧ X % (2 * h) = X % h) ∨ ((X / h) % 2 = 1 ∧ X % (2 * h) = X % h + h) := by
  have e := Int.mul_ediv_add_emod X h
  have r0 := Int.emod_nonneg X (by omega : h ≠ 0)
  have r1 := Int.emod_lt_of_pos X h0
  have e2 := Int.mul_ediv_add_emod (X / h) 2
  generalize X / h = k at *
  generalize X % h = r at *
  have e3 : h * k = 2 * h * (k / 2) + h * (k % 2) := by
    have z : h * k = h * (2 * (k / 2) + k % 2) := by rw [e2]
    rw [z, Int.mul_add, ← Int.mul_assoc, Int.mul_comm h 2]
  rcases (by omega : k % 2 = 0 ∨ k % 2 = 1) with z | z
  · left
    refine ⟨z, ((Int.ediv_emod_unique (q := k / 2) (r := r) (by omega)).mpr ⟨?_, r0, by omega⟩).2⟩
    rw [z, Int.mul_zero] at e3
    omega
  · right
    refine ⟨z, ((Int.ediv_emod_unique (q := k / 2) (r := r + h) (by omega)).mpr ⟨?_, by omega, by omega⟩).2⟩
    rw [z, Int.mul_one] at e3
    omega
section
variable {P : Program} {w : World} {K : PySem.W.Frag} {mg : Str → Option Value} {base : Heap}
def sp_cell_at (C : Addr) : Sp := fun vs H Q _ => ∃ (a : GA) (rows : List (Int × Addr)) (q : List Sq) (n : Nat) (S : Sq) (x y : Int), vs = [.ref a.g, .int (n : Int), .int x, .int y] ∧ GAt C H a rows q ∧ q[n]? = some S ∧ 1 ≤ S.level ∧ S.level ≤ 60 ∧ q.length ≤ 16000000 ∧ Q (.int (S.val x y)) H
theorem mp_cell_at {C : Addr} : MonP (sp_cell_at C) := fun vs H Q Q' E h ⟨a, rows, q, n, S, x, y, x1, x2, x3, x4, x5, x6, k⟩ => ⟨a, rows, q, n, S, x, y, x1, x2, x3, x4, x5, x6, h _ _ k⟩
end
end JF

/-! ### fields: put_in, planted -/
namespace JF
open PySem PySem.Spec PyProof.Rows L2
section
variable {P : Program} {w : World} {K : PySem.W.Frag} {mg : Str → Option Value} {base : Heap}
def sp_put_in (C : Addr) (L : Nat) : Sp := fun vs H Q _ => ∃ (a : GA) (rows : List (Int × Addr)) (q : List Sq) (n m : Nat) (S : Sq) (s x y : Int), vs = [.ref a.g, .int (n : Int), .int x, .int y, .int (m : Int)] ∧ GAt C H a rows q ∧ q[n]? = some S ∧ q[m]? = some (.leaf s) ∧ S.level ≤ L ∧ S.level ≤ 60 ∧
  0 ≤ x ∧ x < 2 ^ S.level ∧ 0 ≤ y ∧ y < 2 ^ S.level ∧ q.length + 200 < 16000000 ∧ ∀ H' q' (r : Nat), GStep C H a rows q H' rows q' → q'.length ≤ q.length + S.level → q'[r]? = some (S.put x y s) → Q (.int (r : Int)) H'
theorem mp_put_in {C : Addr} {L : Nat} : MonP (sp_put_in C L) := fun vs H Q Q' E h ⟨a, rows, q, n, m, S, s, x, y, x1, x2, x3, x4, x5, x6, x7, x8, x9, y1, y2, k⟩ => ⟨a, rows, q, n, m, S, s, x, y, x1, x2, x3, x4, x5, x6, x7, x8, x9, y1, y2, fun H' q' r g l e => h _ _ (k H' q' r g l e)⟩
theorem put_node (a b c d : Sq) (x y s : Int) : (Sq.node a b c d).put x y s = if y < 2 ^ a.level then (if x < 2 ^ a.level then .node (a.put x y s) b c d else .node a (b.put (x - 2 ^ a.level) y s) c d)
      else (if x < 2 ^ a.level then .node a b (c.put x (y - 2 ^ a.level) s) d else .node a b c (d.put (x - 2 ^ a.level) (y - 2 ^ a.level) s)) := rfl
theorem no_put_in (T : Env fa fn K mg) : Good P w K mg base CX0 1 ("put_in", none) ["grove", "square", "x", "y", "leaf"] (fun _ _ _ _ => False) := by
  refine good_mk T 24 (d := d_put_in) (N := ["grove", "square", "x", "y", "leaf", "level", "half", "four", "at"]) (ps := ["grove", "square", "x", "y", "leaf"]) rfl rfl sc_put_in (fun _ _ _ _ _ _ us hl => match us, hl with | [_, _, _, _, _], _ => rfl) (fun vs H Q E h => h.elim) (fun f cdv A outer σ0 H vs Q E hr h => h.elim)
set_option maxHeartbeats 16000000 in
theorem ok_put_in (T : Env fa fn K mg) : ∀ L : Nat, Good P w K mg base CX0 (5 + L) ("put_in", none) ["grove", "square", "x", "y", "leaf"] (sp_put_in (CG K) L) := by
  have G_Grove_level_of := ok_level_of (P := P) (w := w) (base := base) T
  have G_Grove_quarters := ok_quarters (P := P) (w := w) (base := base) T
  have G_Grove_knit := ok_knit (P := P) (w := w) (base := base) T
  intro L
  induction L with
  | zero =>
    have G_put_in := no_put_in (P := P) (w := w) (base := base) T
    refine good_mk T 24 (d := d_put_in) (N := ["grove", "square", "x", "y", "leaf", "level", "half", "four", "at"]) (ps := ["grove", "square", "x", "y", "leaf"]) rfl rfl sc_put_in (fun _ _ _ _ _ _ us hl => match us, hl with | [_, _, _, _, _], _ => rfl) (fun vs H Q E h => ?_) (fun f cdv A outer σ0 H vs Q E hr h => ?_)
    · obtain ⟨a, rows, q, n, m, S, s, x, y, rfl, _⟩ := h; rfl
    · obtain ⟨a, rows, q, n, m, S, s, x, y, rfl, G, hn, hm, hL, h60, hx0, hx1, hy0, hy1, hlen, k⟩ := h
      refine ⟨_, (pss_cons (ps_set (i := 5) sc_put_in.nd rfl (Or.inl rfl) (pe_mgK K rfl (pv 0) (T.cls 9) (T.meth 25) G_Grove_level_of (hr.mono (by decide)) (pa_cons (pv 1) pa_nil)))
      (pss_cons (ps_if (pt_cmpR op_eq (pv 5) pe_int (nomark _)) (pss_one (ps_ret (pv 4))) pss_nil)
      (pss_cons (ps_set (i := 6) sc_put_in.nd rfl (Or.inl rfl) (pe_op op_shl pe_int (pe_op op_sub (pv 5) pe_int)))
      (pss_cons (ps_set (i := 7) sc_put_in.nd rfl (Or.inl rfl) (pe_callTy (call_listK K rfl) (by rfl) (T.free 29) (by decide +kernel) (pa_cons (pe_mgK K rfl (pv 0) (T.cls 9) (T.meth 23) G_Grove_quarters (hr.mono (by decide)) (pa_cons (pv 1) pa_nil)) pa_nil)))
      (pss_cons (ps_set (i := 8) sc_put_in.nd rfl (Or.inl rfl) (pe_op op_add (pe_op op_mulW pe_int (pe_op op_fdivW (pv 3) (pv 6))) (pe_op op_fdivW (pv 2) (pv 6))))
      (pss_cons (ps_asg (pe_cgK K rfl G_put_in (hr.mono (by decide)) (T.glo 30) (pa_cons (pv 0) (pa_cons (pe_ix (ix_listK K rfl) (pv 7) (pv 8) (fun _ _ => rfl)) (pa_cons (pe_op op_mod (pv 2) (pv 6)) (pa_cons (pe_op op_mod (pv 3) (pv 6)) (pa_cons (pv 4) pa_nil)))))) (pg_sub (pv 7) (pv 8) set_list))
      (pss_one (ps_ret (pe_mgK K rfl (pv 0) (T.cls 9) (T.meth 13) G_Grove_knit (hr.mono (by decide)) (pa_cons (pe_ix (ix_listK K rfl) (pv 7) pe_int (fun _ _ => rfl)) (pa_cons (pe_ix (ix_listK K rfl) (pv 7) pe_int (fun _ _ => rfl)) (pa_cons (pe_ix (ix_listK K rfl) (pv 7) pe_int (fun _ _ => rfl)) (pa_cons (pe_ix (ix_listK K rfl) (pv 7) pe_int (fun _ _ => rfl)) pa_nil))))))))))))), ?_⟩
      cases S with
      | node A' B C' D =>
        have hl : (Sq.node A' B C' D).level = A'.level + 1 := rfl
        omega
      | leaf r =>
      walk_at "rd"
      refine rd_methR G.ob (by rfl) ?_
      walk_at "rd"
      refine ⟨a, rows, q, n, _, rfl, G, hn, by omega, ?_⟩
      walk_at "rd"
      refine iteT ?_
      walk_at "rd"
      exact k _ _ m (GStep.refl G) (by omega) hm
  | succ L ih =>
    have G_put_in := ih
    refine good_mk T 24 (d := d_put_in) (N := ["grove", "square", "x", "y", "leaf", "level", "half", "four", "at"]) (ps := ["grove", "square", "x", "y", "leaf"]) rfl rfl sc_put_in (fun _ _ _ _ _ _ us hl => match us, hl with | [_, _, _, _, _], _ => rfl) (fun vs H Q E h => ?_) (fun f cdv A outer σ0 H vs Q E hr h => ?_)
    · obtain ⟨a, rows, q, n, m, S, s, x, y, rfl, _⟩ := h; rfl
    · obtain ⟨a, rows, q, n, m, S, s, x, y, rfl, G, hn, hm, hL, h60, hx0, hx1, hy0, hy1, hlen, k⟩ := h
      refine ⟨_, (pss_cons (ps_set (i := 5) sc_put_in.nd rfl (Or.inl rfl) (pe_mgK K rfl (pv 0) (T.cls 9) (T.meth 25) G_Grove_level_of (hr.mono (by show _ ≤ 5 + L; omega)) (pa_cons (pv 1) pa_nil)))
      (pss_cons (ps_if (pt_cmpR op_eq (pv 5) pe_int (nomark _)) (pss_one (ps_ret (pv 4))) pss_nil)
      (pss_cons (ps_set (i := 6) sc_put_in.nd rfl (Or.inl rfl) (pe_op op_shl pe_int (pe_op op_sub (pv 5) pe_int)))
      (pss_cons (ps_set (i := 7) sc_put_in.nd rfl (Or.inl rfl) (pe_callTy (call_listK K rfl) (by rfl) (T.free 29) (by decide +kernel) (pa_cons (pe_mgK K rfl (pv 0) (T.cls 9) (T.meth 23) G_Grove_quarters (hr.mono (by show _ ≤ 5 + L; omega)) (pa_cons (pv 1) pa_nil)) pa_nil)))
      (pss_cons (ps_set (i := 8) sc_put_in.nd rfl (Or.inl rfl) (pe_op op_add (pe_op op_mulW pe_int (pe_op op_fdivW (pv 3) (pv 6))) (pe_op op_fdivW (pv 2) (pv 6))))
      (pss_cons (ps_asg (pe_cgK K rfl G_put_in (hr.mono (by show _ ≤ 5 + L; omega)) (T.glo 30) (pa_cons (pv 0) (pa_cons (pe_ix (ix_listK K rfl) (pv 7) (pv 8) (fun _ _ => rfl)) (pa_cons (pe_op op_mod (pv 2) (pv 6)) (pa_cons (pe_op op_mod (pv 3) (pv 6)) (pa_cons (pv 4) pa_nil)))))) (pg_sub (pv 7) (pv 8) set_list))
      (pss_one (ps_ret (pe_mgK K rfl (pv 0) (T.cls 9) (T.meth 13) G_Grove_knit (hr.mono (by show _ ≤ 5 + L; omega)) (pa_cons (pe_ix (ix_listK K rfl) (pv 7) pe_int (fun _ _ => rfl)) (pa_cons (pe_ix (ix_listK K rfl) (pv 7) pe_int (fun _ _ => rfl)) (pa_cons (pe_ix (ix_listK K rfl) (pv 7) pe_int (fun _ _ => rfl)) (pa_cons (pe_ix (ix_listK K rfl) (pv 7) pe_int (fun _ _ => rfl)) pa_nil))))))))))))), ?_⟩
      walk_at "rd"
      refine rd_methR G.ob (by rfl) ?_
      walk_at "rd"
      refine ⟨a, rows, q, n, _, rfl, G, hn, by omega, ?_⟩
      walk_at "rd"
      cases S with
      | leaf r =>
        refine iteT ?_
        walk_at "rd"
        exact k _ _ m (GStep.refl G) (by omega) hm
      | node A' B C' D =>
      have hl : (Sq.node A' B C' D).level = A'.level + 1 := rfl
      have wS := G.wf _ (List.mem_of_getElem? hn)
      obtain ⟨wa, wb, wc, wd, ee1, ee2, ee3⟩ := wS
      have wf_ : ∀ {Z : Sq} (u v : Int), Z.wf → (Z.put u v s).wf := fun u v => Sq.wf_put (G.wf _ (List.mem_of_getElem? hm)).1 (G.wf _ (List.mem_of_getElem? hm)).2 u v
      have lp := Sq.level_put s
      rw [decide_eq_false (by rw [hl]; omega)]
      walk_at "rd"
      have el : (((Sq.node A' B C' D).level : Nat) : Int) - 1 = (A'.level : Int) := by rw [hl]; omega
      rw [el]
      refine rd_I (by refine ⟨by omega, by omega, by decide⟩) ?_
      rw [shl_ok']
      walk_at "rd"
      refine rd_methR G.ob (by rfl) ?_
      walk_at "rd"
      refine ⟨a, rows, q, n, _, _, _, _, rfl, G, hn, by omega, fun t x1 x2 x3 x4 ht e1 e2 e3 e4 => ?_⟩
      walk_at "rd"
      refine ⟨t, _, rfl, .inr (SqT.of ht), fun p hp => ?_⟩
      have sp := same_upd (o := .lst [V.int (x1 : Int), V.int (x2 : Int), V.int (x3 : Int), V.int (x4 : Int)]) hp
      have Sp := (GStep.refl G).same sp
      have hpn := G.new_out hp
      have hL4 : (upd H p (.lst [V.int (x1 : Int), V.int (x2 : Int), V.int (x3 : Int), V.int (x4 : Int)])) p = some (.lst [V.int (x1 : Int), V.int (x2 : Int), V.int (x3 : Int), V.int (x4 : Int)]) := upd_same
      generalize upd H p (.lst [V.int (x1 : Int), V.int (x2 : Int), V.int (x3 : Int), V.int (x4 : Int)]) = H1 at Sp hL4 ⊢
      have h0 := Sq.two_pos A'.level
      have hh := (pow64' (i := A'.level) (by omega)).2
      have e2p := Sq.two_succ A'.level
      rw [hl, e2p] at hx1 hy1
      have G1 := Sp.gat
      rw [put_node] at k
      rw [hl] at k
      walk_at "rd"
      refine rd_fdiv h0 (by omega) ?_
      have by01 : y / 2 ^ A'.level = 0 ∨ y / 2 ^ A'.level = 1 := by
        rcases Int.lt_or_le y (2 ^ A'.level) with z | z
        · exact .inl (div_lo hy0 z).1
        · exact .inr (div_hi z hy1).1
      refine rd_I (small_mul (by decide) (by decide) (by omega) (by omega)) ?_
      walk_at "rd"
      refine rd_fdiv h0 (by omega) ?_
      walk_at "rd"
      by_cases cy : y < 2 ^ A'.level <;> by_cases cx : x < 2 ^ A'.level
      · rw [if_pos cy, if_pos cx] at k
        obtain ⟨dx1, dx2⟩ := div_lo hx0 cx
        obtain ⟨dy1, dy2⟩ := div_lo hy0 cy
        rw [dx1, dy1]
        refine rd_ixL (SqL.of hL4) (v := .int (x1 : Int)) rfl ?_
        walk_at "rd"
        refine rd_mod h0 ?_
        walk_at "rd"
        refine rd_mod h0 ?_
        walk_at "rd"
        rw [dx2, dy2]
        refine ⟨a, rows, q, x1, m, _, s, _, _, rfl, G1, e1, hm, by omega, by omega, by omega, by omega, by omega, by omega, hlen, fun H2 q2 r S2' l2 e6 => ?_⟩
        have S2 := Sp.trans S2'
        have o2 := (S2'.own hL4 hpn).1
        walk_at "rd"
        refine ⟨p, _, _, 0, rfl, rfl, o2, rfl, ?_⟩
        have G3 := S2.gat.upd (o := .lst [V.int (r : Int), V.int (x2 : Int), V.int (x3 : Int), V.int (x4 : Int)]) (fun u e => by rw [o2] at e; cases e; exact fun z => z) (S2'.own hL4 hpn).2
        have o3 : (upd H2 p (.lst [V.int (r : Int), V.int (x2 : Int), V.int (x3 : Int), V.int (x4 : Int)])) p = some (.lst [V.int (r : Int), V.int (x2 : Int), V.int (x3 : Int), V.int (x4 : Int)]) := upd_same
        have S3 : GStep (CG K) H a rows q (upd H2 p (.lst [V.int (r : Int), V.int (x2 : Int), V.int (x3 : Int), V.int (x4 : Int)])) rows q2 := ⟨G3, S2.pre, fun b o e nb => by
          rw [upd_ne (ne_of_none e hp)]
          exact S2.fr b o e nb, S2.new⟩
        walk_at "rd"
        refine rd_methR S3.gat.ob (by rfl) ?_
        walk_at "rd"
        refine rd_ixL (SqL.of o3) (v := .int (r : Int)) rfl ?_
        walk_at "rd"
        refine rd_ixL (SqL.of o3) (v := .int (x2 : Int)) rfl ?_
        walk_at "rd"
        refine rd_ixL (SqL.of o3) (v := .int (x3 : Int)) rfl ?_
        walk_at "rd"
        refine rd_ixL (SqL.of o3) (v := .int (x4 : Int)) rfl ?_
        walk_at "rd"
        refine ⟨a, rows, q2, _, _, _, _, r, x2, x3, x4, rfl, S3.gat, e6, pre_get S2.pre e2, pre_get S2.pre e3, pre_get S2.pre e4, ⟨wf_ x y wa, wb, wc, wd, by rw [lp]; exact ee1, by rw [lp]; exact ee2, by rw [lp]; exact ee3⟩, by rw [lp]; omega, by omega, fun H4 q4 r4 G4 p4 l4 f4 fr4 => ?_⟩
        exact k _ _ r4 (S3.m5 G4 p4 fr4) (by omega) f4
      · rw [if_pos cy, if_neg cx] at k
        obtain ⟨dx1, dx2⟩ := div_hi (Int.not_lt.mp cx) hx1
        obtain ⟨dy1, dy2⟩ := div_lo hy0 cy
        rw [dx1, dy1]
        refine rd_ixL (SqL.of hL4) (v := .int (x2 : Int)) rfl ?_
        walk_at "rd"
        refine rd_mod h0 ?_
        walk_at "rd"
        refine rd_mod h0 ?_
        walk_at "rd"
        rw [dx2, dy2]
        refine ⟨a, rows, q, x2, m, _, s, _, _, rfl, G1, e2, hm, by rw [ee1]; omega, by rw [ee1]; omega, by omega, by rw [ee1]; omega, by omega, by rw [ee1]; omega, hlen, fun H2 q2 r S2' l2 e6 => ?_⟩
        have S2 := Sp.trans S2'
        have o2 := (S2'.own hL4 hpn).1
        rw [ee1] at l2
        walk_at "rd"
        refine ⟨p, _, _, 1, rfl, rfl, o2, rfl, ?_⟩
        have G3 := S2.gat.upd (o := .lst [V.int (x1 : Int), V.int (r : Int), V.int (x3 : Int), V.int (x4 : Int)]) (fun u e => by rw [o2] at e; cases e; exact fun z => z) (S2'.own hL4 hpn).2
        have o3 : (upd H2 p (.lst [V.int (x1 : Int), V.int (r : Int), V.int (x3 : Int), V.int (x4 : Int)])) p = some (.lst [V.int (x1 : Int), V.int (r : Int), V.int (x3 : Int), V.int (x4 : Int)]) := upd_same
        have S3 : GStep (CG K) H a rows q (upd H2 p (.lst [V.int (x1 : Int), V.int (r : Int), V.int (x3 : Int), V.int (x4 : Int)])) rows q2 := ⟨G3, S2.pre, fun b o e nb => by
          rw [upd_ne (ne_of_none e hp)]
          exact S2.fr b o e nb, S2.new⟩
        walk_at "rd"
        refine rd_methR S3.gat.ob (by rfl) ?_
        walk_at "rd"
        refine rd_ixL (SqL.of o3) (v := .int (x1 : Int)) rfl ?_
        walk_at "rd"
        refine rd_ixL (SqL.of o3) (v := .int (r : Int)) rfl ?_
        walk_at "rd"
        refine rd_ixL (SqL.of o3) (v := .int (x3 : Int)) rfl ?_
        walk_at "rd"
        refine rd_ixL (SqL.of o3) (v := .int (x4 : Int)) rfl ?_
        walk_at "rd"
        refine ⟨a, rows, q2, _, _, _, _, x1, r, x3, x4, rfl, S3.gat, pre_get S2.pre e1, e6, pre_get S2.pre e3, pre_get S2.pre e4, ⟨wa, wf_ (x - 2 ^ A'.level) y wb, wc, wd, by rw [lp]; exact ee1, ee2, ee3⟩, by omega, by omega, fun H4 q4 r4 G4 p4 l4 f4 fr4 => ?_⟩
        exact k _ _ r4 (S3.m5 G4 p4 fr4) (by omega) f4
      · rw [if_neg cy, if_pos cx] at k
        obtain ⟨dx1, dx2⟩ := div_lo hx0 cx
        obtain ⟨dy1, dy2⟩ := div_hi (Int.not_lt.mp cy) hy1
        rw [dx1, dy1]
        refine rd_ixL (SqL.of hL4) (v := .int (x3 : Int)) rfl ?_
        walk_at "rd"
        refine rd_mod h0 ?_
        walk_at "rd"
        refine rd_mod h0 ?_
        walk_at "rd"
        rw [dx2, dy2]
        refine ⟨a, rows, q, x3, m, _, s, _, _, rfl, G1, e3, hm, by rw [ee2]; omega, by rw [ee2]; omega, by omega, by rw [ee2]; omega, by omega, by rw [ee2]; omega, hlen, fun H2 q2 r S2' l2 e6 => ?_⟩
        have S2 := Sp.trans S2'
        have o2 := (S2'.own hL4 hpn).1
        rw [ee2] at l2
        walk_at "rd"
        refine ⟨p, _, _, 2, rfl, rfl, o2, rfl, ?_⟩
        have G3 := S2.gat.upd (o := .lst [V.int (x1 : Int), V.int (x2 : Int), V.int (r : Int), V.int (x4 : Int)]) (fun u e => by rw [o2] at e; cases e; exact fun z => z) (S2'.own hL4 hpn).2
        have o3 : (upd H2 p (.lst [V.int (x1 : Int), V.int (x2 : Int), V.int (r : Int), V.int (x4 : Int)])) p = some (.lst [V.int (x1 : Int), V.int (x2 : Int), V.int (r : Int), V.int (x4 : Int)]) := upd_same
        have S3 : GStep (CG K) H a rows q (upd H2 p (.lst [V.int (x1 : Int), V.int (x2 : Int), V.int (r : Int), V.int (x4 : Int)])) rows q2 := ⟨G3, S2.pre, fun b o e nb => by
          rw [upd_ne (ne_of_none e hp)]
          exact S2.fr b o e nb, S2.new⟩
        walk_at "rd"
        refine rd_methR S3.gat.ob (by rfl) ?_
        walk_at "rd"
        refine rd_ixL (SqL.of o3) (v := .int (x1 : Int)) rfl ?_
        walk_at "rd"
        refine rd_ixL (SqL.of o3) (v := .int (x2 : Int)) rfl ?_
        walk_at "rd"
        refine rd_ixL (SqL.of o3) (v := .int (r : Int)) rfl ?_
        walk_at "rd"
        refine rd_ixL (SqL.of o3) (v := .int (x4 : Int)) rfl ?_
        walk_at "rd"
        refine ⟨a, rows, q2, _, _, _, _, x1, x2, r, x4, rfl, S3.gat, pre_get S2.pre e1, pre_get S2.pre e2, e6, pre_get S2.pre e4, ⟨wa, wb, wf_ x (y - 2 ^ A'.level) wc, wd, ee1, by rw [lp]; exact ee2, ee3⟩, by omega, by omega, fun H4 q4 r4 G4 p4 l4 f4 fr4 => ?_⟩
        exact k _ _ r4 (S3.m5 G4 p4 fr4) (by omega) f4
      · rw [if_neg cy, if_neg cx] at k
        obtain ⟨dx1, dx2⟩ := div_hi (Int.not_lt.mp cx) hx1
        obtain ⟨dy1, dy2⟩ := div_hi (Int.not_lt.mp cy) hy1
        rw [dx1, dy1]
        refine rd_ixL (SqL.of hL4) (v := .int (x4 : Int)) rfl ?_
        walk_at "rd"
        refine rd_mod h0 ?_
        walk_at "rd"
        refine rd_mod h0 ?_
        walk_at "rd"
        rw [dx2, dy2]
        refine ⟨a, rows, q, x4, m, _, s, _, _, rfl, G1, e4, hm, by rw [ee3]; omega, by rw [ee3]; omega, by omega, by rw [ee3]; omega, by omega, by rw [ee3]; omega, hlen, fun H2 q2 r S2' l2 e6 => ?_⟩
        have S2 := Sp.trans S2'
        have o2 := (S2'.own hL4 hpn).1
        rw [ee3] at l2
        walk_at "rd"
        refine ⟨p, _, _, 3, rfl, rfl, o2, rfl, ?_⟩
        have G3 := S2.gat.upd (o := .lst [V.int (x1 : Int), V.int (x2 : Int), V.int (x3 : Int), V.int (r : Int)]) (fun u e => by rw [o2] at e; cases e; exact fun z => z) (S2'.own hL4 hpn).2
        have o3 : (upd H2 p (.lst [V.int (x1 : Int), V.int (x2 : Int), V.int (x3 : Int), V.int (r : Int)])) p = some (.lst [V.int (x1 : Int), V.int (x2 : Int), V.int (x3 : Int), V.int (r : Int)]) := upd_same
        have S3 : GStep (CG K) H a rows q (upd H2 p (.lst [V.int (x1 : Int), V.int (x2 : Int), V.int (x3 : Int), V.int (r : Int)])) rows q2 := ⟨G3, S2.pre, fun b o e nb => by
          rw [upd_ne (ne_of_none e hp)]
          exact S2.fr b o e nb, S2.new⟩
        walk_at "rd"
        refine rd_methR S3.gat.ob (by rfl) ?_
        walk_at "rd"
        refine rd_ixL (SqL.of o3) (v := .int (x1 : Int)) rfl ?_
        walk_at "rd"
        refine rd_ixL (SqL.of o3) (v := .int (x2 : Int)) rfl ?_
        walk_at "rd"
        refine rd_ixL (SqL.of o3) (v := .int (x3 : Int)) rfl ?_
        walk_at "rd"
        refine rd_ixL (SqL.of o3) (v := .int (r : Int)) rfl ?_
        walk_at "rd"
        refine ⟨a, rows, q2, _, _, _, _, x1, x2, x3, r, rfl, S3.gat, pre_get S2.pre e1, pre_get S2.pre e2, pre_get S2.pre e3, e6, ⟨wa, wb, wc, wf_ (x - 2 ^ A'.level) (y - 2 ^ A'.level) wd, ee1, ee2, by rw [lp]; exact ee3⟩, by omega, by omega, fun H4 q4 r4 G4 p4 l4 f4 fr4 => ?_⟩
        exact k _ _ r4 (S3.m5 G4 p4 fr4) (by omega) f4
end
end JF

/-! ### fields: planted -/
namespace JF
open PySem PySem.Spec PyProof.Rows L2
theorem dec_use {c : TT} {σ : L2.St} {H : Hp} {QB : Bool → Hp → Prop} (b : Bool) (h : ∀ QB : Bool → Hp → Prop, QB b H → c σ H QB) (q : QB b H) : c σ H QB := h _ q
theorem half_two {S : Sq} (h : 1 ≤ S.level) : (2 : Int) ^ S.level = 2 * S.half := by
  have e : S.level = (S.level - 1) + 1 := by omega
  rw [e]; exact Sq.two_succ _
theorem val_put {W : Sq} (w : W.wf) (h : 1 ≤ W.level) {x y s : Int} (hx0 : -W.half ≤ x) (hx1 : x < W.half) (hy0 : -W.half ≤ y) (hy1 : y < W.half) (u v : Int) : (W.put (x + W.half) (y + W.half) s).val u v = if u = x ∧ v = y then s else W.val u v := by
  have e := half_two h
  have eh : (W.put (x + W.half) (y + W.half) s).half = W.half := by unfold Sq.half; rw [Sq.level_put]
  unfold Sq.val
  rw [eh]
  by_cases z : -W.half ≤ u ∧ u < W.half ∧ -W.half ≤ v ∧ v < W.half
  · rw [if_pos z, if_pos z, Sq.get_put w (by omega) (by omega) (by omega) (by omega) (by omega) (by omega) (by omega) (by omega)]
    by_cases y' : u = x ∧ v = y
    · rw [if_pos y', if_pos (by omega)]
    · rw [if_neg y', if_neg (by omega)]
  · rw [if_neg z, if_neg z, if_neg (by omega)]
section
variable {P : Program} {w : World} {K : PySem.W.Frag} {mg : Str → Option Value} {base : Heap}
def sp_planted (C : Addr) : Sp := fun vs H Q _ => ∃ (a : GA) (rows : List (Int × Addr)) (q : List Sq) (n : Nat) (S : Sq) (x y s : Int), vs = [.ref a.g, .int (n : Int), .int x, .int y, .int s] ∧ GAt C H a rows q ∧ q[n]? = some S ∧ 1 ≤ S.level ∧ S.level ≤ 41 ∧ InGround x y ∧ 0 ≤ s ∧ s ≤ 7 ∧
  q.length + 10000 < 16000000 ∧ ∀ H' rows' q' (m : Nat) (T : Sq), GStep C H a rows q H' rows' q' → q'.length ≤ q.length + 4000 → q'[m]? = some T → 1 ≤ T.level → T.level ≤ 41 → T.Least → (∀ u v, T.val u v = if u = x ∧ v = y then s else S.val u v) → Q (.int (m : Int)) H'
theorem mp_planted {C : Addr} : MonP (sp_planted C) := fun vs H Q Q' E h ⟨a, rows, q, n, S, x, y, s, x1, x2, x3, x4, x5, x6, x7, x8, x9, k⟩ => ⟨a, rows, q, n, S, x, y, s, x1, x2, x3, x4, x5, x6, x7, x8, x9, fun H' r' q' m T g l e f1 f2 f3 f4 => h _ _ (k H' r' q' m T g l e f1 f2 f3 f4)⟩
set_option maxHeartbeats 8000000 in
theorem ok_planted (T : Env fa fn K mg) : Good P w K mg base CX0 48 ("planted", none) ["grove", "field", "x", "y", "state"] (sp_planted (CG K)) := by
  have G_in_ground := ok_in_ground (P := P) (w := w) (base := base) T
  have G_Grove_leaf := ok_leaf (P := P) (w := w) (base := base) T
  have G_Grove_level_of := ok_level_of (P := P) (w := w) (base := base) T
  have G_widened := ok_widened (P := P) (w := w) (base := base) T
  have G_trimmed := ok_trimmed (P := P) (w := w) (base := base) T
  have G_put_in := ok_put_in (P := P) (w := w) (base := base) T 42
  refine good_mk T 25 (d := d_planted) (N := ["grove", "field", "x", "y", "state", "leaf", "half"]) (ps := ["grove", "field", "x", "y", "state"]) rfl rfl sc_planted (fun _ _ _ _ _ _ us hl => match us, hl with | [_, _, _, _, _], _ => rfl) (fun vs H Q E h => ?_) (fun f cdv A outer σ0 H vs Q E hr h => ?_)
  · obtain ⟨a, rows, q, n, S, x, y, s, rfl, _⟩ := h; rfl
  · obtain ⟨a, rows, q, n, S, x, y, s, rfl, G, hn, h1, h41, hg, h0, h7, hlen, k⟩ := h
    refine ⟨_, (pss_cons (ps_if (pt_not (pt_val (pe_cgK K rfl G_in_ground (hr.mono (by decide)) (T.glo 31) (pa_cons (pv 2) (pa_cons (pv 3) pa_nil))))) pss_never pss_nil)
      (pss_cons (ps_set (i := 5) sc_planted.nd rfl (Or.inl rfl) (pe_mgK K rfl (pv 0) (T.cls 9) (T.meth 32) G_Grove_leaf (hr.mono (by decide)) (pa_cons (pv 4) pa_nil)))
      (pss_cons (ps_set (i := 6) sc_planted.nd rfl (Or.inl rfl) (pe_op op_shl pe_int (pe_op op_sub (pe_mgK K rfl (pv 0) (T.cls 9) (T.meth 25) G_Grove_level_of (hr.mono (by decide)) (pa_cons (pv 1) pa_nil)) pe_int)))
      (pss_cons (ps_while PassesOwn.never (PW.pt (pw_or (pt_not (pt_chain op_le op_lt (pe_un un_neg (pv 6)) (pv 2) (pv 6))) (pw_or1 (pt_not (pt_chain op_le op_lt (pe_un un_neg (pv 6)) (pv 3) (pv 6)))))) (pss_cons (ps_set (i := 1) sc_planted.nd rfl (Or.inl rfl) (pe_cgK K rfl G_widened (hr.mono (by decide)) (T.glo 33) (pa_cons (pv 0) (pa_cons (pv 1) pa_nil))))
      (pss_one (ps_set (i := 6) sc_planted.nd rfl (Or.inl rfl) (pe_op op_mulW pe_int (pv 6))))))
      (pss_one (ps_ret (pe_cgK K rfl G_trimmed (hr.mono (by decide)) (T.glo 34) (pa_cons (pv 0) (pa_cons (pe_cgK K rfl G_put_in (hr.mono (by decide)) (T.glo 30) (pa_cons (pv 0) (pa_cons (pv 1) (pa_cons (pe_op op_add (pv 2) (pv 6)) (pa_cons (pe_op op_add (pv 3) (pv 6)) (pa_cons (pv 5) pa_nil)))))) pa_nil))))))))), ?_⟩
    walk_at "rd"
    refine ⟨x, y, rfl, hg, ?_⟩
    walk_at "rd"
    refine rd_methR G.ob (by rfl) ?_
    walk_at "rd"
    refine ⟨a, rows, q, s, rfl, G, h0, h7, by omega, fun H1 q1 ml G1 p1 l1 e1 fr1 => ?_⟩
    have S1 := (GStep.refl G).m5 G1 p1 fr1
    walk_at "rd"
    refine rd_methR G1.ob (by rfl) ?_
    walk_at "rd"
    refine ⟨a, rows, q1, n, _, rfl, G1, pre_get p1 hn, by omega, ?_⟩
    walk_at "rd"
    have el : ((S.level : Nat) : Int) - 1 = ((S.level - 1 : Nat) : Int) := by omega
    rw [el]
    refine rd_I (by refine ⟨by omega, by omega, by decide⟩) ?_
    rw [shl_ok']
    walk_at "rd"
    refine while_m (fun m σ H' => ∃ (r2 : List (Int × Addr)) (q2 : List Sq) (n2 : Nat) (W : Sq), σ = [some (.ref a.g), some (.int (n2 : Int)), some (.int x), some (.int y), some (.int s), some (.int (ml : Int)), some (.int W.half)] ∧ GStep (CG K) H a rows q H' r2 q2 ∧ q1 <+: q2 ∧ q2[n2]? = some W ∧
      m + W.level = 41 ∧ 1 ≤ W.level ∧ (∀ u v, W.val u v = S.val u v) ∧ q2.length ≤ q.length + 1 + 60 * W.level) (41 - S.level) ⟨rows, q1, n, S, rfl, S1, List.prefix_refl _, pre_get p1 hn, by omega, h1, fun _ _ => rfl, by omega⟩ ?_
    rintro m σ H2 ⟨r2, q2, n2, W, rfl, S2, p12, hn2, hm, hW1, hval, hq2⟩
    have wW := S2.gat.wf _ (List.mem_of_getElem? hn2)
    have hp : 0 < W.half := Sq.two_pos _
    have h64 := (pow64' (i := W.level - 1) (by omega)).2
    have h64' : W.half < 2 ^ 64 := h64
    refine dec_use (!decide (-W.half ≤ x ∧ x < W.half ∧ -W.half ≤ y ∧ y < W.half)) (fun QB hq => ?_) ?_
    · walk_at "rd"
      by_cases c1 : -W.half ≤ x
      rotate_left
      · rw [decide_eq_false (by omega)] at hq
        rw [decide_eq_false c1]; walk_at "rd"; exact hq
      rw [decide_eq_true c1]
      walk_at "rd"
      by_cases c2 : x < W.half
      rotate_left
      · rw [decide_eq_false (by omega)] at hq
        rw [decide_eq_false c2]; walk_at "rd"; exact hq
      rw [decide_eq_true c2]
      walk_at "rd"
      by_cases c3 : -W.half ≤ y
      rotate_left
      · rw [decide_eq_false (by omega)] at hq
        rw [decide_eq_false c3]; walk_at "rd"; exact hq
      rw [decide_eq_true c3]
      walk_at "rd"
      by_cases c4 : y < W.half
      rotate_left
      · rw [decide_eq_false (by omega)] at hq
        rw [decide_eq_false c4]; exact hq
      rw [decide_eq_true ⟨c1, c2, c3, c4⟩] at hq
      rw [decide_eq_true c4]
      exact hq
    · refine ite_nd (fun hin => ?_) (fun hin => ?_)
      · have hlt : W.level ≤ 40 := by
          apply Decidable.byContradiction
          intro z
          have e : W.level = 41 := by omega
          have eh : W.half = 1099511627776 := by unfold Sq.half; rw [e]; decide
          obtain ⟨g1, g2, g3, g4⟩ := hg
          exact hin (by rw [eh]; omega)
        refine ⟨fun σ' H' => ∃ m', m' < m ∧ _, fun _ _ h => h, ?_⟩
        walk_at "rd"
        refine ⟨a, r2, q2, n2, W, rfl, S2.gat, hn2, hW1, by omega, by omega, fun H3 r3 q3 m3 S3 l3 e3 => ?_⟩
        walk_at "rd"
        refine rd_I (small_mul (by decide) (by decide) (by omega) (by omega)) ?_
        walk_at "rd"
        have lw := Sq.level_wide hW1
        have hw2 : W.wide.half = 2 * W.half := by
          unfold Sq.half
          rw [lw]
          have e : W.level + 1 - 1 = (W.level - 1) + 1 := by omega
          rw [e]; exact Sq.two_succ _
        exact ⟨m - 1, by omega, r3, q3, m3, W.wide, by rw [hw2]; rfl, S2.trans S3, p12.trans S3.pre, e3, by omega, by omega, fun u v => (Sq.val_wide wW hW1 u v).trans (hval u v), by omega⟩
      · obtain ⟨c1, c2, c3, c4⟩ := hin
        have e2 := half_two hW1
        walk_at "rd"
        refine ⟨a, r2, q2, n2, ml, W, s, _, _, rfl, S2.gat, hn2, pre_get p12 e1, by omega, by omega, by omega, by omega, by omega, by omega, by omega, fun H3 q3 m3 S3 l3 e3 => ?_⟩
        walk_at "rd"
        have lp := Sq.level_put s W (x + W.half) (y + W.half)
        have wp := Sq.wf_put h0 h7 (x + W.half) (y + W.half) wW
        refine ⟨a, r2, q3, m3, _, rfl, S3.gat, e3, by omega, by omega, by omega, fun H4 q4 m4 S4 l4 e4 => ?_⟩
        obtain ⟨g1, g2, g3, g4, g5⟩ := Sq.trimN_ok (W.put (x + W.half) (y + W.half) s).level wp (by omega) (Nat.le_refl _)
        refine k _ _ _ m4 _ ((S2.trans S3).trans S4) (by omega) e4 g2 (Nat.le_trans g3 (by omega)) g4 fun u v => ?_
        rw [← hval u v]
        exact (g5 u v).trans (val_put wW hW1 c1 c2 c3 c4 u v)
end
end JF

/-! ### fields: field_of -/
namespace JF
open PySem PySem.Spec PyProof.Rows L2
abbrev Cell3 := Int × Int × Int
def c3 (c : Cell3) : List Int := [c.1, c.2.1, c.2.2]
/-- what a list of cells says of a place, the later one of two -/
def layC (f : Int → Int → Int) : List Cell3 → Int → Int → Int
  | [], u, v => f u v
  | c :: cs, u, v => layC (fun u v => if u = c.1 ∧ v = c.2.1 then c.2.2 else f u v) cs u v
theorem layC_snoc : ∀ (cs : List Cell3) (f : Int → Int → Int) (c : Cell3) (u v : Int), layC f (cs ++ [c]) u v = if u = c.1 ∧ v = c.2.1 then c.2.2 else layC f cs u v
  | [], f, c, u, v => rfl
  | x :: cs, f, c, u, v => layC_snoc cs _ c u v
theorem TR.at {H : Hp} : ∀ {rs : List Addr} {xs : List (List Int)} {i : Nat} {x : List Int}, TR H rs xs → xs[i]? = some x → ∃ r, rs[i]? = some r ∧ H r = some (.tup (x.map V.int))
  | [], [], _, _, _, e => by simp at e
  | r :: rs, x :: xs, 0, _, h, e => by
    simp only [List.getElem?_cons_zero, Option.some.injEq] at e
    subst e
    exact ⟨r, rfl, h.1⟩
  | r :: rs, x :: xs, i + 1, _, h, e => by
    simp only [List.getElem?_cons_succ] at e ⊢
    exact TR.at h.2 e
  | [], _ :: _, _, _, h, _ => h.elim
  | _ :: _, [], _, _, h, _ => h.elim
section
variable {P : Program} {w : World} {K : PySem.W.Frag} {mg : Str → Option Value} {base : Heap}
/-- the cells lie in tuples; the list stands beside the grove -/
def sp_field_of (C : Addr) : Sp := fun vs H Q _ => ∃ (a : GA) (rows : List (Int × Addr)) (q : List Sq) (p : Addr) (rs : List Addr) (cs : List Cell3), vs = [.ref a.g, .ref p] ∧ GAt C H a rows q ∧ H p = some (.lst (rs.map V.ref)) ∧ p ∉ a.muts rows ∧ TR H rs (cs.map c3) ∧ (∀ c ∈ cs, InGround c.1 c.2.1 ∧ 0 ≤ c.2.2 ∧ c.2.2 ≤ 7) ∧
  cs.length ≤ 500 ∧ q.length + 4000 * cs.length + 20000 < 16000000 ∧ ∀ H' rows' q' (m : Nat) (T : Sq), GStep C H a rows q H' rows' q' → q'.length ≤ q.length + 4000 * cs.length + 10 → q'[m]? = some T → 1 ≤ T.level → T.level ≤ 41 → T.Least → (∀ u v, T.val u v = layC (fun _ _ => 0) cs u v) → Q (.int (m : Int)) H'
theorem mp_field_of {C : Addr} : MonP (sp_field_of C) := fun vs H Q Q' E h ⟨a, rows, q, p, rs, cs, x1, x2, x3, x4, x5, x6, x7, x8, k⟩ => ⟨a, rows, q, p, rs, cs, x1, x2, x3, x4, x5, x6, x7, x8, fun H' r' q' m T g l e f1 f2 f3 f4 => h _ _ (k H' r' q' m T g l e f1 f2 f3 f4)⟩
set_option maxHeartbeats 8000000 in
theorem ok_field_of (T : Env fa fn K mg) : Good P w K mg base CX0 49 ("field_of", none) ["grove", "cells"] (sp_field_of (CG K)) := by
  have G_Grove_even := ok_even (P := P) (w := w) (base := base) T
  have G_planted := ok_planted (P := P) (w := w) (base := base) T
  refine good_mk T 26 (d := d_field_of) (N := ["grove", "cells", "field", "x", "y", "state"]) (ps := ["grove", "cells"]) rfl rfl sc_field_of (fun _ _ _ _ _ _ us hl => match us, hl with | [_, _], _ => rfl) (fun vs H Q E h => ?_) (fun f cdv A outer σ0 H vs Q E hr h => ?_)
  · obtain ⟨a, rows, q, p, rs, cs, rfl, _⟩ := h; rfl
  · obtain ⟨a, rows, q, p, rs, cs, rfl, G, hp, hpn, hT, hc, hcl, hlen, k⟩ := h
    have hrl := hT.len
    rw [List.length_map] at hrl
    refine ⟨_, (pss_cons (ps_set (i := 2) sc_field_of.nd rfl (Or.inl rfl) (pe_mgK K rfl (pv 0) (T.cls 9) (T.meth 20) G_Grove_even (hr.mono (by decide)) (pa_cons pe_int (pa_cons pe_int pa_nil))))
      (pss_cons (ps_for PassesOwn.never rfl (pi_listK K rfl (pv 1)) (pg_tup rfl (pgs_cons (pg_name (i := 3) sc_field_of.nd rfl (Or.inl rfl)) (pgs_cons (pg_name (i := 4) sc_field_of.nd rfl (Or.inl rfl)) (pgs_cons (pg_name (i := 5) sc_field_of.nd rfl (Or.inl rfl)) pgs_nil)))) (pss_one (ps_set (i := 2) sc_field_of.nd rfl (Or.inl rfl) (pe_cgK K rfl G_planted (hr.mono (by decide)) (T.glo 36) (pa_cons (pv 0) (pa_cons (pv 2) (pa_cons (pv 3) (pa_cons (pv 4) (pa_cons (pv 5) pa_nil)))))))))
      (pss_one (ps_ret (pv 2))))), ?_⟩
    walk_at "rd"
    refine rd_methR G.ob (by rfl) ?_
    walk_at "rd"
    refine ⟨a, rows, q, 1, 0, rfl, G, by omega, by decide, by decide, by omega, fun H1 r1 q1 m1 S1 l1 e1 => ?_⟩
    have o1 := S1.own hp hpn
    walk_at "rd"
    refine ⟨p, rfl, ⟨_, SqL.of o1.1⟩, ?_⟩
    refine for_it (walk_list (xs := rs.map V.ref)) (fun i σ H' => ∃ (r2 : List (Int × Addr)) (q2 : List Sq) (m2 : Nat) (T2 : Sq) (x3 x4 x5 : Option V), σ = [some (.ref a.g), some (.ref p), some (.int (m2 : Int)), x3, x4, x5] ∧ GStep (CG K) H a rows q H' r2 q2 ∧ q2.length ≤ q.length + 4000 * i + 10 ∧
      q2[m2]? = some T2 ∧ 1 ≤ T2.level ∧ T2.level ≤ 41 ∧ T2.Least ∧ ∀ u v, T2.val u v = layC (fun _ _ => 0) (cs.take i) u v) ?_ ?_ ?_ ?_
    · exact ⟨r1, q1, m1, Sq.even 1 0, none, none, none, rfl, S1, by omega, e1, by decide, by decide, .inl rfl, fun u v => Sq.val_even0 1 u v⟩
    · rintro i σ H' _ ⟨r2, q2, m2, T2, x3, x4, x5, rfl, S2, _⟩
      exact SqL.of (S2.own hp hpn).1
    · rintro i x σ Ha Hb hi ⟨r2, q2, m2, T2, x3, x4, x5, rfl, S2, l2, e2, g1, g2, g3, g4⟩ ⟨rfl, hx⟩
      have hi1 : i < rs.length := by rw [List.length_map] at hi; exact hi
      have hi2 : i < cs.length := by omega
      rw [List.getElem?_map, at_get hi1] at hx
      cases hx
      obtain ⟨x, hx1, hx2⟩ := hT.get (at_get hi1)
      rw [List.getElem?_map, at_get hi2] at hx1
      cases hx1
      have ht := (S2.tup G) _ _ hx2
      have hcc := hc cs[i] (List.getElem_mem hi2)
      generalize hce : cs[i] = c at ht hcc
      obtain ⟨cx, cy, cz⟩ := c
      have ht' : Hb rs[i] = some (.tup [.int cx, .int cy, .int cz]) := ht
      walk_at "rd"
      refine ⟨a, r2, q2, m2, T2, cx, cy, cz, rfl, S2.gat, e2, g1, g2, hcc.1, hcc.2.1, hcc.2.2, by omega, fun H3 r3 q3 m3 T3 S3 l3 e3 f1 f2 f3 f4 => ?_⟩
      walk_at "rd"
      refine ⟨r3, q3, m3, T3, _, _, _, rfl, S2.trans S3, by omega, e3, f1, f2, f3, fun u v => ?_⟩
      have et : cs.take (i + 1) = cs.take i ++ [(cx, cy, cz)] := take_snoc (by rw [at_get hi2, hce])
      rw [et, layC_snoc, f4 u v, g4 u v]
    · rintro σ H' ⟨r2, q2, m2, T2, x3, x4, x5, rfl, S2, l2, e2, g1, g2, g3, g4⟩
      rw [List.length_map] at l2 g4
      walk_at "rd"
      refine k _ _ _ m2 T2 S2 (by omega) e2 g1 g2 g3 fun u v => ?_
      rw [g4 u v, hrl, List.take_length]
end
end JF

/-! ### fields: what is trimmed, the least level -/
namespace JF
open PySem PySem.Spec PyProof.Rows L2
/-! #### the plain law -/
theorem lives_wide {S : Sq} (h : 1 ≤ S.level) : S.wide.lives = S.lives := by
  obtain ⟨a, b, c, d, rfl⟩ := Sq.node_of h
  have e := (even_none a.level).1
  show (_ : Int) = a.lives + b.lives + c.lives + d.lives
  simp only [Sq.wide, Sq.lives, e]
  omega
theorem trim_wide {S : Sq} (w : S.wf) (h : 1 ≤ S.level) : S.wide.trim = S.trim := by
  have hm : S.wide.mid = S := by
    obtain ⟨a, b, c, d, rfl⟩ := Sq.node_of h
    rfl
  have e := Sq.trim_mid (Sq.wf_wide w) (by rw [Sq.level_wide h]; omega) (by rw [hm, lives_wide h]; omega)
  rw [hm] at e
  exact e
theorem lives_of_get : ∀ {S : Sq}, S.wf → (∀ x y, 0 ≤ x → x < 2 ^ S.level → 0 ≤ y → y < 2 ^ S.level → S.get x y = 0) → S.lives = 0
  | .leaf s, _, h => by
    have e : s = 0 := h 0 0 (by decide) (by show (0 : Int) < 1; decide) (by decide) (by show (0 : Int) < 1; decide)
    subst e; rfl
  | .node a b c d, ⟨wa, wb, wc, wd, e1, e2, e3⟩, h => by
    have el : (2 : Int) ^ (Sq.node a b c d).level = 2 * 2 ^ a.level := Sq.two_succ _
    rw [el] at h
    have hp := Sq.two_pos a.level
    have ha := lives_of_get wa fun x y h1 h2 h3 h4 => by
      have z := h x y h1 (by omega) h3 (by omega)
      rw [get_node, if_pos h4, if_pos h2] at z
      exact z
    have hb := lives_of_get wb fun x y h1 h2 h3 h4 => by
      rw [e1] at h2 h4
      have z := h (x + 2 ^ a.level) y (by omega) (by omega) h3 (by omega)
      rw [get_node, if_pos h4, if_neg (by omega), Int.add_sub_cancel] at z
      exact z
    have hc := lives_of_get wc fun x y h1 h2 h3 h4 => by
      rw [e2] at h2 h4
      have z := h x (y + 2 ^ a.level) h1 (by omega) (by omega) (by omega)
      rw [get_node, if_neg (by omega), if_pos h2, Int.add_sub_cancel] at z
      exact z
    have hd := lives_of_get wd fun x y h1 h2 h3 h4 => by
      rw [e3] at h2 h4
      have z := h (x + 2 ^ a.level) (y + 2 ^ a.level) (by omega) (by omega) (by omega) (by omega)
      rw [get_node, if_neg (by omega), if_neg (by omega), Int.add_sub_cancel, Int.add_sub_cancel] at z
      exact z
    show a.lives + b.lives + c.lives + d.lives = 0
    omega
theorem two_le (n : Nat) : ∀ k : Nat, (2 : Int) ^ n ≤ 2 ^ (n + k)
  | 0 => Int.le_refl _
  | k + 1 => by
    have h := two_le n k
    have e : (2 : Int) ^ (n + (k + 1)) = 2 * 2 ^ (n + k) := Sq.two_succ (n + k)
    have p := Sq.two_pos (n + k)
    omega
theorem two_mono {n m : Nat} (h : n ≤ m) : (2 : Int) ^ n ≤ 2 ^ m := by
  have e := two_le n (m - n)
  rwa [Nat.add_sub_cancel' h] at e
def InL (r : Nat) (x y : Int) : Prop := -(2 ^ (r - 1)) ≤ x ∧ x < 2 ^ (r - 1) ∧ -(2 ^ (r - 1)) ≤ y ∧ y < 2 ^ (r - 1)
instance (r : Nat) (x y : Int) : Decidable (InL r x y) := by unfold InL; infer_instance
theorem InL.up {r : Nat} {x y : Int} (h : InL r x y) (h1 : 1 ≤ r) : InL (r + 1) x y := by
  have e : (2 : Int) ^ (r + 1 - 1) = 2 * 2 ^ (r - 1) := by
    have e : r + 1 - 1 = (r - 1) + 1 := by omega
    rw [e]; exact Sq.two_succ _
  have hp := Sq.two_pos (r - 1)
  unfold InL at *
  rw [e]
  omega
theorem InL.mono {r : Nat} {x y : Int} (h : InL r x y) (h1 : 1 ≤ r) : ∀ k, InL (r + k) x y
  | 0 => h
  | k + 1 => (InL.mono h h1 k).up (by omega)
theorem val_in {S : Sq} {x y : Int} (h : S.val x y ≠ 0) : InL S.level x y := by
  apply Decidable.byContradiction
  intro z
  apply h
  unfold Sq.val
  exact if_neg z
theorem least_out {S : Sq} (w : S.wf) (h2 : 2 ≤ S.level) (hl : S.mid.lives < S.lives) : ∃ x y, S.val x y ≠ 0 ∧ ¬ InL (S.level - 1) x y := by
  apply Classical.byContradiction
  intro hn
  have hz : ∀ x y, ¬ InL (S.level - 1) x y → S.val x y = 0 := fun x y z => Classical.byContradiction fun y' => hn ⟨x, y, y', z⟩
  obtain ⟨a1, a2, a3, a4, b1, b2, b3, b4, c1, c2, c3, c4, d1, d2, d3, d4, rfl⟩ := Sq.mid_form w h2
  obtain ⟨wa, wb, wc, wd, e1, e2, e3⟩ := w
  simp only [Sq.wf] at wa wb wc wd
  simp only [Sq.level] at e1 e2 e3
  have lv : (Sq.node (Sq.node a1 a2 a3 a4) (Sq.node b1 b2 b3 b4) (Sq.node c1 c2 c3 c4) (Sq.node d1 d2 d3 d4)).level = a1.level + 1 + 1 := rfl
  have h0 := Sq.two_pos a1.level
  have e2' := Sq.two_succ a1.level
  have hlf : (Sq.node (Sq.node a1 a2 a3 a4) (Sq.node b1 b2 b3 b4) (Sq.node c1 c2 c3 c4) (Sq.node d1 d2 d3 d4)).half = 2 * 2 ^ a1.level := e2'
  have lb : b1.level = a1.level := by omega
  have lc : c1.level = a1.level := by omega
  have ld : d1.level = a1.level := by omega
  -- the cell at an offset
  have key : ∀ X Y : Int, 0 ≤ X → X < 4 * 2 ^ a1.level → 0 ≤ Y → Y < 4 * 2 ^ a1.level → ¬ (2 ^ a1.level ≤ X ∧ X < 3 * 2 ^ a1.level ∧ 2 ^ a1.level ≤ Y ∧ Y < 3 * 2 ^ a1.level) →
      (Sq.node (Sq.node a1 a2 a3 a4) (Sq.node b1 b2 b3 b4) (Sq.node c1 c2 c3 c4) (Sq.node d1 d2 d3 d4)).get X Y = 0 := fun X Y h1 h2 h3 h4 h5 => by
    have z := hz (X - 2 * 2 ^ a1.level) (Y - 2 * 2 ^ a1.level) (by
      unfold InL
      have e : a1.level + 1 + 1 - 1 - 1 = a1.level := by omega
      rw [lv, e]
      omega)
    unfold Sq.val at z
    rw [hlf, if_pos (by omega), Int.sub_add_cancel, Int.sub_add_cancel] at z
    exact z
  simp only [get_node, Sq.level, lb, lc, ld, e2'] at key
  have za1 := lives_of_get wa.1 fun x y p1 p2 p3 p4 => by
    have z := key x y p1 (by omega) p3 (by omega) (by omega)
    rwa [if_pos (by omega), if_pos (by omega), if_pos (by omega), if_pos (by omega)] at z
  have za2 := lives_of_get wa.2.1 fun x y p1 p2 p3 p4 => by
    have l2 : a2.level = a1.level := by omega
    rw [l2] at p2 p4
    have z := key (x + 2 ^ a1.level) y (by omega) (by omega) p3 (by omega) (by omega)
    rwa [if_pos (by omega), if_pos (by omega), if_pos (by omega), if_neg (by omega), Int.add_sub_cancel] at z
  have za3 := lives_of_get wa.2.2.1 fun x y p1 p2 p3 p4 => by
    have l2 : a3.level = a1.level := by omega
    rw [l2] at p2 p4
    have z := key x (y + 2 ^ a1.level) (by omega) (by omega) (by omega) (by omega) (by omega)
    rwa [if_pos (by omega), if_pos (by omega), if_neg (by omega), if_pos (by omega), Int.add_sub_cancel] at z
  have zb1 := lives_of_get wb.1 fun x y p1 p2 p3 p4 => by
    rw [lb] at p2 p4
    have z := key (x + 2 * 2 ^ a1.level) y (by omega) (by omega) p3 (by omega) (by omega)
    rwa [if_pos (by omega), if_neg (by omega), if_pos (by omega), if_pos (by omega), Int.add_sub_cancel] at z
  have zb2 := lives_of_get wb.2.1 fun x y p1 p2 p3 p4 => by
    have l2 : b2.level = a1.level := by omega
    rw [l2] at p2 p4
    have z := key (x + 3 * 2 ^ a1.level) y (by omega) (by omega) p3 (by omega) (by omega)
    rw [if_pos (by omega), if_neg (by omega), if_pos (by omega), if_neg (by omega)] at z
    have e : x + 3 * 2 ^ a1.level - 2 * 2 ^ a1.level - 2 ^ a1.level = x := by omega
    rwa [e] at z
  have zb4 := lives_of_get wb.2.2.2.1 fun x y p1 p2 p3 p4 => by
    have l2 : b4.level = a1.level := by omega
    rw [l2] at p2 p4
    have z := key (x + 3 * 2 ^ a1.level) (y + 2 ^ a1.level) (by omega) (by omega) (by omega) (by omega) (by omega)
    rw [if_pos (by omega), if_neg (by omega), if_neg (by omega), if_neg (by omega), Int.add_sub_cancel] at z
    have e : x + 3 * 2 ^ a1.level - 2 * 2 ^ a1.level - 2 ^ a1.level = x := by omega
    rwa [e] at z
  have zc1 := lives_of_get wc.1 fun x y p1 p2 p3 p4 => by
    rw [lc] at p2 p4
    have z := key x (y + 2 * 2 ^ a1.level) (by omega) (by omega) (by omega) (by omega) (by omega)
    rwa [if_neg (by omega), if_pos (by omega), if_pos (by omega), if_pos (by omega), Int.add_sub_cancel] at z
  have zc3 := lives_of_get wc.2.2.1 fun x y p1 p2 p3 p4 => by
    have l2 : c3.level = a1.level := by omega
    rw [l2] at p2 p4
    have z := key x (y + 3 * 2 ^ a1.level) (by omega) (by omega) (by omega) (by omega) (by omega)
    rw [if_neg (by omega), if_pos (by omega), if_neg (by omega), if_pos (by omega)] at z
    have e : y + 3 * 2 ^ a1.level - 2 * 2 ^ a1.level - 2 ^ a1.level = y := by omega
    rwa [e] at z
  have zc4 := lives_of_get wc.2.2.2.1 fun x y p1 p2 p3 p4 => by
    have l2 : c4.level = a1.level := by omega
    rw [l2] at p2 p4
    have z := key (x + 2 ^ a1.level) (y + 3 * 2 ^ a1.level) (by omega) (by omega) (by omega) (by omega) (by omega)
    rw [if_neg (by omega), if_pos (by omega), if_neg (by omega), if_neg (by omega), Int.add_sub_cancel] at z
    have e : y + 3 * 2 ^ a1.level - 2 * 2 ^ a1.level - 2 ^ a1.level = y := by omega
    rwa [e] at z
  have zd2 := lives_of_get wd.2.1 fun x y p1 p2 p3 p4 => by
    have l2 : d2.level = a1.level := by omega
    rw [l2] at p2 p4
    have z := key (x + 3 * 2 ^ a1.level) (y + 2 * 2 ^ a1.level) (by omega) (by omega) (by omega) (by omega) (by omega)
    rw [if_neg (by omega), if_neg (by omega), if_pos (by omega), if_neg (by omega), Int.add_sub_cancel] at z
    have e : x + 3 * 2 ^ a1.level - 2 * 2 ^ a1.level - 2 ^ a1.level = x := by omega
    rwa [e] at z
  have zd3 := lives_of_get wd.2.2.1 fun x y p1 p2 p3 p4 => by
    have l2 : d3.level = a1.level := by omega
    rw [l2] at p2 p4
    have z := key (x + 2 * 2 ^ a1.level) (y + 3 * 2 ^ a1.level) (by omega) (by omega) (by omega) (by omega) (by omega)
    rw [if_neg (by omega), if_neg (by omega), if_neg (by omega), if_pos (by omega), Int.add_sub_cancel] at z
    have e : y + 3 * 2 ^ a1.level - 2 * 2 ^ a1.level - 2 ^ a1.level = y := by omega
    rwa [e] at z
  have zd4 := lives_of_get wd.2.2.2.1 fun x y p1 p2 p3 p4 => by
    have l2 : d4.level = a1.level := by omega
    rw [l2] at p2 p4
    have z := key (x + 3 * 2 ^ a1.level) (y + 3 * 2 ^ a1.level) (by omega) (by omega) (by omega) (by omega) (by omega)
    rw [if_neg (by omega), if_neg (by omega), if_neg (by omega), if_neg (by omega)] at z
    have e : x + 3 * 2 ^ a1.level - 2 * 2 ^ a1.level - 2 ^ a1.level = x := by omega
    have e' : y + 3 * 2 ^ a1.level - 2 * 2 ^ a1.level - 2 ^ a1.level = y := by omega
    rwa [e, e'] at z
  simp only [Sq.mid, Sq.lives] at hl
  omega
end JF

/-! ### sorted of tuples of whole numbers, all of one length, any number of them -/
namespace JF
open PySem PySem.Spec PyProof.Rows L2
def lexL : List Int → List Int → Bool
  | _, [] => false
  | [], _ :: _ => true
  | x :: r, y :: q => if x = y then lexL r q else decide (x < y)
theorem lexL_cons (x y : Int) (r q : List Int) : lexL (x :: r) (y :: q) = if x = y then lexL r q else decide (x < y) := rfl
theorem lexL_nil : ∀ l : List Int, lexL l [] = false
  | [] => rfl
  | _ :: _ => rfl
theorem lexL_asym : ∀ x y : List Int, lexL x y = true → lexL y x = false
  | _, [], h => by rw [lexL_nil] at h; cases h
  | [], _ :: _, _ => rfl
  | x :: r, y :: q, h => by
    rw [lexL_cons] at h ⊢
    by_cases e : x = y
    · rw [if_pos e] at h; rw [if_pos e.symm]; exact lexL_asym r q h
    · rw [if_neg e, decide_eq_true_eq] at h
      rw [if_neg (fun z => e z.symm), decide_eq_false_iff_not]
      omega
theorem lexL_tr : ∀ x y z : List Int, lexL y x = false → lexL z y = false → lexL z x = false
  | [], _, _, _, _ => lexL_nil _
  | _ :: _, [], _, h, _ => by cases h
  | _ :: _, _ :: _, [], _, h => by cases h
  | x :: r, y :: q, z :: s, h1, h2 => by
    rw [lexL_cons] at h1 h2 ⊢
    by_cases e1 : y = x
    · rw [if_pos e1] at h1
      by_cases e2 : z = y
      · rw [if_pos e2] at h2
        rw [if_pos (e2.trans e1)]
        exact lexL_tr r q s h1 h2
      · rw [if_neg e2] at h2
        rw [if_neg (fun w => e2 (w.trans e1.symm))]
        rw [decide_eq_false_iff_not] at h2 ⊢
        omega
    · rw [if_neg e1, decide_eq_false_iff_not] at h1
      by_cases e2 : z = y
      · rw [if_neg (fun w => e1 (e2.symm.trans w)), decide_eq_false_iff_not]
        omega
      · rw [if_neg e2, decide_eq_false_iff_not] at h2
        rw [if_neg (by omega), decide_eq_false_iff_not]
        omega
theorem lexL_eq : ∀ x y : List Int, lexL x y = false → lexL y x = false → x = y
  | [], [], _, _ => rfl
  | [], _ :: _, h, _ => by cases h
  | _ :: _, [], _, h => by cases h
  | x :: r, y :: q, h1, h2 => by
    rw [lexL_cons] at h1 h2
    by_cases e : x = y
    · rw [if_pos e] at h1; rw [if_pos e.symm] at h2
      rw [e, lexL_eq r q h1 h2]
    · rw [if_neg e, decide_eq_false_iff_not] at h1
      rw [if_neg (fun z => e z.symm), decide_eq_false_iff_not] at h2
      omega
/-- two rows in order with the same members, each once -/
abbrev SrtL (l : List (List Int)) : Prop := l.Pairwise fun x y => lexL y x = false
theorem srtL_eq : ∀ {l m : List (List Int)}, SrtL l → SrtL m → l.Perm m → l = m
  | [], m, _, _, p => by rw [List.nil_perm.mp p]
  | x :: l, m, h1, h2, p => by
    cases m with
    | nil => exact absurd p.symm (by simp)
    | cons y m =>
      have hx := List.pairwise_cons.mp h1
      have hy := List.pairwise_cons.mp h2
      have e : x = y := by
        have mx : x ∈ y :: m := p.mem_iff.mp List.mem_cons_self
        have my : y ∈ x :: l := p.mem_iff.mpr List.mem_cons_self
        rcases List.mem_cons.mp mx with z | z
        · exact z
        rcases List.mem_cons.mp my with w | w
        · exact w.symm
        exact lexL_eq _ _ (hy.1 x z) (hx.1 y w)
      subst e
      rw [srtL_eq hx.2 hy.2 (List.perm_cons x |>.mp p)]
theorem perm_of_mem {α : Type} [DecidableEq α] : ∀ {l m : List α}, l.Nodup → m.Nodup → (∀ x, x ∈ l ↔ x ∈ m) → l.Perm m
  | [], m, _, _, h => by
    cases m with
    | nil => exact List.Perm.refl _
    | cons y m => exact absurd ((h y).mpr List.mem_cons_self) (by simp)
  | x :: l, m, h1, h2, h => by
    have hx : x ∈ m := (h x).mp List.mem_cons_self
    have n1 := List.nodup_cons.mp h1
    refine List.Perm.trans (List.Perm.cons x ?_) (List.perm_cons_erase hx).symm
    refine perm_of_mem n1.2 (h2.erase x) fun y => ?_
    rw [h2.mem_erase_iff]
    constructor
    · intro hy
      exact ⟨fun e => n1.1 (e ▸ hy), (h y).mp (List.mem_cons_of_mem _ hy)⟩
    · rintro ⟨ne, hy⟩
      exact (List.mem_cons.mp ((h y).mpr hy)).resolve_left ne
section
variable {prog : Program} {w : World} {A : Around} {E : Value → Shared → Prop} {s : Shared} {Q : Bool → Shared → Prop}
theorem kat_intsL {b : Bool} {xs ys : List Value} {ns ms : List Int} (i : Nat) (hx : IntsAre xs ns) (hy : IntsAre ys ms) (hl : ns.length = ms.length) (h : Q (lexL ns ms) s) : PySem.W.KatLex prog w A b false Q (xs.zip ys) i s := by
  induction hx generalizing ys ms i with
  | nil =>
    cases hy with
    | nil => exact PySem.W.kat_nil h
    | cons q u hy => simp at hl
  | @cons p t xs ns hx ih =>
    cases hy with
    | nil => simp at hl
    | @cons q u ys ms hy =>
      have hl' : ns.length = ms.length := by simpa using hl
      refine PySem.W.kat_cons (wpAny_eqBool_int ?_)
      rw [lexL_cons] at h
      by_cases e : p = q
      · subst e
        rw [if_pos rfl] at h
        rw [beq_self_eq_true]
        exact PySem.W.kat_yes (ih (i + 1) hy hl' h)
      · rw [if_neg e] at h
        rw [show (p == q) = false from beq_eq_false_iff_ne.mpr e]
        exact PySem.W.kat_no (TS.oneLt_ints _ h)
theorem firstsL {h : Heap} : ∀ vs : List Value, (∀ v ∈ vs, ∃ ns : List Int, TS.TupInts h v ns ∧ 1 ≤ ns.length) → ∃ fs, PySem.W.KatTups h vs fs ∧ fs.length = vs.length ∧ ∀ f ∈ fs, ∃ n t, f = Value.int n t
  | [], _ => ⟨[], PySem.W.KatTups.nil, rfl, fun f hf => by cases hf⟩
  | v :: vs, x => by
    obtain ⟨fs, k, hl, hi⟩ := firstsL vs fun u hu => x u (List.mem_cons_of_mem _ hu)
    obtain ⟨ns, ⟨a, xs, rfl, ⟨o, ho, hc, n, hdt⟩, i⟩, hn⟩ := x v List.mem_cons_self
    cases q : xs.toList with
    | nil =>
      rw [q] at i
      have l := i.length
      rw [List.length_nil] at l
      omega
    | cons y ys =>
      obtain ⟨m, t, hy⟩ := i.all y (by rw [q]; exact List.mem_cons_self)
      refine ⟨y :: fs, PySem.W.KatTups.cons ho hc hdt ?_ k, by rw [List.length_cons, List.length_cons, hl], fun f hf => ?_⟩
      · have z := congrArg (fun l : List Value => l[0]?) q
        simpa using z
      · rcases List.mem_cons.mp hf with e | hf
        · exact ⟨m, t, e.trans hy⟩
        · exact hi f hf
end
section
variable {prog : Program} {w : World} {A : Around} {E : Value → Shared → Prop} {s : Shared}
open SrtO Srt PySem.W
theorem swo_L (k : Value → List Int) : Swo fun v u => lexL (k v) (k u) := ⟨fun x y h => lexL_asym _ _ h, fun x y z h1 h2 => lexL_tr _ _ _ h1 h2⟩
theorem cmp_L {vs : List Value} {k : Value → List Int} {d : Nat} (hp : ∀ v ∈ vs, TS.TupInts s.heap v (k v) ∧ (k v).length = d) : Cmp prog w A s (tuples' true) (fun p => p.1 ∈ vs) (lt2 fun v u => lexL (k v) (k u)) := by
  intro p q hm hm'
  obtain ⟨⟨a, xs, e1, ⟨o, ho, hc, n, hdt⟩, i⟩, l1⟩ := hp _ hm
  obtain ⟨⟨a', ys, e2, ⟨o', ho', hc', n', hdt'⟩, i'⟩, l2⟩ := hp _ hm'
  show wpAny _ _ (keyLt' (tuples' true) p.1 q.1) (fun r s' => s' = s ∧ r = lexL (k p.1) (k q.1)) _ s
  generalize hk1 : k p.1 = ns at *
  generalize hk2 : k q.1 = ms at *
  rw [e1, e2]
  refine PySem.W.kat_lt ho hdt ho' hdt' ?_
  have sz : decide (xs.size < ys.size) = false := by
    have z1 := i.length
    have z2 := i'.length
    rw [Array.length_toList] at z1 z2
    exact decide_eq_false (by omega)
  rw [sz]
  exact kat_intsL 0 i i' (by omega) ⟨rfl, rfl⟩
theorem sortable_L {a : Addr} {vs : List Value} {k : Value → List Int} {d : Nat} (hd : 1 ≤ d) (h0 : 0 < vs.length) (hp : ∀ v ∈ vs, TS.TupInts s.heap v (k v) ∧ (k v).length = d) (ha : ∀ o, s.heap.get? a = some o → o.cls ≠ .type "tuple") : SortableO prog w A s a vs fun v u => lexL (k v) (k u) := by
  intro h' keep
  have hp' : ∀ v ∈ vs, TS.TupInts h' v (k v) ∧ (k v).length = d := fun v hm => ⟨(hp v hm).1.keeps fun b o e c => keep b o (fun z => ha o (z ▸ e) c) e, (hp v hm).2⟩
  obtain ⟨fs, h1, h2, h3⟩ := firstsL vs fun v hm => ⟨_, (hp' v hm).1, by rw [(hp' v hm).2]; exact hd⟩
  refine ⟨tuples' true, fun Q E hq => ?_, cmp_L (s := { s with heap := h' }) hp'⟩
  refine PySem.W.kat_kind (T := .type "int") h1 (by omega) (fun f hm => ?_) (by rfl) ?_
  · obtain ⟨x, t, rfl⟩ := h3 f hm
    exact PySem.W.Looks.now
  · have ne : (Value.type "int" != Value.type "tuple") = true := by first | rfl | decide +kernel
    rw [ne]
    exact hq
end
section
variable {X : Cx}
def rSortTL (K : PySem.W.Frag) : List V → Hp → VK → Prop := fun vs H Q => ∃ (a : Addr) (rs : List Addr) (xs : List (List Int)) (d : Nat), vs = [V.ref a] ∧ SqL K H a (rs.map V.ref) ∧ TR H rs xs ∧ 1 ≤ d ∧ (∀ x ∈ xs, x.length = d) ∧
  ∀ (rs' : List Addr) (ys : List (List Int)) (p : Addr), ys.Perm xs → SrtL ys → TR H rs' ys → H p = none → Q (.ref p) (upd H p (.lst (rs'.map V.ref)))
theorem TR.of_list {H : Hp} (k : V → List Int) : ∀ (rs : List Addr), (∀ r ∈ rs, H r = some (.tup ((k (.ref r)).map V.int))) → TR H rs (rs.map fun r => k (.ref r))
  | [], _ => trivial
  | r :: rs, h => ⟨h r List.mem_cons_self, TR.of_list k rs fun r' m => h r' (List.mem_cons_of_mem _ m)⟩
theorem tr_eq {H : Hp} (k : V → List Int) : ∀ {rs : List Addr} {xs : List (List Int)}, TR H rs xs → (∀ r x, H r = some (.tup (x.map V.int)) → k (.ref r) = x) → xs = rs.map fun r => k (.ref r)
  | [], [], _, _ => rfl
  | r :: rs, x :: xs, h, hk => by
    rw [List.map_cons, ← tr_eq k h.2 hk, hk r x h.1]
  | [], _ :: _, h, _ => h.elim
  | _ :: _, [], h, _ => h.elim
open SrtO in
theorem cr_sortTL : CallR X (.builtin "sorted") (rSortTL X.K) := by
  intro pins s σ H vs us Q I r h
  obtain ⟨a, rs, xs, d, rfl, hs, hT, hd, hlen, q⟩ := h
  obtain ⟨its, rv, hl, hz⟩ := I.list hs
  rw [Vals.ref1 r]
  obtain ⟨e1, e2⟩ := refs_back rv fun x m => by
    obtain ⟨t, _, e⟩ := List.mem_map.mp m
    exact ⟨t, e.symm⟩
  let k : V → List Int := fun v => TS.intsOf s.heap (match v with | .ref t => .ref t | _ => .none)
  have tup : ∀ t (x : List Int), H t = some (.tup (x.map V.int)) → TS.TupInts s.heap (.ref t) x := fun t x ht => by
    obtain ⟨_, its2, r2, o, ho, hc, n, hdt⟩ := I.hok _ _ ht
    exact ⟨t, _, rfl, ⟨o, ho, hc, n, hdt⟩, Vals.ints r2⟩
  have hk : ∀ t (x : List Int), H t = some (.tup (x.map V.int)) → k (.ref t) = x := fun t x ht => (tup t x ht).ints
  have mem : ∀ t, V.ref t ∈ rs.map V.ref → ∃ x : List Int, x.length = d ∧ H t = some (.tup (x.map V.int)) := fun t m => by
    obtain ⟨t', m', e⟩ := List.mem_map.mp m
    cases e
    obtain ⟨i, hi, ei⟩ := List.getElem_of_mem m'
    obtain ⟨x, hx, ht⟩ := hT.get (i := i) (by rw [List.getElem?_eq_getElem hi, ei])
    exact ⟨x, hlen x (List.mem_of_getElem? hx), ht⟩
  have val : ∀ v ∈ its, ∃ (t : Addr) (x : List Int), v = Value.ref t ∧ t ∈ rs ∧ x.length = d ∧ H t = some (.tup (x.map V.int)) := fun v hv => by
    obtain ⟨t, rfl⟩ := e2 v hv
    have hm : V.ref t ∈ rs.map V.ref := by rw [e1]; exact List.mem_map.mpr ⟨_, hv, rfl⟩
    obtain ⟨x, h1, h2⟩ := mem t hm
    refine ⟨t, x, rfl, ?_, h1, h2⟩
    obtain ⟨t', m', e⟩ := List.mem_map.mp hm
    cases e
    exact m'
  refine sorted_ord (swo_L fun u => k (backV u)) hl.isList (by rw [← rv.length]; exact hz) (fun h2 h₁ b hb kk => ?_) fun out hs' hb => ?_
  · refine sortable_L (s := { s with heap := h₁ }) hd (by omega) (fun v hv => ?_) fun o e => ?_
    · obtain ⟨t, x, rfl, _, hx, ht⟩ := val v hv
      have ek : k (backV (.ref t)) = x := hk t x ht
      show TS.TupInts h₁ (.ref t) (k (backV (.ref t))) ∧ (k (backV (.ref t))).length = d
      rw [ek]
      exact ⟨(tup t x ht).keeps fun b o e _ => (kk b o e).2, hx⟩
    · have e' := e.symm.trans hb
      cases e'
      intro c
      exact absurd (Value.type.inj c) (by decide)
  · have h3 : ∀ u ∈ out, ∃ a, u = Value.ref a := fun u hu => by
      obtain ⟨t, x, e, _⟩ := val u (hb.perm.mem_iff.mp hu)
      exact ⟨t, e⟩
    obtain ⟨n, hn⟩ := sortedAll_at s.heap its out.toArray
    let rs' : List Addr := out.map fun u => match u with | .ref t => t | _ => 0
    have er : out.map backV = rs'.map V.ref := by
      rw [List.map_map]
      refine List.map_congr_left fun u hu => ?_
      obtain ⟨t, e⟩ := h3 u hu
      rw [e]
      rfl
    have tr : ∀ t ∈ rs', H t = some (.tup ((k (.ref t)).map V.int)) := fun t ht => by
      obtain ⟨u, hu, e⟩ := List.mem_map.mp ht
      obtain ⟨t', x, rfl, _, _, h5⟩ := val u (hb.perm.mem_iff.mp hu)
      have e' : t' = t := e
      subst e'
      rw [hk t' x h5]
      exact h5
    have ei : its.map (fun u => match u with | .ref t => t | _ => 0) = rs := by
      have z : (its.map backV).map (fun v => match v with | V.ref t => t | _ => 0) = (rs.map V.ref).map (fun v => match v with | V.ref t => t | _ => 0) := by rw [e1]
      rw [List.map_map, List.map_map] at z
      have z2 : rs.map ((fun v => match v with | V.ref t => t | _ => 0) ∘ V.ref) = rs := List.map_id rs
      rw [z2] at z
      rw [← z]
      refine List.map_congr_left fun u hu => ?_
      obtain ⟨t, _, e, _⟩ := val u hu
      rw [e]
      rfl
    have pm : (rs'.map fun r => k (.ref r)).Perm xs := by
      rw [tr_eq k hT fun r x h => hk r x h, ← ei]
      exact (hb.perm.map _).map _
    have sr : SrtL (rs'.map fun r => k (.ref r)) := by
      have z := hs'
      have e5 : (rs'.map fun r => k (.ref r)) = out.map fun u => k (backV u) := by
        rw [List.map_map]
        refine List.map_congr_left fun u hu => ?_
        obtain ⟨t, e⟩ := h3 u hu
        rw [e]
        rfl
      rw [e5]
      exact List.pairwise_map.mpr z
    have hsz : s.heap.objs.size ≤ s.heap.objs.size + 1 := Nat.le_succ _
    refine ⟨.ref (s.heap.objs.size + 1), upd H (s.heap.objs.size + 1) (.lst (rs'.map V.ref)), I.laid (t' := s.toks) (fun b o e => sortedAll_old e) hsz ⟨?_, out, n, ?_, hn⟩, rfl, q rs' _ _ pm sr (TR.of_list k rs' tr) (I.hok.fresh hsz)⟩
    · rw [List.length_map, List.length_map, hb.perm.length_eq, ← rv.length]
      exact hz
    · rw [← er]
      exact vals_back h3
theorem cr_sortTLK (K : PySem.W.Frag) (hK : X.K = K) : CallR X (.builtin "sorted") (rSortTL K) := by subst hK; exact cr_sortTL
end
end JF

/-! ### enumerate of a tuple -/
namespace JF
open PySem PySem.Spec PyProof.Rows L2
open AutoSeq1 in
theorem meets_enum_newT (l : Addr) (items : Array Value) (n : Nat) (dct : Option Addr) (sl : Array (Option Value)) :
    Meets (Builtin.«enumerate.__new__» ⟨[.type "enumerate", .ref l], []⟩) (fun _ R s => s.heap.get? l = some { cls := .type "tuple", dict := dct, data := .seq items n, slots := sl } ∧
      R (.ok (.ret (.ref (s.heap.push { cls := .type "tuple_iterator", data := .fields #[.ref l, .int 0 0] }).objs.size)))
        { s with heap := (s.heap.push { cls := .type "tuple_iterator", data := .fields #[.ref l, .int 0 0] }).push { cls := .type "enumerate", data := .fields #[.none, .bool false, .ref s.heap.objs.size, rawInt 0, .none, .none] } }) :=
  .of_wp fun prog w A R s h => by
    obtain ⟨hp, g, d, tk, os⟩ := s
    obtain ⟨hl, h⟩ := h
    have hsub := sub_enumerate
    have hT : Heap.IsTuple (Shared.heap ⟨hp, g, d, tk, os⟩) l items := ⟨_, hl, rfl, n, rfl⟩
    wp_walk using wpAny_loadPart' hl
    refine wpAny_stack_any fun st => wpAny_pure ?_
    split
    · rename_i c _ _ _ _ _
      cases (c == Value.type "enumerate")
      all_goals
        wp_walk using wpAny_loadPart' hl, wpAny_pyIter_tuple hT
        exact ⟨_, rfl, h⟩
    · wp_walk using wpAny_loadPart' hl, wpAny_pyIter_tuple hT
      exact ⟨_, rfl, h⟩
theorem call_enumT {prog : Program} {w : World} {A : Around} {E : Value → Shared → Prop} {s : Shared} {l : Addr} {items : Array Value} {Q : Value → Shared → Prop} (hT : s.heap.IsTuple l items)
    (h : ∀ h', IsEnum h' (s.heap.objs.size + 1) s.heap.objs.size 0 .none → h'.IsTupleIter s.heap.objs.size l 0 → (∀ b o, s.heap.get? b = some o → h'.get? b = some o) → Q (.ref (s.heap.objs.size + 1)) { s with heap := h' }) :
    wpAny (model prog w) A (call (.type "enumerate") [.ref l]) Q E s := by
  obtain ⟨⟨c, dct, dt, sl⟩, hl, hc, n, hd⟩ := hT
  replace hc : c = .type "tuple" := hc
  replace hd : dt = .seq items n := hd
  subst hc hd
  refine callType_new F.called_enumerate (by decide) (F.typeCall_enumerate_1 _) (F.newCall_enumerate_1 _) (fun obj => F.args_object_init_2 obj _) F.entry_enumerate_new (meets_enum_newT l items n dct sl) ⟨hl, ?_⟩
  generalize hg : s.heap.push { cls := .type "tuple_iterator", data := .fields #[.ref l, .int 0 0] } = g1
  have hz : g1.objs.size = s.heap.objs.size + 1 := by rw [← hg]; exact Heap.size_push ..
  have g0 : g1.get? s.heap.objs.size = some { cls := .type "tuple_iterator", data := .fields #[.ref l, .int 0 0] } := by rw [← hg]; exact Heap.get?_push_size _ rfl
  have gk : ∀ b o, s.heap.get? b = some o → g1.get? b = some o := fun b o x => by rw [← hg]; exact Heap.get?_push_of_some _ x
  rw [hz]
  have he : IsEnum (g1.push { cls := .type "enumerate", data := .fields #[.none, .bool false, .ref s.heap.objs.size, rawInt 0, .none, .none] }) (s.heap.objs.size + 1) s.heap.objs.size 0 .none := by
    have z := Heap.get?_push_size g1 (o := { cls := .type "enumerate", data := .fields #[.none, .bool false, .ref s.heap.objs.size, rawInt 0, .none, .none] }) rfl
    rw [hz] at z; exact z
  exact ⟨⟨_, he, rfl⟩, h _ he ⟨_, Heap.get?_push_of_some _ g0, rfl, rfl⟩ fun b o x => Heap.get?_push_of_some _ (gk b o x)⟩
def ItET (a : Addr) : It :=
  ⟨fun i H => ∃ (xs : List V) (x : V), H a = some (.tup xs) ∧ xs[i]? = some x, fun i H v H' => ∃ T x, v = .ref T ∧ H T = none ∧ H' = upd H T (.tup [.int (i : Nat), x]) ∧ ∀ xs, H a = some (.tup xs) → xs[i]? = some x, fun i H => ∃ xs : List V, H a = some (.tup xs) ∧ i = xs.length⟩
theorem turn_enumT {P : Program} {w : World} {K : PySem.W.Frag} {elts : List Expr} {kk : Nat} {tpos : Pos} (a e it : Addr) (hne : e ≠ it) :
    Turn P w K (.Tuple elts kk tpos) (ItET a) [e, it] e (fun i h => (∃ old, IsEnum h e it ((i : Nat) : Int) old) ∧ h.IsTupleIter it a i) where
  mem := by simp
  obj := fun i h st b hb => by
    obtain ⟨⟨old, he⟩, o, ho, hc, hd⟩ := st
    have two : b = e ∨ b = it := by simpa using hb
    rcases two with rfl | rfl
    · exact ⟨_, he, fun v q => nomatch q⟩
    · exact ⟨o, ho, fun v q => by rw [hd] at q; cases q⟩
  keep := fun i h h' st k => by
    obtain ⟨⟨old, he⟩, o, ho, hc, hd⟩ := st
    exact ⟨⟨old, k e (by simp) _ he⟩, o, k it (by simp) _ ho, hc, hd⟩
  item := by
    intro X eP ew eK hc i pins s σ H E I hf st hg
    subst eP ew eK
    obtain ⟨⟨old, he⟩, hit⟩ := st
    obtain ⟨xs, x, hq, hx⟩ := hg
    obtain ⟨hz, its, rv, ht⟩ := (show ObjOk X.prog X.w H s.heap a (.tup xs) from I.hok a _ hq)
    have htu : s.heap.IsTuple a its.toArray := ht
    obtain ⟨u, hu, ru⟩ := rv.get hx
    have el := Heap.lt_size he
    have il : it < s.heap.objs.size := by obtain ⟨_, q, _⟩ := hit; exact Heap.lt_size q
    have eN : e ≠ a := fun z => by
      have n1 := (hf e (by simp)).1
      rw [z, hq] at n1; cases n1
    have iN : it ≠ a := fun z => by
      have n1 := (hf it (by simp)).1
      rw [z, hq] at n1; cases n1
    have ilt : i < its.toArray.size := by
      have := (List.getElem?_eq_some_iff.mp hu).1
      simpa using this
    refine wpAny_pyNext_enum_itemD (Draws.tuple (prog := X.prog) (w := X.w) (A := X.A.in1) (show X.A.in1.handled = none from I.ok.hd hc) it a iN.symm its.toArray) he ⟨hit, htu⟩ ilt hne (by simp [hne, eN]) fun v g tk m ho hit2 hT hsz hk => ?_
    have ev : v = u := by
      have m' : its.toArray[i]? = some v := m
      rw [List.getElem?_toArray, hu] at m'
      exact (Option.some.inj m').symm
    subst ev
    refine ⟨_, rfl, wpAny_letOwnedTupleGo_enum (s := { s with heap := g, toks := tk + 1 }) ho fun g2 he2 sb => ?_⟩
    have hT2 : g2.get? s.heap.objs.size = some { cls := .type "tuple", data := .seq #[.int i tk, v] } := (sb.2 _ (Nat.ne_of_gt el)).trans hT
    have hob : ObjOk X.prog X.w (upd H s.heap.objs.size (.tup [.int (i : Nat), x])) g2 s.heap.objs.size (.tup [.int (i : Nat), x]) :=
      ⟨by show 2 ≤ sizeLine; decide, [.int i tk, v], .cons ⟨_, rfl⟩ (.cons ru .nil), _, hT2, rfl, _, rfl⟩
    have kk : ∀ b o, b ∉ [e, it] → s.heap.get? b = some o → g2.get? b = some o := fun b o hb q => by
      simp only [List.mem_cons, List.not_mem_nil, or_false, not_or] at hb
      exact (sb.2 b hb.1).trans (hk b o hb.1 hb.2 q)
    refine ⟨.ref s.heap.objs.size, _, I.turnedNew (t' := tk + 1) kk hf (Nat.le_refl _) hob, rfl, ⟨_, x, rfl, I.hok.fresh (Nat.le_refl _), rfl, fun ys hy => ?_⟩, ⟨⟨v, ?_⟩, ?_⟩, fun b hb => ?_⟩
    · rw [hq] at hy; cases hy; exact hx
    · have q : ((i + 1 : Nat) : Int) = (i : Int) + 1 := by omega
      rw [q]; exact he2
    · obtain ⟨o, q, r⟩ := hit2.1
      exact ⟨o, (sb.2 it (Ne.symm hne)).trans q, r⟩
    · have lt : b < s.heap.objs.size := by
        have two : b = e ∨ b = it := by simpa using hb
        rcases two with rfl | rfl
        · exact el
        · exact il
      rw [upd_ne (Nat.ne_of_lt lt)]
      exact (hf b hb).1
  done := by
    intro X eP ew eK hc i pins s σ H E I hf st hg
    subst eP ew eK
    obtain ⟨⟨old, he⟩, hit⟩ := st
    obtain ⟨xs, hq, rfl⟩ := hg
    obtain ⟨hz, its, rv, ht⟩ := (show ObjOk X.prog X.w H s.heap a (.tup xs) from I.hok a _ hq)
    have htu : s.heap.IsTuple a its.toArray := ht
    obtain ⟨c0, c1, c2, c3, c4, c5⟩ := hf it (by simp)
    have iN : it ≠ a := fun z => by rw [z, hq] at c0; cases c0
    have es : its.toArray.size = xs.length := by rw [List.size_toArray, rv.length]
    refine wpAny_pyNext_enum_endD (Draws.tuple (prog := X.prog) (w := X.w) (A := X.A.in1) (show X.A.in1.handled = none from I.ok.hd hc) it a iN.symm its.toArray) he ?_ fun g eb => ⟨rfl, I.turned (t' := s.toks) (fun b o hb q => eb b o hb q) c0 c1 c3 c4 c5⟩
    rw [es]
    exact ⟨hit, htu⟩
  self := fun A i s Q E sg => let ⟨⟨_, he⟩, _⟩ := sg; wpAny_pyIter_enum he
def iEnumT (ta : TA) : TI := fun σ H R => ta σ H fun vs H1 => ∃ a xs, vs = [.ref a] ∧ H1 a = some (.tup xs) ∧ R (ItET a) H1
theorem pi_enumT {X : Cx} {e : Expr} {ta : TA} {p pos tpos : Pos} {elts : List Expr} {kk : Nat} (hg : Gl X "enumerate") (hm : X.mg "enumerate" = none) (ha : PA X [e] ta) (hs : starEach [e] X.env = [(false, eval e X.env)] := by rfl) :
    PI X (.Tuple elts kk tpos) (.Call (.Name "enumerate" p) [e] [] pos) (iEnumT ta) := by
  refine ⟨fun pins s σ H R I hh => ?_⟩
  refine Call_ (ld_blt I hg hm boot_enumerate (PyProof.Rows.callWith_type1 (thn (ha.run pos pins s σ H _ I hh) fun _ s1 ⟨_, H1, I1, r1, q1⟩ => ?_) hs rfl))
  obtain ⟨a, xs, rfl, hq, q⟩ := q1
  obtain rfl := Vals.ref1 r1
  obtain ⟨hz, its, rv, ht⟩ := (show ObjOk X.prog X.w H1 s1.heap a (.tup xs) from I1.hok a _ hq)
  have htu : s1.heap.IsTuple a its.toArray := ht
  refine call_enumT htu fun g he hit hk => wpAny_pyIter_enum he ?_
  have I2 : Inv X pins σ H1 { s1 with heap := g } := I1.kept (t' := s1.toks) hk
  refine ⟨s1.heap.objs.size + 1, [s1.heap.objs.size + 1, s1.heap.objs.size], _, _, H1, rfl, I2, turn_enumT a (s1.heap.objs.size + 1) s1.heap.objs.size (Nat.succ_ne_self _), ⟨⟨.none, he⟩, hit⟩, fun b hb => ?_, q⟩
  have le : s1.heap.objs.size ≤ b := by
    simp only [List.mem_cons, List.not_mem_nil, or_false] at hb
    rcases hb with rfl | rfl
    · exact Nat.le_add_right _ _
    · exact Nat.le_refl _
  exact I1.fpOk le (I1.hok.fresh le)
theorem walk_enumT {a : Addr} {xs : List V} : Walk (ItET a) xs.length (fun H => H a = some (.tup xs)) (YPair (fun i => some (.int (i : Nat))) (fun i => xs[i]?)) :=
  ⟨fun i H hi h => ⟨xs, _, h, List.getElem?_eq_getElem hi⟩, fun H h => ⟨xs, h, rfl⟩, fun i H x H' hi h ⟨T, y, e, hT, eH, f⟩ => ⟨T, _, y, e, hT, eH, rfl, f xs h⟩⟩
theorem rd_iET {σ : L2.St} {H : Hp} {tr : TA} {R : It → Hp → Prop} (h : tr σ H fun vs H1 => ∃ a xs, vs = [.ref a] ∧ H1 a = some (.tup xs) ∧ R (ItET a) H1) : iEnumT tr σ H R := h
end JF

/-! ### fields walked down by quarters -/
namespace JF
open PySem PySem.Spec PyProof.Rows L2
/-! #### the plain law -/
/-- the living cells of a square whose upper left cell lies at a place -/
def wi : Sq → Int → Int → List (List Int)
  | .leaf s, x, y => if s = 0 then [] else [[y, x, s]]
  | .node a b c d, x, y => wi a x y ++ wi b (x + 2 ^ a.level) y ++ wi c x (y + 2 ^ a.level) ++ wi d (x + 2 ^ a.level) (y + 2 ^ a.level)
theorem wi_len : ∀ (S : Sq) (x y : Int), ((wi S x y).length : Int) = S.lives
  | .leaf s, x, y => by
    show ((if s = 0 then [] else [[y, x, s]] : List (List Int)).length : Int) = if s = 0 then 0 else 1
    split <;> rfl
  | .node a b c d, x, y => by
    have ha := wi_len a x y; have hb := wi_len b (x + 2 ^ a.level) y; have hc := wi_len c x (y + 2 ^ a.level); have hd := wi_len d (x + 2 ^ a.level) (y + 2 ^ a.level)
    show ((wi a x y ++ wi b (x + 2 ^ a.level) y ++ wi c x (y + 2 ^ a.level) ++ wi d (x + 2 ^ a.level) (y + 2 ^ a.level)).length : Int) = a.lives + b.lives + c.lives + d.lives
    rw [List.length_append, List.length_append, List.length_append]
    omega
theorem wi_none {S : Sq} (h : S.lives = 0) (x y : Int) : wi S x y = [] := by
  have e := wi_len S x y
  rw [h] at e
  exact List.length_eq_zero_iff.mp (by omega)
theorem get_nodeW {A B C D : Sq} (w : (Sq.node A B C D).wf) {x y : Int} (x0 : 0 ≤ x) (x1 : x < 2 ^ A.level) (y0 : 0 ≤ y) (y1 : y < 2 ^ A.level) :
    (Sq.node A B C D).get x y = A.get x y ∧ (Sq.node A B C D).get (x + 2 ^ A.level) y = B.get x y ∧ (Sq.node A B C D).get x (y + 2 ^ A.level) = C.get x y ∧ (Sq.node A B C D).get (x + 2 ^ A.level) (y + 2 ^ A.level) = D.get x y := by
  obtain ⟨h, e⟩ : ∃ h : Int, h = 2 ^ A.level := ⟨_, rfl⟩
  have eq : ∀ u v : Int, (Sq.node A B C D).get u v = (if v < h then (if u < h then A.get u v else B.get (u - h) v) else (if u < h then C.get u (v - h) else D.get (u - h) (v - h))) := fun u v => by rw [e]; rfl
  rw [← e] at x1 y1 ⊢
  have e1 : x + h - h = x := by omega
  have e2 : y + h - h = y := by omega
  refine ⟨?_, ?_, ?_, ?_⟩
  · rw [eq, if_pos y1, if_pos x1]
  · rw [eq, if_pos y1, if_neg (by omega), e1]
  · rw [eq, if_neg (by omega), if_pos x1, e2]
  · rw [eq, if_neg (by omega), if_neg (by omega), e1, e2]
theorem mem_wi : ∀ {S : Sq}, S.wf → ∀ (x y : Int) (t : List Int), t ∈ wi S x y ↔ ∃ i j : Int, 0 ≤ i ∧ i < 2 ^ S.level ∧ 0 ≤ j ∧ j < 2 ^ S.level ∧ S.get i j ≠ 0 ∧ t = [y + j, x + i, S.get i j]
  | .leaf s, _, x, y, t => by
    show t ∈ (if s = 0 then [] else [[y, x, s]] : List (List Int)) ↔ ∃ i j : Int, 0 ≤ i ∧ i < 1 ∧ 0 ≤ j ∧ j < 1 ∧ s ≠ 0 ∧ t = [y + j, x + i, s]
    constructor
    · intro h
      by_cases z : s = 0
      · rw [if_pos z] at h; cases h
      · rw [if_neg z, List.mem_singleton] at h
        exact ⟨0, 0, by decide, by decide, by decide, by decide, z, by rw [h, Int.add_zero, Int.add_zero]⟩
    · rintro ⟨i, j, i0, i1, j0, j1, z, rfl⟩
      obtain rfl : i = 0 := by omega
      obtain rfl : j = 0 := by omega
      rw [if_neg z, Int.add_zero, Int.add_zero]
      exact List.mem_singleton.mpr rfl
  | .node a b c d, w, x, y, t => by
    obtain ⟨wa, wb, wc, wd, e1, e2, e3⟩ := id w
    have ia := mem_wi wa x y t
    have ib := mem_wi wb (x + 2 ^ a.level) y t
    have ic := mem_wi wc x (y + 2 ^ a.level) t
    have id' := mem_wi wd (x + 2 ^ a.level) (y + 2 ^ a.level) t
    rw [e1] at ib; rw [e2] at ic; rw [e3] at id'
    have el : (2 : Int) ^ (Sq.node a b c d).level = 2 * 2 ^ a.level := Sq.two_succ _
    have hp := Sq.two_pos a.level
    have g := fun {u v : Int} (u0 : 0 ≤ u) (u1 : u < 2 ^ a.level) (v0 : 0 ≤ v) (v1 : v < 2 ^ a.level) => get_nodeW w u0 u1 v0 v1
    rw [el]
    show t ∈ wi a x y ++ wi b (x + 2 ^ a.level) y ++ wi c x (y + 2 ^ a.level) ++ wi d (x + 2 ^ a.level) (y + 2 ^ a.level) ↔ _
    rw [List.mem_append, List.mem_append, List.mem_append, ia, ib, ic, id']
    generalize (2 : Int) ^ a.level = h at *
    constructor
    · rintro (((⟨i, j, i0, i1, j0, j1, z, rfl⟩ | ⟨i, j, i0, i1, j0, j1, z, rfl⟩) | ⟨i, j, i0, i1, j0, j1, z, rfl⟩) | ⟨i, j, i0, i1, j0, j1, z, rfl⟩)
      · refine ⟨i, j, i0, by omega, j0, by omega, ?_, ?_⟩
        · rw [(g i0 i1 j0 j1).1]; exact z
        · rw [(g i0 i1 j0 j1).1]
      · refine ⟨i + h, j, by omega, by omega, j0, by omega, ?_, ?_⟩
        · rw [(g i0 i1 j0 j1).2.1]; exact z
        · rw [(g i0 i1 j0 j1).2.1, show x + h + i = x + (i + h) by omega]
      · refine ⟨i, j + h, i0, by omega, by omega, by omega, ?_, ?_⟩
        · rw [(g i0 i1 j0 j1).2.2.1]; exact z
        · rw [(g i0 i1 j0 j1).2.2.1, show y + h + j = y + (j + h) by omega]
      · refine ⟨i + h, j + h, by omega, by omega, by omega, by omega, ?_, ?_⟩
        · rw [(g i0 i1 j0 j1).2.2.2]; exact z
        · rw [(g i0 i1 j0 j1).2.2.2, show y + h + j = y + (j + h) by omega, show x + h + i = x + (i + h) by omega]
    · rintro ⟨i, j, i0, i1, j0, j1, z, rfl⟩
      by_cases ci : i < h <;> by_cases cj : j < h
      · rw [(g i0 ci j0 cj).1] at z ⊢
        exact .inl (.inl (.inl ⟨i, j, i0, ci, j0, cj, z, rfl⟩))
      · have q := (g i0 ci (show 0 ≤ j - h by omega) (by omega)).2.2.1
        rw [Int.sub_add_cancel] at q
        rw [q] at z ⊢
        exact .inl (.inr ⟨i, j - h, i0, ci, by omega, by omega, z, by rw [show y + h + (j - h) = y + j by omega]⟩)
      · have q := (g (show 0 ≤ i - h by omega) (by omega) j0 cj).2.1
        rw [Int.sub_add_cancel] at q
        rw [q] at z ⊢
        exact .inl (.inl (.inr ⟨i - h, j, by omega, by omega, j0, cj, z, by rw [show x + h + (i - h) = x + i by omega]⟩))
      · have q := (g (show 0 ≤ i - h by omega) (by omega) (show 0 ≤ j - h by omega) (by omega)).2.2.2
        rw [Int.sub_add_cancel, Int.sub_add_cancel] at q
        rw [q] at z ⊢
        exact .inr ⟨i - h, j - h, by omega, by omega, by omega, by omega, z, by rw [show y + h + (j - h) = y + j by omega, show x + h + (i - h) = x + i by omega]⟩
theorem wi_nodup : ∀ {S : Sq}, S.wf → ∀ x y : Int, (wi S x y).Nodup
  | .leaf s, _, x, y => by
    show (if s = 0 then [] else [[y, x, s]] : List (List Int)).Nodup
    split <;> simp
  | .node a b c d, w, x, y => by
    obtain ⟨wa, wb, wc, wd, e1, e2, e3⟩ := id w
    have ia := mem_wi wa x y
    have ib := mem_wi wb (x + 2 ^ a.level) y
    have ic := mem_wi wc x (y + 2 ^ a.level)
    have id' := mem_wi wd (x + 2 ^ a.level) (y + 2 ^ a.level)
    have na := wi_nodup wa x y
    have nb := wi_nodup wb (x + 2 ^ a.level) y
    have nc := wi_nodup wc x (y + 2 ^ a.level)
    have nd := wi_nodup wd (x + 2 ^ a.level) (y + 2 ^ a.level)
    rw [e1] at ib; rw [e2] at ic; rw [e3] at id'
    show (wi a x y ++ wi b (x + 2 ^ a.level) y ++ wi c x (y + 2 ^ a.level) ++ wi d (x + 2 ^ a.level) (y + 2 ^ a.level)).Nodup
    generalize (2 : Int) ^ a.level = h at *
    rw [List.nodup_append, List.nodup_append, List.nodup_append]
    refine ⟨⟨⟨na, nb, fun t ht u hu e => ?_⟩, nc, fun t ht u hu e => ?_⟩, nd, fun t ht u hu e => ?_⟩
    · subst e
      obtain ⟨i, j, i0, i1, j0, j1, _, rfl⟩ := (ia t).mp ht
      obtain ⟨i', j', i0', i1', j0', j1', _, e⟩ := (ib _).mp hu
      simp only [List.cons.injEq, and_true] at e
      omega
    · subst e
      obtain ⟨i', j', i0', i1', j0', j1', _, rfl⟩ := (ic t).mp hu
      rcases List.mem_append.mp ht with ht | ht
      · obtain ⟨i, j, i0, i1, j0, j1, _, e⟩ := (ia _).mp ht
        simp only [List.cons.injEq, and_true] at e
        omega
      · obtain ⟨i, j, i0, i1, j0, j1, _, e⟩ := (ib _).mp ht
        simp only [List.cons.injEq, and_true] at e
        omega
    · subst e
      obtain ⟨i', j', i0', i1', j0', j1', _, rfl⟩ := (id' t).mp hu
      rcases List.mem_append.mp ht with ht | ht
      · rcases List.mem_append.mp ht with ht | ht
        · obtain ⟨i, j, i0, i1, j0, j1, _, e⟩ := (ia _).mp ht
          simp only [List.cons.injEq, and_true] at e
          omega
        · obtain ⟨i, j, i0, i1, j0, j1, _, e⟩ := (ib _).mp ht
          simp only [List.cons.injEq, and_true] at e
          omega
      · obtain ⟨i, j, i0, i1, j0, j1, _, e⟩ := (ic _).mp ht
        simp only [List.cons.injEq, and_true] at e
        omega
/-- the living cells of a square about the middle -/
def Sq.cells (S : Sq) : List (List Int) := wi S (-S.half) (-S.half)
theorem mem_cells {S : Sq} (w : S.wf) (h : 1 ≤ S.level) (t : List Int) : t ∈ S.cells ↔ ∃ x y : Int, S.val x y ≠ 0 ∧ t = [y, x, S.val x y] := by
  unfold Sq.cells
  rw [mem_wi w, half_two h]
  constructor
  · rintro ⟨i, j, i0, i1, j0, j1, z, rfl⟩
    have e : S.val (-S.half + i) (-S.half + j) = S.get i j := by
      unfold Sq.val
      rw [if_pos (by omega), show -S.half + i + S.half = i by omega, show -S.half + j + S.half = j by omega]
    exact ⟨-S.half + i, -S.half + j, by rw [e]; exact z, by rw [e]⟩
  · rintro ⟨x, y, z, rfl⟩
    unfold Sq.val at z ⊢
    by_cases c : -S.half ≤ x ∧ x < S.half ∧ -S.half ≤ y ∧ y < S.half
    · rw [if_pos c] at z ⊢
      exact ⟨x + S.half, y + S.half, by omega, by omega, by omega, by omega, z, by rw [show -S.half + (y + S.half) = y by omega, show -S.half + (x + S.half) = x by omega]⟩
    · rw [if_neg c] at z; exact absurd rfl z
theorem cells_nodup {S : Sq} (w : S.wf) : S.cells.Nodup := wi_nodup w _ _
theorem wi_three : ∀ (S : Sq) (x y : Int), ∀ t ∈ wi S x y, t.length = 3
  | .leaf s, x, y, t, h => by
    have h' : t ∈ (if s = 0 then [] else [[y, x, s]] : List (List Int)) := h
    split at h'
    · cases h'
    · rw [List.mem_singleton] at h'; rw [h']; rfl
  | .node a b c d, x, y, t, h => by
    rcases List.mem_append.mp h with h | h
    · rcases List.mem_append.mp h with h | h
      · rcases List.mem_append.mp h with h | h
        · exact wi_three a _ _ t h
        · exact wi_three b _ _ t h
      · exact wi_three c _ _ t h
    · exact wi_three d _ _ t h
/-! #### what is remembered by numbers of squares -/
/-- each number once, each answer right -/
structure KQ (q : List Sq) (R : Sq → V → Prop) (kvs : List (Key × V)) : Prop where
  nd : (kvs.map Prod.fst).Nodup
  ok : ∀ e ∈ kvs, ∃ (n : Nat) (S : Sq), e.1 = Sum.inl (n : Int) ∧ q[n]? = some S ∧ R S e.2
theorem KQ.nil {q : List Sq} {R : Sq → V → Prop} : KQ q R [] := ⟨by simp, fun e h => by cases h⟩
theorem KQ.pre {q q' : List Sq} {R R' : Sq → V → Prop} {kvs : List (Key × V)} (h : KQ q R kvs) (p : q <+: q') (k : ∀ S v, R S v → R' S v) : KQ q' R' kvs := ⟨h.nd, fun e he => let ⟨n, S, a, b, c⟩ := h.ok e he; ⟨n, S, a, pre_get p b, k _ _ c⟩⟩
theorem valV_mem {κ : Type} [DecidableEq κ] {kvs : List (κ × V)} {k : κ} {v : V} (h : valV kvs k = some v) : (k, v) ∈ kvs := by
  unfold valV at h
  cases e : kvs.find? (fun p => decide (p.1 = k)) with
  | none => rw [e] at h; cases h
  | some p =>
    rw [e] at h
    cases h
    have h1 := List.find?_some e
    have h2 := List.mem_of_find?_eq_some e
    have : p.1 = k := of_decide_eq_true h1
    rw [← this]
    exact h2
theorem valV_nonek {κ : Type} [DecidableEq κ] {kvs : List (κ × V)} {k : κ} (h : valV kvs k = none) : k ∉ kvs.map Prod.fst := fun z => by
  obtain ⟨p, hp, e⟩ := List.mem_map.mp z
  unfold valV at h
  cases e2 : kvs.find? (fun p => decide (p.1 = k)) with
  | none =>
    have := List.find?_eq_none.mp e2 p hp
    exact this (decide_eq_true e)
  | some p => rw [e2] at h; cases h
theorem KQ.at {q : List Sq} {R : Sq → V → Prop} {kvs : List (Key × V)} (h : KQ q R kvs) {n : Nat} {S : Sq} {v : V} (hn : q[n]? = some S) (e : valV kvs (Sum.inl (n : Int)) = some v) : R S v := by
  obtain ⟨n', S', a, b, c⟩ := h.ok _ (valV_mem e)
  have : n = n' := by have a' : (Sum.inl (n : Int) : Key) = Sum.inl (n' : Int) := a; injection a' with a'; omega
  subst this
  rw [hn] at b; cases b
  exact c
theorem KQ.put {q : List Sq} {R : Sq → V → Prop} {kvs : List (Key × V)} (h : KQ q R kvs) {n : Nat} {S : Sq} {v : V} (hn : q[n]? = some S) (e : valV kvs (Sum.inl (n : Int)) = none) (hv : R S v) : KQ q R (putK kvs (Sum.inl (n : Int)) v) ∧ putK kvs (Sum.inl (n : Int)) v = kvs ++ [(Sum.inl (n : Int), v)] := by
  have ep : putK kvs (Sum.inl (n : Int)) v = kvs ++ [(Sum.inl (n : Int), v)] := putK_new _ e
  refine ⟨?_, ep⟩
  rw [ep]
  refine ⟨?_, fun x hx => ?_⟩
  · rw [List.map_append, List.nodup_append]
    refine ⟨h.nd, by simp, fun a ha b hb z => ?_⟩
    simp only [List.map_cons, List.map_nil, List.mem_singleton] at hb
    rw [z, hb] at ha
    exact valV_nonek e ha
  · rcases List.mem_append.mp hx with hx | hx
    · exact h.ok x hx
    · rw [List.mem_singleton] at hx
      subst hx
      exact ⟨n, S, rfl, hn, hv⟩
theorem KQ.put2 {q : List Sq} {R : Sq → V → Prop} {kvs : List (Key × V)} (h : KQ q R kvs) {n : Nat} {S : Sq} {v : V} (hn : q[n]? = some S) (hv : R S v) : KQ q R (putK kvs (Sum.inl (n : Int)) v) := by
  cases e : valV kvs (Sum.inl (n : Int)) with
  | none => exact (h.put hn e hv).1
  | some u =>
    have ep : putK kvs (Sum.inl (n : Int)) v = kvs.map fun kv => if kv.1 = Sum.inl (n : Int) then (kv.1, v) else kv := by
      unfold putK
      rw [valV_any, e]
      rfl
    rw [ep]
    refine ⟨?_, fun x hx => ?_⟩
    · rw [List.map_map]
      have em : (Prod.fst ∘ fun kv : Key × V => if kv.1 = Sum.inl (n : Int) then (kv.1, v) else kv) = Prod.fst := by
        funext kv
        show (if kv.1 = Sum.inl (n : Int) then (kv.1, v) else kv).1 = kv.1
        split <;> rfl
      rw [em]; exact h.nd
    · obtain ⟨y, hy, rfl⟩ := List.mem_map.mp hx
      by_cases z : y.1 = Sum.inl (n : Int)
      · rw [if_pos z]; exact ⟨n, S, z, hn, hv⟩
      · rw [if_neg z]; exact h.ok y hy
theorem KQ.len {q : List Sq} {R : Sq → V → Prop} {kvs : List (Key × V)} (h : KQ q R kvs) : kvs.length ≤ q.length := by
  have := nodup_sub_len (kvs.map Prod.fst) ((List.range q.length).map fun n : Nat => (Sum.inl (n : Int) : Key)) h.nd fun x hx => by
    obtain ⟨e, he, rfl⟩ := List.mem_map.mp hx
    obtain ⟨n, S, a, b, _⟩ := h.ok e he
    rw [a]
    exact List.mem_map.mpr ⟨n, List.mem_range.mpr (List.getElem?_eq_some_iff.mp b).1, rfl⟩
  rw [List.length_map, List.length_map, List.length_range] at this
  exact this
/-- but for one object all is as it was -/
def But (d : Addr) (H H' : Hp) : Prop := ∀ b o, H b = some o → b ≠ d → H' b = some o
theorem But.refl (d : Addr) (H : Hp) : But d H H := fun _ _ e _ => e
theorem But.trans {d : Addr} {H H1 H2 : Hp} (x : But d H H1) (y : But d H1 H2) : But d H H2 := fun b o e n => y b o (x b o e n) n
theorem But.of {d : Addr} {H H' : Hp} (s : Same H H') : But d H H' := fun b o e _ => s b o e
theorem But.put {d : Addr} {H : Hp} (o : HO) : But d H (upd H d o) := fun b u e n => by rw [upd_ne n]; exact e
theorem But.tup {d : Addr} {H H' : Hp} {kvs : List (Key × V)} (x : But d H H') (hd : H d = some (.dK kvs)) : Tup H H' := fun b ys e => x b _ e fun z => by rw [z, hd] at e; cases e
theorem GAt.but {C d : Addr} {H H' : Hp} {a : GA} {rows : List (Int × Addr)} {q : List Sq} {kvs : List (Key × V)} (G : GAt C H a rows q) (x : But d H H') (hd : H d = some (.dK kvs)) (out : d ∉ a.muts rows) : GAt C H' a rows q :=
  G.keep fun b o e z => x b o e fun y => by
    subst y
    rcases z with z | z
    · rw [hd] at e; cases e; exact z
    · exact out z
theorem But.same {d : Addr} {H H' : Hp} (x : But d H H') (hd : H d = none) : Same H H' := fun b o e => x b o e (ne_of_none e hd)
theorem TL.keep {H H' : Hp} {p : Addr} {xs : List (List Int)} (h : TL H p xs) (t : Tup H H') (e : ∀ o, H p = some o → H' p = some o) : TL H' p xs := let ⟨rs, a, b⟩ := h; ⟨rs, e _ a, b.keep t⟩
abbrev Rcnt : Sq → V → Prop := fun S v => v = .int S.lives
theorem rd_dnotin {σ : L2.St} {H : Hp} {Q : VK} {td ty : TE} (h : ty σ H fun y H1 => td σ H1 fun x H2 => ∃ a o, x = .ref a ∧ DGet H2 a y o ∧ Q (.bl (!o.isSome)) H2) : tDNotIn ty td σ H Q := h
section
variable {P : Program} {w : World} {K : PySem.W.Frag} {mg : Str → Option Value} {base : Heap}
def sp_count (C : Addr) (L : Nat) : Sp := fun vs H Q _ => ∃ (a : GA) (rows : List (Int × Addr)) (q : List Sq) (n : Nat) (S : Sq) (pk : Addr) (kvs : List (Key × V)), vs = [.ref a.g, .int (n : Int), .ref pk] ∧ GAt C H a rows q ∧ q[n]? = some S ∧ S.level ≤ L ∧ q.length ≤ 15000000 ∧ H pk = some (.dK kvs) ∧ pk ∉ a.muts rows ∧ KQ q Rcnt kvs ∧
  ∀ H' kvs', But pk H H' → H' pk = some (.dK kvs') → KQ q Rcnt kvs' → Q (.int S.lives) H'
theorem mp_count {C : Addr} {L : Nat} : MonP (sp_count C L) := fun vs H Q Q' E h ⟨a, rows, q, n, S, pk, kvs, x1, x2, x3, x4, x5, x6, x7, x8, k⟩ => ⟨a, rows, q, n, S, pk, kvs, x1, x2, x3, x4, x5, x6, x7, x8, fun H' kvs' b c d => h _ _ (k H' kvs' b c d)⟩
end
end JF

/-! ### fields walked down by quarters: the walk, drawn cells -/
namespace JF
open PySem PySem.Spec PyProof.Rows L2
/-- how many cells live in the outer parts of a square's quarters -/
def prt (S : Sq) (k j : Nat) : Sq := match S with
  | .node a b c d => (match ([a, b, c, d].getD k (.leaf 0)) with
    | .node e f g h => [e, f, g, h].getD j (.leaf 0)
    | .leaf _ => .leaf 0)
  | .leaf _ => .leaf 0
def oS (S : Sq) (k : Nat) : Nat → Int
  | 0 => 0
  | j + 1 => oS S k j + (if j = 3 - k then 0 else (prt S k j).lives)
def oT (S : Sq) : Nat → Int
  | 0 => 0
  | k + 1 => oT S k + oS S k 4
theorem oT_lives {S : Sq} (w : S.wf) (h : 2 ≤ S.level) : oT S 4 = S.lives - S.mid.lives := by
  obtain ⟨a1, a2, a3, a4, b1, b2, b3, b4, c1, c2, c3, c4, d1, d2, d3, d4, rfl⟩ := Sq.mid_form w h
  show (0 : Int) + (0 + a1.lives + a2.lives + a3.lives + 0) + (0 + b1.lives + b2.lives + 0 + b4.lives) + (0 + c1.lives + 0 + c3.lives + c4.lives) + (0 + 0 + d2.lives + d3.lives + d4.lives) = _
  simp only [Sq.lives, Sq.mid]
  omega
theorem flat_take {α : Type} (l : List (List α)) (i : Nat) : (l.take i).flatten.length ≤ l.flatten.length := by
  have e : l.flatten = (l.take i).flatten ++ (l.drop i).flatten := by rw [← List.flatten_append, List.take_append_drop]
  rw [e, List.length_append]
  omega
theorem flat_snoc {α : Type} {l : List (List α)} {i : Nat} {x : List α} (h : l[i]? = some x) : (l.take (i + 1)).flatten = (l.take i).flatten ++ x := by
  rw [take_snoc h, List.flatten_append]; simp
theorem TR.cat {H : Hp} : ∀ {rs rs' : List Addr} {xs xs' : List (List Int)}, TR H rs xs → TR H rs' xs' → TR H (rs ++ rs') (xs ++ xs')
  | [], _, [], _, _, h => h
  | r :: rs, _, x :: xs, _, h, h' => ⟨h.1, TR.cat h.2 h'⟩
  | [], _, _ :: _, _, h, _ => h.elim
  | _ :: _, _, [], _, h, _ => h.elim
/-- the rows of a dict by places -/
def rowE (e : List Key × V) : List Int := match e with
  | ([.inl x, .inl y], .int s) => [y, x, s]
  | _ => []
def PairD (kvs : List (List Key × V)) : Prop := (kvs.map Prod.fst).Nodup ∧ ∀ e ∈ kvs, ∃ x y s : Int, e = ([Sum.inl x, Sum.inl y], .int s)
def rowsD (kvs : List (List Key × V)) : List (List Int) := kvs.map rowE
theorem mulP {a b : Int} (h0 : 0 ≤ a) (h1 : a < 2 ^ 70) (h2 : 0 ≤ b) (h3 : b < 2 ^ 70) : CMulW a b := by
  have e1 : (2 : Int) ^ 70 ≤ 2 ^ 2000 := by decide +kernel
  exact mulW_of (by omega) (by omega) (by omega) (by omega)
theorem shlN {b i : Nat} : ((b : Nat) : Int) * 2 ^ ((i : Int)).toNat = b * 2 ^ i := by rw [Int.toNat_natCast]
section
variable {P : Program} {w : World} {K : PySem.W.Frag} {mg : Str → Option Value} {base : Heap}
def sp_wholeI : Sp := fun vs H Q _ => ∃ i : Int, vs = [.int i] ∧ Q (.bl true) H
theorem mp_wholeI : MonP sp_wholeI := fun vs H Q Q' E h ⟨i, x1, q⟩ => ⟨i, x1, h _ _ q⟩
def sp_mixW : Sp := fun vs H Q _ => ∃ c k : Int, vs = [.int c, .int k] ∧ 0 ≤ k ∧ k ≤ 5000 ∧ ∀ z : Int, 0 ≤ z → z < 2305843009213693951 → Q (.int z) H
theorem mp_mixW : MonP sp_mixW := fun vs H Q Q' E h ⟨c, k, x1, x2, x3, q⟩ => ⟨c, k, x1, x2, x3, fun z a b => h _ _ (q z a b)⟩
def sp_bitsW : Sp := fun vs H Q _ => ∃ c : Int, vs = [.int c] ∧ ∀ n : Nat, n ≤ 40 → Q (.int (n : Int)) H
theorem mp_bitsW : MonP sp_bitsW := fun vs H Q Q' E h ⟨c, x1, k⟩ => ⟨c, x1, fun n a => h _ _ (k n a)⟩
def sp_placeW : Sp := fun vs H Q _ => ∃ (c k : Int) (b : Nat), vs = [.int c, .int k, .int (b : Int)] ∧ 0 ≤ k ∧ k ≤ 5000 ∧ b ≤ 40 ∧ ∀ z : Int, -(2 ^ b) ≤ z → z < 2 ^ b → Q (.int z) H
theorem mp_placeW : MonP sp_placeW := fun vs H Q Q' E h ⟨c, k, b, x1, x2, x3, x4, q⟩ => ⟨c, k, b, x1, x2, x3, x4, fun z a b => h _ _ (q z a b)⟩
def sp_is_field (C : Addr) : Sp := fun vs H Q _ => ∃ (a : GA) (rows : List (Int × Addr)) (q : List Sq) (n : Nat) (S : Sq) (pk : Addr) (kvs : List (Key × V)), vs = [.ref a.g, .int (n : Int), .ref pk] ∧ GAt C H a rows q ∧ q[n]? = some S ∧ S.Least ∧ S.level ≤ 42 ∧ q.length ≤ 15000000 ∧ H pk = some (.dK kvs) ∧ pk ∉ a.muts rows ∧ KQ q Rcnt kvs ∧
  ∀ H' kvs', But pk H H' → H' pk = some (.dK kvs') → KQ q Rcnt kvs' → Q (.bl true) H'
theorem mp_is_field {C : Addr} : MonP (sp_is_field C) := fun vs H Q Q' E h ⟨a, rows, q, n, S, pk, kvs, x1, x2, x3, x4, x5, x6, x7, x8, x9, k⟩ => ⟨a, rows, q, n, S, pk, kvs, x1, x2, x3, x4, x5, x6, x7, x8, x9, fun H' kvs' b c d => h _ _ (k H' kvs' b c d)⟩
def sp_within (C : Addr) (L : Nat) : Sp := fun vs H Q _ => ∃ (a : GA) (rows : List (Int × Addr)) (q : List Sq) (n : Nat) (S : Sq) (x y : Int) (pk : Addr) (kvs : List (Key × V)), vs = [.ref a.g, .int (n : Int), .int x, .int y, .ref pk] ∧ GAt C H a rows q ∧ q[n]? = some S ∧ S.level ≤ L ∧ S.level ≤ 45 ∧ q.length ≤ 15000000 ∧ H pk = some (.dK kvs) ∧ pk ∉ a.muts rows ∧ KQ q Rcnt kvs ∧ S.lives ≤ 500 ∧
  ∀ H' kvs' l, But pk H H' → H' pk = some (.dK kvs') → KQ q Rcnt kvs' → H l = none → TL H' l (wi S x y) → Q (.ref l) H'
theorem mp_within {C : Addr} {L : Nat} : MonP (sp_within C L) := fun vs H Q Q' E h ⟨a, rows, q, n, S, x, y, pk, kvs, x1, x2, x3, x4, x5, x6, x7, x8, x9, y1, k⟩ => ⟨a, rows, q, n, S, x, y, pk, kvs, x1, x2, x3, x4, x5, x6, x7, x8, x9, y1, fun H' kvs' l b c d e f => h _ _ (k H' kvs' l b c d e f)⟩
end
end JF

/-! ### fields walked down by quarters: sorted, compared; drawn cells -/
namespace JF
open PySem PySem.Spec PyProof.Rows L2
theorem snoc_get2 {α : Type} {l : List α} {x y : α} {j : Nat} (h : (l ++ [x])[j]? = some y) : l[j]? = some y ∨ (j = l.length ∧ y = x) := by
  rcases Nat.lt_or_ge j l.length with hj | hj
  · rw [List.getElem?_append_left hj] at h
    exact .inl h
  · obtain rfl : j = l.length := by
      have := (List.getElem?_eq_some_iff.mp h).1
      rw [List.length_append] at this
      simp at this
      omega
    rw [List.getElem?_append_right (Nat.le_refl _), Nat.sub_self] at h
    cases h
    exact .inr ⟨rfl, rfl⟩
theorem none_ofW {H H' : Hp} (s : Same H H') {b : Addr} (h : H' b = none) : H b = none := by
  cases e : H b with
  | none => rfl
  | some o => rw [s _ _ e] at h; cases h
theorem Same.putW {H0 H : Hp} {p : Addr} {o : HO} (s : Same H0 H) (h : H0 p = none) : Same H0 (upd H p o) := fun b u e => by
  rw [upd_ne (ne_of_none e h)]
  exact s _ _ e
theorem eqvAll_tr : ∀ xs ys : List (List Int), PyData.eqvAll (xs.map fun x => PyData.tuple (x.map PyData.int)) (ys.map fun x => PyData.tuple (x.map PyData.int)) = decide (xs = ys)
  | [], [] => by simp [PyData.eqvAll]
  | [], _ :: _ => by simp [PyData.eqvAll]
  | _ :: _, [] => by simp [PyData.eqvAll]
  | x :: xs, y :: ys => by
    simp only [List.map_cons, PyData.eqvAll, PyData.eqv, eqvAll_ints x y, eqvAll_tr xs ys, List.cons.injEq]
    by_cases a : x = y <;> by_cases b : xs = ys <;> simp [a, b]
theorem rd_eqTL {K : PySem.W.Frag} {H : Hp} {Q : VK} {p p' : Addr} {xs ys : List (List Int)} (h : TL H p xs) (h' : TL H p' ys) (q : Q (.bl (decide (xs = ys))) H) : rEqD K (.ref p) (.ref p') H Q := by
  obtain ⟨rs, h1, h2⟩ := h
  obtain ⟨rs', h1', h2'⟩ := h'
  refine ⟨_, _, .lst (SqL.of h1) (dp_tr h2), .lst (SqL.of h1') (dp_tr h2'), shaped_tr xs, shaped_tr ys, ?_⟩
  have e : PyData.eqv (.list (xs.map fun x => PyData.tuple (x.map PyData.int))) (.list (ys.map fun x => PyData.tuple (x.map PyData.int))) = decide (xs = ys) := by rw [← eqvAll_tr]; simp only [PyData.eqv]
  rw [e]; exact q
theorem rd_neTL {K : PySem.W.Frag} {H : Hp} {Q : VK} {p p' : Addr} {xs ys : List (List Int)} (h : TL H p xs) (h' : TL H p' ys) (q : Q (.bl (!decide (xs = ys))) H) : rNeD K (.ref p) (.ref p') H Q := by
  obtain ⟨rs, h1, h2⟩ := h
  obtain ⟨rs', h1', h2'⟩ := h'
  refine ⟨_, _, .lst (SqL.of h1) (dp_tr h2), .lst (SqL.of h1') (dp_tr h2'), shaped_tr xs, shaped_tr ys, ?_⟩
  have e : PyData.eqv (.list (xs.map fun x => PyData.tuple (x.map PyData.int))) (.list (ys.map fun x => PyData.tuple (x.map PyData.int))) = decide (xs = ys) := by rw [← eqvAll_tr]; simp only [PyData.eqv]
  rw [e]; exact q
/-! #### dicts by places -/
def dv (kvs : List (List Key × V)) (x y : Int) : Int := match valV kvs [Sum.inl x, Sum.inl y] with
  | some (.int s) => s
  | _ => 0
theorem dv_put (kvs : List (List Key × V)) (a b s x y : Int) : dv (putK kvs [Sum.inl a, Sum.inl b] (.int s)) x y = if x = a ∧ y = b then s else dv kvs x y := by
  unfold dv
  rw [valV_put]
  by_cases h : x = a ∧ y = b
  · rw [if_pos h, if_pos (by rw [h.1, h.2])]
  · rw [if_neg h, if_neg (fun z => by
      simp only [List.cons.injEq, Sum.inl.injEq, and_true] at z
      exact h z)]
theorem putK_cases {κ : Type} [DecidableEq κ] {kvs : List (κ × V)} {k : κ} {x : V} {e : κ × V} (h : e ∈ putK kvs k x) : e ∈ kvs ∨ e = (k, x) := by
  unfold putK at h
  split at h
  · obtain ⟨e', m, z⟩ := List.mem_map.mp h
    by_cases y : e'.1 = k
    · rw [if_pos y] at z
      exact .inr (by rw [← z, y])
    · rw [if_neg y] at z
      exact .inl (z ▸ m)
  · rcases List.mem_append.mp h with m | m
    · exact .inl m
    · exact .inr (List.mem_singleton.mp m)
theorem putK_nodup {κ : Type} [DecidableEq κ] {kvs : List (κ × V)} {k : κ} {x : V} (h : (kvs.map Prod.fst).Nodup) : ((putK kvs k x).map Prod.fst).Nodup := by
  cases e : valV kvs k with
  | none =>
    rw [putK_new _ e, List.map_append, List.nodup_append]
    refine ⟨h, by simp, fun a ha b hb z => ?_⟩
    simp only [List.map_cons, List.map_nil, List.mem_singleton] at hb
    rw [z, hb] at ha
    exact valV_nonek e ha
  | some u =>
    unfold putK
    rw [valV_any, e]
    show ((kvs.map fun kv => if kv.1 = k then (kv.1, x) else kv).map Prod.fst).Nodup
    rw [List.map_map]
    have em : (Prod.fst ∘ fun kv : κ × V => if kv.1 = k then (kv.1, x) else kv) = Prod.fst := by
      funext kv
      show (if kv.1 = k then (kv.1, x) else kv).1 = kv.1
      split <;> rfl
    rw [em]; exact h
theorem PairD.nil : PairD [] := ⟨by simp, fun e h => by cases h⟩
theorem PairD.put {kvs : List (List Key × V)} (h : PairD kvs) (a b s : Int) : PairD (putK kvs [Sum.inl a, Sum.inl b] (.int s)) :=
  ⟨putK_nodup h.1, fun e he => by
    rcases putK_cases he with m | m
    · exact h.2 e m
    · exact ⟨a, b, s, m⟩⟩
def NZ (kvs : List (List Key × V)) : Prop := ∀ e ∈ kvs, e.2 ≠ .int 0
theorem NZ.nil : NZ [] := fun e h => by cases h
theorem NZ.put {kvs : List (List Key × V)} (h : NZ kvs) {s : Int} (hs : s ≠ 0) (k : List Key) : NZ (putK kvs k (.int s)) := fun e he => by
  rcases putK_cases he with m | m
  · exact h e m
  · rw [m]; intro z; injection z with z; exact hs z
theorem mem_valV {κ : Type} [DecidableEq κ] : ∀ {kvs : List (κ × V)} {k : κ} {v : V}, (kvs.map Prod.fst).Nodup → (k, v) ∈ kvs → valV kvs k = some v
  | [], _, _, _, h => by cases h
  | p :: r, k, v, nd, h => by
    rw [List.map_cons, List.nodup_cons] at nd
    rcases List.mem_cons.mp h with h | h
    · subst h; exact valV_pos rfl
    · have ne : ¬ p.1 = k := fun z => nd.1 (by rw [z]; exact List.mem_map.mpr ⟨_, h, rfl⟩)
      rw [valV_neg ne]
      exact mem_valV nd.2 h
theorem mem_rowsD {kvs : List (List Key × V)} (h : PairD kvs) (z : NZ kvs) (t : List Int) : t ∈ rowsD kvs ↔ ∃ x y : Int, dv kvs x y ≠ 0 ∧ t = [y, x, dv kvs x y] := by
  unfold rowsD
  rw [List.mem_map]
  constructor
  · rintro ⟨e, he, rfl⟩
    obtain ⟨x, y, s, rfl⟩ := h.2 e he
    have ev : dv kvs x y = s := by unfold dv; rw [mem_valV h.1 he]
    refine ⟨x, y, ?_, ?_⟩
    · rw [ev]; intro w; exact z _ he (by rw [w])
    · rw [ev]; rfl
  · rintro ⟨x, y, ne, rfl⟩
    unfold dv at ne ⊢
    cases e : valV kvs [Sum.inl x, Sum.inl y] with
    | none => rw [e] at ne; exact absurd rfl ne
    | some v =>
      have hm := valV_mem e
      obtain ⟨x', y', s, e2⟩ := h.2 _ hm
      simp only [Prod.mk.injEq, List.cons.injEq, Sum.inl.injEq, and_true] at e2
      obtain ⟨⟨rfl, rfl⟩, rfl⟩ := e2
      exact ⟨_, hm, rfl⟩
theorem rowsD_nodup {kvs : List (List Key × V)} (h : PairD kvs) : (rowsD kvs).Nodup := by
  unfold rowsD
  have p : kvs.Pairwise fun a b => a.1 ≠ b.1 := List.pairwise_map.mp h.1
  refine List.pairwise_map.mpr (p.imp_of_mem fun {a b} ha hb ne e => ?_)
  obtain ⟨x, y, s, rfl⟩ := h.2 a ha
  obtain ⟨x', y', s', rfl⟩ := h.2 b hb
  have e' : [y, x, s] = [y', x', s'] := e
  simp only [List.cons.injEq, and_true] at e'
  obtain ⟨rfl, rfl, _⟩ := e'
  exact ne rfl
/-- the dict of what lives, the field -/
theorem rows_cells {kvs : List (List Key × V)} {S : Sq} (h : PairD kvs) (z : NZ kvs) (w : S.wf) (l : 1 ≤ S.level) (e : ∀ x y, dv kvs x y = S.val x y) : (rowsD kvs).Perm S.cells :=
  perm_of_mem (rowsD_nodup h) (cells_nodup w) fun t => by
    rw [mem_rowsD h z, mem_cells w l]
    simp only [e]
section
variable {P : Program} {w : World} {K : PySem.W.Frag} {mg : Str → Option Value} {base : Heap}
def sp_walked (C : Addr) : Sp := fun vs H Q _ => ∃ (a : GA) (rows : List (Int × Addr)) (q : List Sq) (n : Nat) (S : Sq), vs = [.ref a.g, .int (n : Int)] ∧ GAt C H a rows q ∧ q[n]? = some S ∧ S.Least ∧ S.level ≤ 42 ∧ q.length ≤ 15000000 ∧ S.lives ≤ 400 ∧
  ∀ H' l xs, Same H H' → H l = none → TL H' l xs → SrtL xs → xs.Perm S.cells → Q (.ref l) H'
theorem mp_walked {C : Addr} : MonP (sp_walked C) := fun vs H Q Q' E h ⟨a, rows, q, n, S, x1, x2, x3, x4, x5, x6, x7, k⟩ => ⟨a, rows, q, n, S, x1, x2, x3, x4, x5, x6, x7, fun H' l xs b c d e f => h _ _ (k H' l xs b c d e f)⟩
def sp_sortedD : Sp := fun vs H Q _ => ∃ (pd : Addr) (kvs : List (List Key × V)), vs = [.ref pd] ∧ H pd = some (.dT kvs) ∧ PairD kvs ∧ kvs.length ≤ 5000 ∧ ∀ H' l xs, Same H H' → H l = none → TL H' l xs → SrtL xs → xs.Perm (rowsD kvs) → Q (.ref l) H'
theorem mp_sortedD : MonP sp_sortedD := fun vs H Q Q' E h ⟨pd, kvs, x1, x2, x3, x4, k⟩ => ⟨pd, kvs, x1, x2, x3, x4, fun H' l xs b c d e f => h _ _ (k H' l xs b c d e f)⟩
def sp_cells_by (K : PySem.W.Frag) : Sp := fun vs H Q _ => ∃ (a : Addr) (ns : List Int) (fst : Int) (b : Nat), vs = [.ref a, .int fst, .int (b : Int)] ∧ SqL K H a (ns.map V.int) ∧ 0 ≤ fst ∧ b ≤ 40 ∧
  ∀ H' l (cs : List Cell3), Same H H' → H l = none → TL H' l (cs.map c3) → cs.length ≤ 12 → (∀ c ∈ cs, InGround c.1 c.2.1 ∧ 1 ≤ c.2.2 ∧ c.2.2 ≤ 7) → Q (.ref l) H'
theorem mp_cells_by : MonP (sp_cells_by K) := fun vs H Q Q' E h ⟨a, ns, f, b, x1, x2, x3, x4, k⟩ => ⟨a, ns, f, b, x1, x2, x3, x4, fun H' l cs b c d e f => h _ _ (k H' l cs b c d e f)⟩
theorem ground_of {b : Nat} (hb : b ≤ 40) {x y : Int} (x0 : -(2 ^ b) ≤ x) (x1 : x < 2 ^ b) (y0 : -(2 ^ b) ≤ y) (y1 : y < 2 ^ b) : InGround x y := by
  have e : (2 : Int) ^ 40 = 1099511627776 := by decide
  have h := two_mono hb
  rw [e] at h
  unfold InGround
  omega
end
end JF

/-! ### fields of the least level with the same values are the same square -/
namespace JF
open PySem PySem.Spec PyProof.Rows L2
theorem sq_ext : ∀ {S T : Sq}, S.wf → T.wf → S.level = T.level → (∀ x y : Int, 0 ≤ x → x < 2 ^ S.level → 0 ≤ y → y < 2 ^ S.level → S.get x y = T.get x y) → S = T
  | .leaf s, .leaf t, _, _, _, h => by
    have e : s = t := h 0 0 (by decide) (by show (0 : Int) < 1; decide) (by decide) (by show (0 : Int) < 1; decide)
    rw [e]
  | .leaf s, .node a b c d, _, _, e, _ => by cases e
  | .node a b c d, .leaf t, _, _, e, _ => by cases e
  | .node a b c d, .node a' b' c' d', w, w', e, h => by
    obtain ⟨wa, wb, wc, wd, e1, e2, e3⟩ := id w
    obtain ⟨wa', wb', wc', wd', f1, f2, f3⟩ := id w'
    have el : a.level = a'.level := by
      have z : a.level + 1 = a'.level + 1 := e
      omega
    have g := fun {u v : Int} (u0 : 0 ≤ u) (u1 : u < 2 ^ a.level) (v0 : 0 ≤ v) (v1 : v < 2 ^ a.level) => get_nodeW w u0 u1 v0 v1
    have g' := fun {u v : Int} (u0 : 0 ≤ u) (u1 : u < 2 ^ a'.level) (v0 : 0 ≤ v) (v1 : v < 2 ^ a'.level) => get_nodeW w' u0 u1 v0 v1
    rw [← el] at g'
    have e2p : (2 : Int) ^ (Sq.node a b c d).level = 2 * 2 ^ a.level := Sq.two_succ _
    rw [e2p] at h
    have hp := Sq.two_pos a.level
    have ha : a = a' := sq_ext wa wa' el fun x y x0 x1 y0 y1 => by
      rw [← (g x0 x1 y0 y1).1, ← (g' x0 x1 y0 y1).1]
      exact h x y x0 (by omega) y0 (by omega)
    have hb : b = b' := sq_ext wb wb' (by omega) fun x y x0 x1 y0 y1 => by
      rw [e1] at x1 y1
      rw [← (g x0 x1 y0 y1).2.1, ← (g' x0 x1 y0 y1).2.1]
      exact h (x + 2 ^ a.level) y (by omega) (by omega) y0 (by omega)
    have hc : c = c' := sq_ext wc wc' (by omega) fun x y x0 x1 y0 y1 => by
      rw [e2] at x1 y1
      rw [← (g x0 x1 y0 y1).2.2.1, ← (g' x0 x1 y0 y1).2.2.1]
      exact h x (y + 2 ^ a.level) x0 (by omega) (by omega) (by omega)
    have hd : d = d' := sq_ext wd wd' (by omega) fun x y x0 x1 y0 y1 => by
      rw [e3] at x1 y1
      rw [← (g x0 x1 y0 y1).2.2.2, ← (g' x0 x1 y0 y1).2.2.2]
      exact h (x + 2 ^ a.level) (y + 2 ^ a.level) (by omega) (by omega) (by omega) (by omega)
    rw [ha, hb, hc, hd]
theorem least_le {S T : Sq} (wT : T.wf) (h1 : 1 ≤ S.level) (hL : T.Least) (hv : ∀ x y, S.val x y = T.val x y) : T.level ≤ S.level := by
  apply Decidable.byContradiction
  intro z
  rcases hL with e | ⟨h2, hl⟩
  · omega
  · obtain ⟨x, y, hxy, hn⟩ := least_out wT h2 hl
    rw [← hv] at hxy
    have y' := (val_in hxy).mono h1 (T.level - 1 - S.level)
    have e : S.level + (T.level - 1 - S.level) = T.level - 1 := by omega
    rw [e] at y'
    exact hn y'
theorem least_eq {S T : Sq} (wS : S.wf) (wT : T.wf) (hS1 : 1 ≤ S.level) (hT1 : 1 ≤ T.level) (hS : S.Least) (hT : T.Least) (hv : ∀ x y, S.val x y = T.val x y) : S = T := by
  have el : S.level = T.level := Nat.le_antisymm (least_le wS hT1 hS fun x y => (hv x y).symm) (least_le wT hS1 hT hv)
  have hh : S.half = T.half := by unfold Sq.half; rw [el]
  have h2 := half_two hS1
  refine sq_ext wS wT el fun x y x0 x1 y0 y1 => ?_
  have z := hv (x - S.half) (y - S.half)
  unfold Sq.val at z
  rw [← hh, if_pos (by omega), if_pos (by omega)] at z
  have e1 : x - S.half + S.half = x := by omega
  have e2 : y - S.half + S.half = y := by omega
  rw [e1, e2] at z
  exact z
end JF

/-! ### sorted by a key of one's own: rows of three numbers, by the second, then by the first -/
namespace JF
open PySem PySem.Spec PyProof.Rows L2
/-- a heap without one object -/
def dropAt (h : Heap) (k : Addr) : Heap := { h with objs := h.objs.setIfInBounds k { cls := .none, data := .freed } }
theorem dropAt_self (h : Heap) (k : Addr) : (dropAt h k).get? k = none := by
  unfold dropAt Heap.get?
  by_cases c : k < h.objs.size
  · simp [Array.getElem?_setIfInBounds, c]
  · simp [Array.getElem?_setIfInBounds, c]
theorem dropAt_ne (h : Heap) {k b : Addr} (n : b ≠ k) : (dropAt h k).get? b = h.get? b := by
  unfold dropAt Heap.get?
  simp [Array.getElem?_setIfInBounds, Ne.symm n]
def ordC (a b : Cell3) : Bool := decide (a.2.1 < b.2.1 ∨ (a.2.1 = b.2.1 ∧ a.1 ≤ b.1))
def byD (c : Cell3) : PyData := .tuple [.int c.2.1, .int c.1]
/-- what the key's function promises -/
def sp_by : Sp := fun vs H Q _ => ∃ (t : Addr) (x y s : Int), vs = [.ref t] ∧ H t = some (.tup [.int x, .int y, .int s]) ∧ ∀ u, H u = none → Q (.ref u) (upd H u (.tup [.int y, .int x]))
def rSortBy (K : PySem.W.Frag) (f : Addr) : List V → List V → Hp → VK → Prop := fun vs zs H Q => ∃ (p : Addr) (rs : List Addr) (cs : List Cell3), vs = [.ref p] ∧ zs = [.ref f] ∧ SqL K H p (rs.map V.ref) ∧ TR H rs (cs.map c3) ∧
  ∀ H' (rs' : List Addr) p', Same H H' → H p' = none → H' p' = some (.lst (rs'.map V.ref)) → TR H' rs' ((cs.mergeSort ordC).map c3) → Q (.ref p') H'
section
variable {X : Cx} {pins : List (Addr × Obj)} {σ : L2.St} {H : Hp} {s : Shared}
theorem reads_of {t : Addr} {y x : Int} (I : Inv X pins σ H s) (h : H t = some (.tup [.int y, .int x])) : Reads s.heap (.ref t) (.tuple [.int y, .int x]) [] := by
  obtain ⟨z, its, r, ob, e, c, n, d⟩ := I.hok t _ h
  obtain ⟨u1, u2, rfl, ⟨t1, rfl⟩, ⟨t2, rfl⟩⟩ := vals2 r
  exact Reads.tuple e c d (ReadsAll.cons (as := []) (bs := []) (Reads.int _ _) (ReadsAll.cons (as := []) (bs := []) (Reads.int _ _) ReadsAll.nil))
/-- where all but two objects of our own are kept, and one of these is a list now -/
theorem Inv.two {kS a : Addr} {s' : Shared} {ys : List V} {its : List Value} {n : Nat} (I : Inv X pins σ H s) (hos : s'.os = s.os) (bare : AllBare s'.gens) (k : ∀ b o, b ≠ kS → b ≠ a → s.heap.get? b = some o → s'.heap.get? b = some o) (hka : H kS = none) (ha : H a = none)
    (e : s'.heap.get? a = some { cls := .type "list", data := .seq its.toArray n }) (hv : Vals ys its) (hz : ys.length ≤ sizeLine)
    (own : ∀ b ∈ [kS, a], (b ∈ X.ex ∨ X.s_0.heap.objs.size ≤ b) ∧ b ≠ X.env.locals ∧ (∀ x c, X.env.cells.lookup x = some c → c ≠ b) ∧ ∀ p ∈ X.pn ++ pins, p.1 ≠ b) : Inv X pins σ (upd H a (.lst ys)) s' := by
  have out : ∀ {b : Addr}, b ∉ [kS, a] → b ≠ kS ∧ b ≠ a := fun {b} n => ⟨fun z => n (by rw [z]; exact List.mem_cons_self), fun z => n (by rw [z]; simp)⟩
  have ne : ∀ {b : Addr} {o : HO}, H b = some o → b ≠ kS ∧ b ≠ a := fun {b o} q => ⟨(fun z => by rw [z, hka] at q; cases q), fun z => by rw [z, ha] at q; cases q⟩
  refine I.call' (ch := [kS, a]) hos ⟨fun b o q _ _ nb => k b o (out nb).1 (out nb).2 q, fun b o q _ _ nb => ⟨o.slots, by rw [k b o (out nb).1 (out nb).2 q]⟩, fun b o q f nb => by rw [upd_ne (out nb).2]; exact f, fun b o q nb => ⟨o, k b o (out nb).1 (out nb).2 q⟩, fun b xs q => by rw [upd_ne (ne q).2]; exact q, fun b o u q => by rw [upd_ne (ne q).2]; exact q, fun b ps q => ⟨#[], by rw [upd_ne (ne q).2, q]; simp⟩⟩ (fun b o q => ?_) bare own
  by_cases c : b = a
  · rw [c, upd_same] at q
    cases q
    rw [c]
    exact ⟨hz, its, n, hv, e⟩
  · rw [upd_ne c] at q
    have nb := ne q
    refine (I.hok b o q).stay (fun d u hd g => ?_) (fun d q' => by rw [upd_ne (ne q').2]; exact q') fun d xs q' => by rw [upd_ne (ne q').2]; exact q'
    rcases hd with hd | hd
    · rw [hd] at g ⊢; exact k b u nb.1 nb.2 g
    · exact k d u (ne hd).1 (ne hd).2 g
/-- an address that is new to us -/
structure NewAt (X : Cx) (pins : List (Addr × Obj)) (b : Addr) : Prop where
  s0 : X.s_0.heap.objs.size ≤ b
  loc : b ≠ X.env.locals
  cell : ∀ x c, X.env.cells.lookup x = some c → c ≠ b
  pin : ∀ p ∈ X.pn ++ pins, p.1 ≠ b
  fs : b ∉ X.fs
theorem NewAt.of {b : Addr} (I : Inv X pins σ H s) (h : s.heap.objs.size ≤ b) : NewAt X pins b := by
  have lt : ∀ {c : Addr} {o : Obj}, s.heap.get? c = some o → c ≠ b := fun {c o} e z => by
    have l := Heap.lt_size e
    rw [z] at l
    exact absurd l (Nat.not_lt_of_le h)
  refine ⟨Nat.le_trans I.sz h, fun z => ?_, fun x c e => ?_, fun p hp => lt (I.pin p hp).1, I.nofs h⟩
  · have l := I.lt
    rw [← z] at l
    exact absurd l (Nat.not_lt_of_le h)
  · obtain ⟨v, hv⟩ := I.cell x c e
    obtain ⟨o, ho, _⟩ := hv
    exact lt ho
/-- one turn: the key of a row -/
theorem key_turn {x pn : Str} {j : Nat} {t : Addr} {c : Cell3} {E : Value → Shared → Prop} (G : Good X.prog X.w X.K X.mg X.base CX0 j (x, none) [pn] sp_by) (hr : Room (j + 2) X.A) (I : Inv X pins σ H s) (ht : H t = some (.tup ((c3 c).map V.int))) :
    wpAny (model X.prog X.w) X.A.in1.in1 (call (.ref (He.fAd X.K (x, none))) [.ref t]) (fun u s' => ∃ H' t', Inv X pins σ H' s' ∧ Same H H' ∧ u = .ref t' ∧ H' t' = some (.tup [.int c.2.1, .int c.1])) E s := by
  obtain ⟨fd, F, b, kp, lk⟩ := G
  have bb := b s [.ref t] I.kIn rfl
  rw [List.append_nil] at bb
  obtain ⟨cx, cy, cz⟩ := c
  have ht' : H t = some (.tup [.int cx, .int cy, .int cz]) := ht
  refine wpAny_call (codeAny_mono (F.run X.A.in1.in1 X.stack s H ⟨[.ref t], []⟩ [.ref t] [.ref t] (fun v H' => Same H H' ∧ ∃ t', v = .ref t' ∧ H' t' = some (.tup [.int cy, .int cx])) (fun _ _ _ => False) hr.in1.in1 I.env0.in1.in1 bb (.cons rfl .nil)
    ⟨t, cx, cy, cz, rfl, ht', fun u hu => ⟨same_upd hu, u, rfl, upd_same⟩⟩) fun r s' hq => ?_)
  cases r with
  | error e => exact hq.elim
  | ok fl =>
    cases fl with
    | ret u =>
      obtain ⟨v', H', I', rv, sm, t', rfl, e⟩ := I.after hq
      exact ⟨H', t', I', sm, rv, e⟩
    | next => exact hq.elim
    | brk => exact hq.elim
    | cont => exact hq.elim
def RKey (H : Hp) (v : Value) (c : Cell3) : Prop := ∃ t, v = .ref t ∧ H t = some (.tup [.int c.2.1, .int c.1])
def RRow (H : Hp) (v : Value) (c : Cell3) : Prop := ∃ t, v = .ref t ∧ H t = some (.tup ((c3 c).map V.int))
theorem rows_each {H : Hp} : ∀ {rs : List Addr} {its : List Value} {cs : List Cell3}, Vals (rs.map V.ref) its → TR H rs (cs.map c3) → PySem.W.EachIs (RRow H) its cs
  | [], its, [], r, _ => by
    cases r
    exact PySem.W.EachIs.nil
  | a :: rs, its, c :: cs, r, tr => by
    cases r with
    | cons r1 r2 =>
      cases r1
      exact PySem.W.EachIs.cons ⟨a, rfl, tr.1⟩ (rows_each r2 tr.2)
  | [], _, _ :: _, _, tr => tr.elim
  | _ :: _, _, [], _, tr => tr.elim
theorem each_rows {H : Hp} : ∀ {out : List Value} {cs : List Cell3}, PySem.W.EachIs (RRow H) out cs → ∃ rs : List Addr, Vals (rs.map V.ref) out ∧ TR H rs (cs.map c3) ∧ rs.length = cs.length
  | [], [], .nil => ⟨[], .nil, trivial, rfl⟩
  | v :: out, c :: cs, .cons h r => by
    obtain ⟨t, rfl, ht⟩ := h
    obtain ⟨rs, a, b, l⟩ := each_rows r
    exact ⟨t :: rs, .cons rfl a, ⟨ht, b⟩, by rw [List.length_cons, List.length_cons, l]⟩
abbrev seqL (its : Array Value) (n : Nat) : Obj := PyProof.Rows.seqObj "list" its n
/-- the pair of objects that is ours while the sorting goes on -/
abbrev pinsS (kS a : Addr) (kA : Array Value) (e e1 : Nat) (pins : List (Addr × Obj)) : List (Addr × Obj) := (kS, seqL kA e) :: (a, seqL #[] e1) :: pins
theorem pin_two {kS a : Addr} {kA : Array Value} {e e1 : Nat} (I : Inv X pins σ H s) (nk : NewAt X pins kS) (na : NewAt X pins a) (hk : H kS = none) (ha : H a = none) (gk : s.heap.get? kS = some (seqL kA e)) (ga : s.heap.get? a = some (seqL #[] e1)) : Inv X (pinsS kS a kA e e1 pins) σ H s :=
  I.pins_of fun p hp => by
    rcases List.mem_cons.mp hp with z | hp
    · rw [z]; exact ⟨gk, hk, nk.loc, nk.fs, fun v => by intro w; cases w⟩
    rcases List.mem_cons.mp hp with z | hp
    · rw [z]; exact ⟨ga, ha, na.loc, na.fs, fun v => by intro w; cases w⟩
    · exact I.pin p (List.mem_append_right _ hp)
theorem unpin_two {kS a : Addr} {kA : Array Value} {e e1 : Nat} (I : Inv X (pinsS kS a kA e e1 pins) σ H s) : Inv X pins σ H s := I.pins_of fun p hp => I.pin p (List.mem_append_right _ (List.mem_cons_of_mem _ (List.mem_cons_of_mem _ hp)))
/-- a key more is kept -/
theorem push_key {kS a : Addr} {kA : Array Value} {e e1 tk : Nat} {v : Value} (I : Inv X (pinsS kS a kA e e1 pins) σ H s) (nk : NewAt X pins kS) (na : NewAt X pins a) (hka : kS ≠ a) :
    ∃ e', Inv X (pinsS kS a (kA.push v) e' e1 pins) σ H { s with heap := s.heap.update kS (Obj.mapSeq (·.push v)), toks := tk } := by
  have pk := I.pin (kS, seqL kA e) (List.mem_append_right _ List.mem_cons_self)
  have pa := I.pin (a, seqL #[] e1) (List.mem_append_right _ (List.mem_cons_of_mem _ List.mem_cons_self))
  have gk := get?_update_seq pk.1 (·.push v)
  have oth : ∀ b o, b ≠ kS → s.heap.get? b = some o → (s.heap.update kS (Obj.mapSeq (·.push v))).get? b = some o := fun b o n q => (Heap.get?_update_other s.heap (Obj.mapSeq (·.push v)) (Ne.symm n)).trans q
  have I0 := unpin_two I
  have I1 : Inv X pins σ H { s with heap := s.heap.update kS (Obj.mapSeq (·.push v)), toks := tk } := I0.turned (it := kS) oth pk.2.1 nk.loc (.inr nk.s0) nk.cell nk.pin
  exact ⟨_, pin_two I1 nk na pk.2.1 pa.2.1 gk (oth _ _ hka.symm pa.1)⟩
open PySem.W in
/-- the keys, one by one, then the sorting -/
theorem sort_rest {x pn : Str} {j : Nat} {kS a : Addr} {e1 : Nat} {its : List Value} {cs : List Cell3} {E' : Value → Shared → Prop} {P : PySem.Fin → Shared → Prop} (G : Good X.prog X.w X.K X.mg X.base CX0 j (x, none) [pn] sp_by) (hr : Room (j + 2) X.A)
    (I : Inv X (pinsS kS a #[] 0 e1 pins) σ H s) (nk : NewAt X pins kS) (na : NewAt X pins a) (hka : kS ≠ a) (each : EachIs (RRow H) its cs) (hz : its.length ≤ sizeLine)
    (fin : ∀ (s' : Shared) (H' : Hp) (rs' : List Addr), Inv X pins σ (upd H' a (.lst (rs'.map V.ref))) s' → Same H H' → H' a = none → TR H' rs' ((cs.mergeSort ordC).map c3) → P (.done (.ret .none)) s') :
    wpAny (model X.prog X.w) X.A.in1.in1 (ksk_rest a (.ref (He.fAd X.K (x, none))) false its.toArray e1 (.ref kS)) P E' s := by
  have len := each.length
  have hu := hr.units
  unfold ksk_rest
  refine (wpAny_bind (wpAny_rule ?_))
  first
    | rw [List.forIn_toArray]
    | (rw [← Array.forIn_toList]; simp only [List.toList_toArray])
  refine (wpAny_bind (ksk_fold (fun i z => ∃ (Hi : Hp) (kA : Array Value) (e : Nat), Inv X (pinsS kS a kA e e1 pins) σ Hi z ∧ Same H Hi ∧ EachIs (RKey Hi) kA.toList (cs.take i)) its 0 s ⟨H, #[], 0, I, Same.refl _, by rw [List.take_zero]; exact EachIs.nil⟩ ?turn ?last))
  case turn =>
    rintro i v z hv ⟨Hi, kA, e, Iz, sm, hk⟩
    simp only [Nat.zero_add] at hk ⊢
    have hi : i < its.length := (List.getElem?_eq_some_iff.mp hv).1
    have hi2 : i < cs.length := by omega
    have hc : cs[i]? = some cs[i] := at_get hi2
    obtain ⟨t, rfl, ht⟩ : RRow H v cs[i] := each.zip (v, cs[i]) (List.mem_of_getElem? (i := i) (by rw [List.getElem?_zip_eq_some]; exact ⟨hv, hc⟩))
    have kl : kA.size ≤ its.length := by
      have q := hk.length
      rw [Array.length_toList, List.length_take] at q
      omega
    refine (wpAny_bind (wpAny_attempt (wpAny_mono (key_turn (E := fun _ _ => False) G hr Iz (sm _ _ ht)) (fun u z2 hq => ?_) fun _ _ bad => bad.elim)))
    obtain ⟨H2, t2, I2, sm2, rfl, ht2⟩ := hq
    have pk := I2.pin (kS, seqL kA e) (List.mem_append_right _ List.mem_cons_self)
    obtain ⟨e2, I3⟩ := push_key (tk := z2.toks) (v := .ref t2) I2 nk na hka
    have ek : cs.take (i + 1) = cs.take i ++ [cs[i]] := take_snoc hc
    refine (wpAny_bind (listUpdate_at pk.1 rfl ?_ (Nat.le_trans kl hz) (Nat.le_trans (Nat.le_of_eq (Array.size_push ..)) (Nat.succ_le_succ (Nat.le_trans kl hz)))))
    refine wpAny_pure ⟨rfl, H2, kA.push (.ref t2), e2, I3, sm.trans sm2, ?_⟩
    rw [ek, show (kA.push (.ref t2)).toList = kA.toList ++ [.ref t2] by simp]
    exact each_snoc ⟨t2, rfl, ht2⟩ (hk.mono fun u d ⟨t, h1, h2⟩ => ⟨t, h1, sm2 _ _ h2⟩)
  case last =>
    rintro z ⟨Hi, kA, e, Iz, sm, hk⟩
    have e3 : cs.take (0 + its.length) = cs := List.take_of_length_le (by omega)
    rw [e3] at hk
    have pk := Iz.pin (kS, seqL kA e) (List.mem_append_right _ List.mem_cons_self)
    have pa := Iz.pin (a, seqL #[] e1) (List.mem_append_right _ (List.mem_cons_of_mem _ List.mem_cons_self))
    have ksz : kA.size = its.length := by
      have q := hk.length
      rw [Array.length_toList] at q
      omega
    have hal : AllAlike (cs.map byD) := AllAlike.of fun _ _ => by simp [alike, alikeAll, byD]
    have hso : Sortable (cs.map byD) := Sortable.tuples fun _ => ⟨_, _, rfl⟩
    have reads : EachIs (fun v d => ∃ as, Reads z.heap v d as) kA.toList (cs.map byD) := each_map byD (hk.mono fun v c ⟨t, h1, h2⟩ => ⟨[], by rw [h1]; exact reads_of Iz h2⟩)
    refine (wpAny_bind (listItems_at pk.1 rfl ?_))
    refine keyH_end (κ := dataKind z.heap (cs.map byD)) (h₁ := dropAt z.heap kS) (fun b o nb q => ?_) (dropAt_self _ _) pk.1 pa.1 hka (SortsAt.data (s := z) reads hal hso fun d hd => ?_) ksz hz fun g tk n kb ng => ?_
    · by_cases c : b = kS
      · rw [c, dropAt_self] at q; cases q
      · rw [dropAt_ne _ c] at q; exact q
    · obtain ⟨c, _, rfl⟩ := List.mem_map.mp hd
      have hd1 : (byD c).depth = 1 := by simp [byD, PyData.depth, PyData.depthAll]
      show X.A.units + 2 + _ < cLine
      omega
    · have ko : KeyedOut false (cs.map byD) its (sortVals (dataKind z.heap (cs.map byD)) false kA.toList its) := ⟨z.heap, kA.toList, hal, rfl, reads⟩
      have eo := keyedOut_each byD ko each
      have ed : dataLe false byD = ordC := (dataLe_ii (fun c : Cell3 => c.2.1) (fun c => c.1)).trans rfl
      rw [ed] at eo
      obtain ⟨rs', rv, tr, rl⟩ := each_rows (eo.mono fun v c ⟨t, h1, h2⟩ => ⟨t, h1, sm _ _ h2⟩)
      have I0 := unpin_two Iz
      refine fin _ Hi rs' (Inv.two (kS := kS) (a := a) I0 rfl I0.bare (fun b o n1 n2 q => kb b o n2 (by rw [dropAt_ne _ n1]; exact q)) pk.2.1 pa.2.1 ng rv ?_ fun b hb => ?_) sm pa.2.1 tr
      · rw [List.length_map, rl, List.length_mergeSort]
        omega
      · rcases List.mem_cons.mp hb with c | hb
        · rw [c]; exact ⟨.inr nk.s0, nk.loc, nk.cell, nk.pin⟩
        · rw [List.mem_singleton] at hb
          rw [hb]; exact ⟨.inr na.s0, na.loc, na.cell, na.pin⟩
open PySem.W in
/-- sorted(rows, key=f), f a def that tells (second, first) -/
theorem cr_sortBy {x pn : Str} {j : Nat} (G : Good X.prog X.w X.K X.mg X.base CX0 j (x, none) [pn] sp_by) (hr : Room (j + 2) X.A) : CallRK X (.builtin "sorted") [Str.ofString "key"] (rSortBy X.K (He.fAd X.K (x, none))) := by
  intro pins s σ H vs zs us ws Q I r rz h
  obtain ⟨p, rs, cs, rfl, rfl, hs, tr, fin⟩ := h
  obtain rfl := Vals.ref1 r
  obtain ⟨w1, rfl, e1⟩ := vals1 rz
  obtain rfl : w1 = Value.ref (He.fAd X.K (x, none)) := e1
  obtain ⟨its, rv, hl, hz⟩ := I.list hs
  have each := rows_each rv tr
  have hz' : its.length ≤ sizeLine := by rw [← rv.length]; exact hz
  show wpAny (model X.prog X.w) X.A (call (.builtin "sorted") [.ref p] [(Str.ofString "key", .ref (He.fAd X.K (x, none)))]) (EP X pins σ Q) X.xe s
  refine sorted_of_sort hl.isList hz' (ksk_s1 _ _) (fun _ => ksk_l1 _ _) fun E' => ?_
  rw [ksk_t1]
  have old : ∀ b o, s.heap.get? b = some o → (copyHeap s.heap its).get? b = some o := fun b o q => copyHeap_old q
  obtain ⟨a, ha⟩ : ∃ a, a = s.heap.objs.size + 1 := ⟨_, rfl⟩
  have hat := copyHeap_at s.heap its
  rw [← ha] at hat ⊢
  have oa : ∀ b o, s.heap.get? b = some o → b ≠ a := fun b o q z => by
    have l := Heap.lt_size q
    rw [z, ha] at l
    exact absurd l (Nat.not_lt_of_le (Nat.le_succ _))
  have ge1 := get?_update_seq hat fun _ => (#[] : Array Value)
  generalize copyHeap s.heap its = h0 at *
  generalize (if (#[] : Array Value).size == its.toArray.size then 0 else 0 + 1) = ep at ge1
  have old1 : ∀ b o, s.heap.get? b = some o → (h0.update a (Obj.mapSeq fun _ => (#[] : Array Value))).get? b = some o := fun b o q => (Heap.get?_update_other h0 (Obj.mapSeq fun _ => (#[] : Array Value)) (Ne.symm (oa b o q))).trans (old b o q)
  unfold ksk_tree
  refine (wpAny_bind (listItems_at hat rfl ?_))
  refine (wpAny_bind (listUpdate_at hat rfl ?_ (by rw [List.size_toArray]; exact hz') (Nat.zero_le _)))
  refine (wpAny_bind (seqEpoch_at ge1 rfl ?_))
  refine (wpAny_bind (wpAny_newTuple ?_ (by show its.length ≤ _; exact hz')))
  refine (wpAny_bind (wpAny_newList ?_ (Nat.zero_le _)))
  refine (wpAny_holding ?_)
  have old2 : ∀ b o, s.heap.get? b = some o → (((h0.update a (Obj.mapSeq fun _ => (#[] : Array Value))).push (seqObj "tuple" its.toArray 0)).push (seqObj "list" #[] 0)).get? b = some o := fun b o q => Heap.get?_push_of_some _ (Heap.get?_push_of_some _ (old1 b o q))
  have ha2 : (((h0.update a (Obj.mapSeq fun _ => (#[] : Array Value))).push (seqObj "tuple" its.toArray 0)).push (seqObj "list" #[] 0)).get? a = some (seqObj "list" #[] ep) := Heap.get?_push_of_some _ (Heap.get?_push_of_some _ ge1)
  obtain ⟨kS, hkS⟩ : ∃ kS, kS = ((h0.update a (Obj.mapSeq fun _ => (#[] : Array Value))).push (seqObj "tuple" its.toArray 0)).objs.size := ⟨_, rfl⟩
  have hk2 : (((h0.update a (Obj.mapSeq fun _ => (#[] : Array Value))).push (seqObj "tuple" its.toArray 0)).push (seqObj "list" #[] 0)).get? kS = some (seqObj "list" #[] 0) := by rw [hkS]; exact Heap.get?_push_size _ rfl
  have ls : a < h0.objs.size := Heap.lt_size hat
  have sk : h0.objs.size < kS := by
    rw [hkS, Heap.size_push, Heap.size_update]
    exact Nat.lt_succ_self _
  have sza : s.heap.objs.size ≤ a := by rw [ha]; exact Nat.le_succ _
  have szk : s.heap.objs.size ≤ kS := Nat.le_trans sza (Nat.le_of_lt (Nat.lt_trans ls sk))
  have hka : kS ≠ a := fun z => by
    rw [z] at sk
    exact absurd sk (Nat.not_lt_of_lt ls)
  show wpAny _ _ (ksk_rest a (.ref (He.fAd X.K (x, none))) false its.toArray ep (.ref ((h0.update a (Obj.mapSeq fun _ => (#[] : Array Value))).push (seqObj "tuple" its.toArray 0)).objs.size)) _ _ _
  rw [← hkS]
  have I1 : Inv X pins σ H { s with heap := ((h0.update a (Obj.mapSeq fun _ => (#[] : Array Value))).push (seqObj "tuple" its.toArray 0)).push (seqObj "list" #[] 0) } := I.kept (t' := s.toks) old2
  have nk := NewAt.of I szk
  have na := NewAt.of I sza
  have Hk := I.hok.fresh szk
  have Ha := I.hok.fresh sza
  exact sort_rest G hr (pin_two I1 nk na Hk Ha hk2 ha2) nk na hka each hz' fun s' H' rs' I' sm ha' tr' => ⟨rfl, ⟨.ref a, _, I', rfl, fin _ rs' a (fun b o q => by rw [upd_ne (fun z => by rw [z, Ha] at q; cases q)]; exact sm _ _ q) Ha upd_same (tr'.keep fun b ys q => by rw [upd_ne (fun z => by rw [z, ha'] at q; cases q)]; exact q)⟩⟩
theorem cr_sortByK (K : PySem.W.Frag) (hK : X.K = K) {x pn : Str} {j : Nat} (G : Good X.prog X.w K X.mg X.base CX0 j (x, none) [pn] sp_by) (hr : Room (j + 2) X.A) : CallRK X (.builtin "sorted") [Str.ofString "key"] (rSortBy K (He.fAd K (x, none))) := by
  subst hK
  exact cr_sortBy G hr
theorem rd_ckw {r : List V → List V → Hp → VK → Prop} {t tk : TA} {σ : L2.St} {H : Hp} {Q : VK} (h : t σ H fun vs H1 => tk σ H1 fun zs H2 => r vs zs H2 Q) : tCKw r t tk σ H Q := h
end
end JF

/-! ### the cells of a field, told -/
namespace JF
open PySem PySem.Spec PyProof.Rows L2
/-- a cell as it is sorted -/
def yx (c : Cell3) : List Int := [c.2.1, c.1, c.2.2]
/-- a square's weight: the turns that its walk takes at most -/
def wgt : Sq → Nat
  | .leaf _ => 1
  | .node a b c d => 1 + wgt a + wgt b + wgt c + wgt d
theorem wgt_pos : ∀ S : Sq, 1 ≤ wgt S
  | .leaf _ => Nat.le_refl _
  | .node a b c d => by show 1 ≤ 1 + wgt a + wgt b + wgt c + wgt d; omega
/-- what waits: a square's number, the square, its place -/
abbrev Wt := Nat × Sq × Int × Int
def wtR (e : Wt) : List Int := [(e.1 : Int), e.2.2.1, e.2.2.2]
def wtW (ws : List Wt) : Nat := (ws.map fun e => wgt e.2.1).sum
def wtC (ws : List Wt) : List (List Int) := (ws.map fun e => wi e.2.1 e.2.2.1 e.2.2.2).flatten
theorem wtW_snoc (ws : List Wt) (e : Wt) : wtW (ws ++ [e]) = wtW ws + wgt e.2.1 := by simp [wtW]
theorem wtC_snoc (ws : List Wt) (e : Wt) : wtC (ws ++ [e]) = wtC ws ++ wi e.2.1 e.2.2.1 e.2.2.2 := by simp [wtC]
theorem TR.unsnoc {H : Hp} : ∀ {rs : List Addr} {xs : List (List Int)} {x : List Int}, TR H rs (xs ++ [x]) → ∃ rs' r, rs = rs' ++ [r] ∧ TR H rs' xs ∧ H r = some (.tup (x.map V.int))
  | [], [], _, h => h.elim
  | [], _ :: _, _, h => h.elim
  | r :: rs, [], x, h => by
    cases rs with
    | nil => exact ⟨[], r, rfl, trivial, h.1⟩
    | cons _ _ => exact h.2.elim
  | r :: rs, y :: xs, x, h => by
    obtain ⟨rs', r', e, h1, h2⟩ := TR.unsnoc (rs := rs) (xs := xs) h.2
    exact ⟨r :: rs', r', by rw [e]; rfl, ⟨h.1, h1⟩, h2⟩
theorem srt_by {S : Sq} (w : S.wf) (l1 : 1 ≤ S.level) {fc : List Cell3} (pm : (fc.map yx).Perm S.cells) : SrtL ((fc.mergeSort ordC).map yx) ∧ ((fc.mergeSort ordC).map yx).Perm S.cells := by
  have pm2 : ((fc.mergeSort ordC).map yx).Perm S.cells := ((List.mergeSort_perm fc ordC).map yx).trans pm
  refine ⟨?_, pm2⟩
  have tr : ∀ a b c : Cell3, ordC a b = true → ordC b c = true → ordC a c = true := fun a b c h1 h2 => by
    unfold ordC at *
    rw [decide_eq_true_eq] at *
    omega
  have tot : ∀ a b : Cell3, (ordC a b || ordC b a) = true := fun a b => by
    unfold ordC
    rw [Bool.or_eq_true, decide_eq_true_eq, decide_eq_true_eq]
    omega
  have p := List.pairwise_mergeSort tr tot fc
  refine List.pairwise_map.mpr (p.imp_of_mem fun {a b} ha hb h => ?_)
  have ma := (mem_cells w l1 _).mp (pm2.mem_iff.mp (List.mem_map.mpr ⟨a, ha, rfl⟩))
  have mb := (mem_cells w l1 _).mp (pm2.mem_iff.mp (List.mem_map.mpr ⟨b, hb, rfl⟩))
  obtain ⟨x, y, _, ea⟩ := ma
  obtain ⟨x', y', _, eb⟩ := mb
  simp only [yx, List.cons.injEq, and_true] at ea eb
  unfold ordC at h
  rw [decide_eq_true_eq] at h
  show lexL [b.2.1, b.1, b.2.2] [a.2.1, a.1, a.2.2] = false
  rw [lexL_cons, lexL_cons, lexL_cons, lexL_nil]
  by_cases c1 : b.2.1 = a.2.1
  · rw [if_pos c1]
    by_cases c2 : b.1 = a.1
    · have e : b.2.2 = a.2.2 := by
        rw [ea.2.2, eb.2.2]
        rw [show x' = x by omega, show y' = y by omega]
      rw [if_pos c2, if_pos e]
    · rw [if_neg c2, decide_eq_false_iff_not]
      omega
  · rw [if_neg c1, decide_eq_false_iff_not]
    omega
section
variable {P : Program} {w : World} {K : PySem.W.Frag} {mg : Str → Option Value} {base : Heap}
theorem ok_by_rows (T : Env fa fn K mg) : Good P w K mg base CX0 1 ("by_rows", none) ["cell"] sp_by := by
  refine good_mk T 27 (d := d_by_rows) (N := ["cell"]) (ps := ["cell"]) rfl rfl sc_by_rows (fun _ _ _ _ _ _ us hl => match us, hl with | [_], _ => rfl) (fun vs H Q E h => ?_) (fun f cdv A outer σ0 H vs Q E hr h => ?_)
  · obtain ⟨t, x, y, s, rfl, _⟩ := h; rfl
  · obtain ⟨t, x, y, s, rfl, ht, k⟩ := h
    refine ⟨_, (pss_one (ps_ret (pe_tup (pa_cons (pe_ix (ix_tupK K rfl) (pv 0) pe_int (fun _ _ => rfl)) (pa_cons (pe_ix (ix_tupK K rfl) (pv 0) pe_int (fun _ _ => rfl)) pa_nil))))), ?_⟩
    walk_at "rd"
    exact rd_new (hn := by show 2 ≤ sizeLine; decide) fun u hu => k u hu
def sp_cells_of (C : Addr) : Sp := fun vs H Q _ => ∃ (a : GA) (rows : List (Int × Addr)) (q : List Sq) (n : Nat) (S : Sq), vs = [.ref a.g, .int (n : Int)] ∧ GAt C H a rows q ∧ q[n]? = some S ∧ 1 ≤ S.level ∧ S.level ≤ 48 ∧ q.length ≤ 15000000 ∧ S.lives ≤ 4096 ∧
  ∀ H' l (cs : List Cell3), Same H H' → H l = none → TL H' l (cs.map c3) → SrtL (cs.map yx) → (cs.map yx).Perm S.cells → Q (.ref l) H'
theorem mp_cells_of {C : Addr} : MonP (sp_cells_of C) := fun vs H Q Q' E h ⟨a, rows, q, n, S, x1, x2, x3, x4, x5, x6, x7, k⟩ => ⟨a, rows, q, n, S, x1, x2, x3, x4, x5, x6, x7, fun H' l cs b c d e f => h _ _ (k H' l cs b c d e f)⟩
set_option maxHeartbeats 16000000 in
theorem ok_cells_of (T : Env fa fn K mg) : Good P w K mg base CX0 4 ("cells_of", none) ["grove", "field"] (sp_cells_of (CG K)) := by
  have G_Grove_level_of := ok_level_of (P := P) (w := w) (base := base) T
  have G_Grove_living := ok_living (P := P) (w := w) (base := base) T
  have G_Grove_quarters := ok_quarters (P := P) (w := w) (base := base) T
  have G_Grove_state_of := ok_state_of (P := P) (w := w) (base := base) T
  have G_by_rows := ok_by_rows (P := P) (w := w) (base := base) T
  refine good_mk T 28 (d := d_cells_of) (N := ["grove", "field", "half", "found", "waiting", "square", "x", "y", "level", "at", "one"]) (ps := ["grove", "field"]) rfl rfl sc_cells_of (fun _ _ _ _ _ _ us hl => match us, hl with | [_, _], _ => rfl) (fun vs H Q E h => ?_) (fun f cdv A outer σ0 H vs Q E hr h => ?_)
  · obtain ⟨a, rows, q, n, S, rfl, _⟩ := h; rfl
  · obtain ⟨a, rows, q, n, S, rfl, G, hn, l1, l48, hq, hlv, k⟩ := h
    have hsz := sizeBig
    have wS := G.wf _ (List.mem_of_getElem? hn)
    refine ⟨_, (pss_cons (ps_if (pt_cmpR op_gt (pe_mgK K rfl (pv 0) (T.cls 9) (T.meth 28) G_Grove_living (hr.mono (by decide)) (pa_cons (pv 1) pa_nil)) (pe_gint (T.int 37) rfl) (nomark _)) pss_never pss_nil)
      (pss_cons (ps_set (i := 2) sc_cells_of.nd rfl (Or.inl rfl) (pe_op op_shl pe_int (pe_op op_sub (pe_mgK K rfl (pv 0) (T.cls 9) (T.meth 25) G_Grove_level_of (hr.mono (by decide)) (pa_cons (pv 1) pa_nil)) pe_int)))
      (pss_cons (ps_set (i := 3) sc_cells_of.nd rfl (Or.inl rfl) (pe_lst pa_nil))
      (pss_cons (ps_set (i := 4) sc_cells_of.nd rfl (Or.inl rfl) (pe_lst (pa_cons (pe_tup (pa_cons (pv 1) (pa_cons (pe_un un_neg (pv 2)) (pa_cons (pe_un un_neg (pv 2)) pa_nil)))) pa_nil)))
      (pss_cons (ps_while PassesOwn.never (pt_cmpR op_gt (pe_callB (call_lenK K rfl) (by rfl) (T.free 8) (by decide +kernel) (pa_cons (pv 4) pa_nil)) pe_int (nomark _)) (pss_cons (ps_asg (pe_bm0 PySem.F.plainAttrs_list PySem.F.slot_list_pop PySem.F.type_list_pop mt_pop (pv 4)) (pg_tup rfl (pgs_cons (pg_name (i := 5) sc_cells_of.nd rfl (Or.inl rfl)) (pgs_cons (pg_name (i := 6) sc_cells_of.nd rfl (Or.inl rfl)) (pgs_cons (pg_name (i := 7) sc_cells_of.nd rfl (Or.inl rfl)) pgs_nil)))))
      (pss_cons (ps_set (i := 8) sc_cells_of.nd rfl (Or.inl rfl) (pe_mgK K rfl (pv 0) (T.cls 9) (T.meth 25) G_Grove_level_of (hr.mono (by decide)) (pa_cons (pv 5) pa_nil)))
      (pss_cons (ps_if (PW.pt (pw_and (pt_cmpR op_eq (pv 8) pe_int (nomark _)) (pw_and1 (pt_cmpR op_gt (pe_mgK K rfl (pv 0) (T.cls 9) (T.meth 38) G_Grove_state_of (hr.mono (by decide)) (pa_cons (pv 5) pa_nil)) pe_int (nomark _))))) (pss_one (ps_expr (pe_bm PySem.F.plainAttrs_list PySem.F.slot_list_append PySem.F.type_list_append mt_append (pv 3) (pa_cons (pe_tup (pa_cons (pv 6) (pa_cons (pv 7) (pa_cons (pe_mgK K rfl (pv 0) (T.cls 9) (T.meth 38) G_Grove_state_of (hr.mono (by decide)) (pa_cons (pv 5) pa_nil)) pa_nil)))) pa_nil)))) pss_nil)
      (pss_one (ps_if (PW.pt (pw_and (pt_cmpR op_gt (pv 8) pe_int (nomark _)) (pw_and1 (pt_cmpR op_gt (pe_mgK K rfl (pv 0) (T.cls 9) (T.meth 28) G_Grove_living (hr.mono (by decide)) (pa_cons (pv 5) pa_nil)) pe_int (nomark _))))) (pss_cons (ps_set (i := 2) sc_cells_of.nd rfl (Or.inl rfl) (pe_op op_shl pe_int (pe_op op_sub (pv 8) pe_int)))
      (pss_one (ps_for PassesOwn.never rfl (pi_enumT (by rfl) (T.free 5) (pa_cons (pe_mgK K rfl (pv 0) (T.cls 9) (T.meth 23) G_Grove_quarters (hr.mono (by decide)) (pa_cons (pv 5) pa_nil)) pa_nil)) (pg_tup rfl (pgs_cons (pg_name (i := 9) sc_cells_of.nd rfl (Or.inl rfl)) (pgs_cons (pg_name (i := 10) sc_cells_of.nd rfl (Or.inl rfl)) pgs_nil))) (pss_one (ps_expr (pe_bm PySem.F.plainAttrs_list PySem.F.slot_list_append PySem.F.type_list_append mt_append (pv 4) (pa_cons (pe_tup (pa_cons (pv 10) (pa_cons (pe_op op_add (pv 6) (pe_op op_mulW (pv 2) (pe_op op_mod (pv 9) pe_int))) (pa_cons (pe_op op_add (pv 7) (pe_op op_mulW (pv 2) (pe_op op_fdivW (pv 9) pe_int))) pa_nil)))) pa_nil))))))) pss_nil))))))
      (pss_one (ps_ret (pe_callBK (cr_sortByK K rfl G_by_rows (hr.mono (by decide))) (by rfl) (T.free 39) (by decide +kernel) (pa_cons (pv 3) pa_nil) (pk_cons (pe_grefK K rfl (T.glo 40) rfl) pk_nil))))))))), ?_⟩
    walk_at "rd"
    refine rd_methR G.ob (by rfl) ?_
    walk_at "rd"
    refine ⟨a, rows, q, n, S, rfl, G, hn, by omega, ?_⟩
    walk_at "rd"
    rw [decide_eq_false (show ¬ (4096 : Int) < S.lives by omega)]
    walk_at "rd"
    refine rd_methR G.ob (by rfl) ?_
    walk_at "rd"
    refine ⟨a, rows, q, n, S, rfl, G, hn, by omega, ?_⟩
    walk_at "rd"
    have el : ((S.level : Nat) : Int) - 1 = ((S.level - 1 : Nat) : Int) := by omega
    rw [el]
    refine rd_I (by refine ⟨by omega, by omega, by decide⟩) ?_
    rw [shl_ok']
    walk_at "rd"
    refine rd_new (hn := by show 0 ≤ sizeLine; decide) fun pf hpf => ?_
    have s1 := same_upd (o := .lst []) hpf
    have F1 : (upd H pf (.lst [])) pf = some (.lst []) := upd_same
    generalize upd H pf (.lst []) = H1 at *
    walk_at "rd"
    refine rd_new (hn := by show 3 ≤ sizeLine; decide) fun t0 ht0 => ?_
    have s2 := same_upd (o := .tup [V.int (n : Int), V.int (-(2 ^ (S.level - 1))), V.int (-(2 ^ (S.level - 1)))]) ht0
    have T2 : (upd H1 t0 (.tup [V.int (n : Int), V.int (-(2 ^ (S.level - 1))), V.int (-(2 ^ (S.level - 1)))])) t0 = some (.tup ((wtR (n, S, -(2 ^ (S.level - 1)), -(2 ^ (S.level - 1)))).map V.int)) := upd_same
    have F2 := s2 _ _ F1
    generalize upd H1 t0 (.tup [V.int (n : Int), V.int (-(2 ^ (S.level - 1))), V.int (-(2 ^ (S.level - 1)))]) = H2 at *
    walk_at "rd"
    refine rd_new (hn := by show 1 ≤ sizeLine; decide) fun pw hpw => ?_
    have s3 := same_upd (o := .lst [V.ref t0]) hpw
    have W3 : (upd H2 pw (.lst [V.ref t0])) pw = some (.lst ([t0].map V.ref)) := upd_same
    have F3 := s3 _ _ F2
    have T3 := s3 _ _ T2
    have npf : pf ≠ pw := fun z => by rw [z, hpw] at F2; cases F2
    have pw0 : H pw = none := none_ofW (s1.trans s2) hpw
    have s03 := (s1.trans s2).trans s3
    generalize upd H2 pw (.lst [V.ref t0]) = H3 at *
    walk_at "rd"
    refine while_m (fun m σ H' => ∃ (fr wr : List Addr) (fc : List Cell3) (ws : List Wt) (hf : Int) (x5 x6 x7 x8 x9 x10 : Option V), σ = [some (.ref a.g), some (.int (n : Int)), some (.int hf), some (.ref pf), some (.ref pw), x5, x6, x7, x8, x9, x10] ∧ Same H H' ∧ H' pf = some (.lst (fr.map V.ref)) ∧ H' pw = some (.lst (wr.map V.ref)) ∧
      TR H' fr (fc.map c3) ∧ TR H' wr (ws.map wtR) ∧ (∀ e ∈ ws, q[e.1]? = some e.2.1) ∧ (∀ (i : Nat) e, ws[i]? = some e → i + 3 * e.2.1.level ≤ 3 * S.level) ∧ (fc.map yx ++ wtC ws).Perm S.cells ∧ m = wtW ws) (wgt S)
      ⟨[], [t0], [], [(n, S, -(2 ^ (S.level - 1)), -(2 ^ (S.level - 1)))], _, none, none, none, none, none, none, rfl, s03, F3, W3, trivial, ⟨T3, trivial⟩, fun e he => by rw [List.mem_singleton.mp he]; exact hn, fun i e he => ?_, ?_, by simp [wtW]⟩ ?_
    · match i, he with
      | 0, he =>
        cases he
        show 0 + 3 * S.level ≤ _
        omega
      | i + 1, he => cases he
    · show (wtC [_]).Perm _
      simp only [wtC, List.map_cons, List.map_nil, List.flatten_cons, List.flatten_nil, List.append_nil]
      exact List.Perm.refl _
    rintro m σ Ha ⟨fr, wr, fc, ws, hf, x5, x6, x7, x8, x9, x10, rfl, sa, Fa, Wa, TF, TW, hqs, hlev, pm, rfl⟩
    have rl := TW.len
    rw [List.length_map] at rl
    have flen : (fc.map yx).length + (wtC ws).length = S.lives := by
      have := pm.length_eq
      rw [List.length_append] at this
      have e := wi_len S (-S.half) (-S.half)
      show ((fc.map yx).length : Int) + ((wtC ws).length : Int) = S.lives
      rw [← e]
      exact_mod_cast this
    have fl := TF.len
    rw [List.length_map] at fl flen
    walk_at "rd"
    refine rd_len (SqL.of Wa) ?_
    walk_at "rd"
    refine ite_d (fun hb => ?_) (fun hb => ?_)
    · rcases List.eq_nil_or_concat ws with z | ⟨ws', e, rfl⟩
      · rw [z] at rl
        rw [List.length_map, rl] at hb
        exact absurd hb (by decide)
      rw [List.concat_eq_append] at *
      obtain ⟨j, U, x, y⟩ := e
      rw [List.map_append] at TW
      obtain ⟨wr', r, rfl, TW', ht⟩ := TW.unsnoc
      refine ⟨fun σ' H' => ∃ m', m' < wtW (ws' ++ [(j, U, x, y)]) ∧ _, fun _ _ h => h, ?_⟩
      rw [wtW_snoc]
      have hj : q[j]? = some U := hqs _ (List.mem_append_right _ (List.mem_singleton.mpr rfl))
      have wU := G.wf _ (List.mem_of_getElem? hj)
      have hqs' : ∀ e ∈ ws', q[e.1]? = some e.2.1 := fun e he => hqs e (List.mem_append_left _ he)
      have hlU : ws'.length + 3 * U.level ≤ 3 * S.level := hlev ws'.length (j, U, x, y) (by rw [List.getElem?_append_right (Nat.le_refl _), Nat.sub_self]; rfl)
      have hlev' : ∀ (i : Nat) e, ws'[i]? = some e → i + 3 * e.2.1.level ≤ 3 * S.level := fun i e he => hlev i e (by rw [List.getElem?_append_left (List.getElem?_eq_some_iff.mp he).1]; exact he)
      rw [wtC_snoc] at pm flen
      have rl' := TW'.len
      rw [List.length_map] at rl'
      walk_at "rd"
      have Wa' : Ha pw = some (.lst (wr'.map V.ref ++ [V.ref r])) := by rw [Wa, List.map_append]; rfl
      refine rd_tyL Wa' ⟨pw, _, V.ref r, rfl, rfl, Wa', by simp, ?_⟩
      have TWb : Tup Ha (upd Ha pw (.lst (wr'.map V.ref))) := Tup.put Wa _
      rw [show (wr'.map V.ref ++ [V.ref r]).dropLast = wr'.map V.ref by simp]
      have sb : Same H (upd Ha pw (.lst (wr'.map V.ref))) := Same.putW sa pw0
      have Fb : (upd Ha pw (.lst (wr'.map V.ref))) pf = some (.lst (fr.map V.ref)) := by rw [upd_ne npf]; exact Fa
      have Wb : (upd Ha pw (.lst (wr'.map V.ref))) pw = some (.lst (wr'.map V.ref)) := upd_same
      have TFb := TF.keep TWb
      have TW'b := TW'.keep TWb
      have htb : (upd Ha pw (.lst (wr'.map V.ref))) r = some (.tup [V.int (j : Int), V.int x, V.int y]) := TWb _ _ ht
      generalize upd Ha pw (.lst (wr'.map V.ref)) = Hb at *
      refine rd_gtup (SqT.of htb) rfl ?_
      walk_at "rd"
      have Gb := G.same sb
      refine rd_methR Gb.ob (by rfl) ?_
      walk_at "rd"
      refine ⟨a, rows, q, j, U, rfl, Gb, hj, by omega, ?_⟩
      cases U with
      | leaf s =>
        have hs : 0 ≤ s ∧ s ≤ 7 := wU
        walk_at "rd"
        refine iteT ?_
        walk_at "rd"
        refine rd_methR Gb.ob (by rfl) ?_
        walk_at "rd"
        refine ⟨a, rows, q, j, s, rfl, Gb, hj, by omega, ?_⟩
        walk_at "rd"
        refine ite_d (fun z => ?_) (fun z => ?_)
        · have ewi : wi (.leaf s) x y = [[y, x, s]] := by show (if s = 0 then [] else [[y, x, s]]) = _; rw [if_neg (by omega)]
          rw [ewi] at pm flen
          walk_at "rd"
          refine rd_tyL Fb ?_
          walk_at "rd"
          refine rd_methR Gb.ob (by rfl) ?_
          walk_at "rd"
          refine ⟨a, rows, q, j, s, rfl, Gb, hj, by omega, ?_⟩
          walk_at "rd"
          refine rd_new (hn := by show 3 ≤ sizeLine; decide) fun t ht5 => ?_
          have s5 := same_upd (o := .tup [V.int x, V.int y, V.int s]) ht5
          have T5 : (upd Hb t (.tup [V.int x, V.int y, V.int s])) t = some (.tup ((c3 (x, y, s)).map V.int)) := upd_same
          have F5 := s5 _ _ Fb
          have W5 := s5 _ _ Wb
          have TF5 := TFb.keep (Tup.of s5)
          have TW5 := TW'b.keep (Tup.of s5)
          have s05 := sb.trans s5
          generalize upd Hb t (.tup [V.int x, V.int y, V.int s]) = H5 at *
          have f2 : (wtC ws' ++ [[y, x, s]]).length = (wtC ws').length + 1 := by simp
          rw [f2] at flen
          walk_at "rd"
          refine rd_append F5 (by rw [List.length_map]; omega) ?_
          have pf0 : H pf = none := hpf
          have s06 : Same H (upd H5 pf (.lst (fr.map V.ref ++ [V.ref t]))) := Same.putW s05 pf0
          have t6 : Tup H5 (upd H5 pf (.lst (fr.map V.ref ++ [V.ref t]))) := Tup.put F5 _
          have F6 : (upd H5 pf (.lst (fr.map V.ref ++ [V.ref t]))) pf = some (.lst ((fr ++ [t]).map V.ref)) := by rw [upd_same, List.map_append]; rfl
          have W6 : (upd H5 pf (.lst (fr.map V.ref ++ [V.ref t]))) pw = some (.lst (wr'.map V.ref)) := by rw [upd_ne (Ne.symm npf)]; exact W5
          have TF6 := (TR.app T5 TF5).keep t6
          have TW6 := TW5.keep t6
          generalize upd H5 pf (.lst (fr.map V.ref ++ [V.ref t])) = H6 at *
          walk_at "rd"
          refine iteF ?_
          walk_at "rd"
          refine ⟨wtW ws', by show _ < _ + 1; omega, fr ++ [t], wr', fc ++ [(x, y, s)], ws', _, _, _, _, _, _, _, rfl, s06, F6, W6, by rw [List.map_append]; exact TF6, TW6, hqs', hlev', ?_, rfl⟩
          rw [List.map_append]
          show ((fc.map yx ++ [[y, x, s]]) ++ wtC ws').Perm _
          refine List.Perm.trans ?_ pm
          rw [List.append_assoc]
          exact List.Perm.append_left _ List.perm_append_comm
        · have ewi : wi (.leaf s) x y = [] := by show (if s = 0 then [] else [[y, x, s]]) = _; rw [if_pos (by omega)]
          rw [ewi, List.append_nil] at pm
          walk_at "rd"
          refine iteF ?_
          walk_at "rd"
          exact ⟨wtW ws', by show _ < _ + 1; omega, fr, wr', fc, ws', _, _, _, _, _, _, _, rfl, sb, Fb, Wb, TFb, TW'b, hqs', hlev', pm, rfl⟩
      | node A' B' C' D' =>
        have hlv' : (Sq.node A' B' C' D').level = A'.level + 1 := rfl
        obtain ⟨wa, wb, wc, wd, ee1, ee2, ee3⟩ := wU
        rw [hlv'] at hlU
        walk_at "rd"
        rw [decide_eq_false (show ¬ (((Sq.node A' B' C' D').level : Nat) : Int) = 0 by rw [hlv']; omega)]
        walk_at "rd"
        rw [decide_eq_true (show (0 : Int) < (((Sq.node A' B' C' D').level : Nat) : Int) by rw [hlv']; omega)]
        walk_at "rd"
        refine rd_methR Gb.ob (by rfl) ?_
        walk_at "rd"
        refine ⟨a, rows, q, j, _, rfl, Gb, hj, by omega, ?_⟩
        walk_at "rd"
        have nn := (Sq.node A' B' C' D').lives_nonneg
        refine ite_d (fun z => ?_) (fun z => ?_)
        · walk_at "rd"
          have el' : (((Sq.node A' B' C' D').level : Nat) : Int) - 1 = ((A'.level : Nat) : Int) := by rw [hlv']; omega
          rw [el']
          refine rd_I (by refine ⟨by omega, by omega, by decide⟩) ?_
          rw [shl_ok']
          walk_at "rd"
          refine rd_iET ?_
          walk_at "rd"
          refine rd_methR Gb.ob (by rfl) ?_
          walk_at "rd"
          refine ⟨a, rows, q, j, _, _, _, _, rfl, Gb, hj, by omega, fun t x1 x2 x3 x4 htt e1 e2 e3 e4 => ?_⟩
          refine ⟨t, _, rfl, htt, ?_⟩
          have hp := Sq.two_pos A'.level
          have hp2 := (pow64' (i := A'.level) (by omega)).2
          obtain ⟨W, hW⟩ : ∃ W : List Wt, W = [(x1, A', x, y), (x2, B', x + 2 ^ A'.level, y), (x3, C', x, y + 2 ^ A'.level), (x4, D', x + 2 ^ A'.level, y + 2 ^ A'.level)] := ⟨_, rfl⟩
          have hWq : ∀ (i : Nat) e, W[i]? = some e → q[e.1]? = some e.2.1 ∧ e.2.1.level = A'.level ∧ i < 4 ∧ wtR e = [(e.1 : Int), x + 2 ^ A'.level * ((i : Int) % 2), y + 2 ^ A'.level * ((i : Int) / 2)] := fun i e he => by
            rw [hW] at he
            match i, he with
            | 0, he => cases he; exact ⟨e1, rfl, by decide, by simp [wtR]⟩
            | 1, he => cases he; exact ⟨e2, ee1, by decide, by simp [wtR]⟩
            | 2, he => cases he; exact ⟨e3, ee2, by decide, by simp [wtR]⟩
            | 3, he => cases he; exact ⟨e4, ee3, by decide, by simp [wtR]⟩
            | i + 4, he => simp at he
          have hW4 : W.length = 4 := by rw [hW]; rfl
          have hWx : ∀ (i : Nat) (e : Wt), W[i]? = some e → [V.int (x1 : Int), V.int (x2 : Int), V.int (x3 : Int), V.int (x4 : Int)][i]? = some (V.int (e.1 : Int)) := fun i e he => by
            rw [hW] at he
            match i, he with
            | 0, he => cases he; rfl
            | 1, he => cases he; rfl
            | 2, he => cases he; rfl
            | 3, he => cases he; rfl
            | i + 4, he => simp at he
          refine for_it (walk_enumT (a := t) (xs := [V.int (x1 : Int), .int (x2 : Int), .int (x3 : Int), .int (x4 : Int)])) (fun i σ H' => ∃ (wr2 : List Addr) (y9 y10 : Option V), σ = [some (.ref a.g), some (.int (n : Int)), some (.int (2 ^ A'.level)), some (.ref pf), some (.ref pw), some (.int (j : Int)), some (.int x), some (.int y), some (.int (((Sq.node A' B' C' D').level : Nat) : Int)), y9, y10] ∧
            Same H H' ∧ Tup Hb H' ∧ H' pf = some (.lst (fr.map V.ref)) ∧ H' pw = some (.lst (wr2.map V.ref)) ∧ TR H' fr (fc.map c3) ∧ TR H' wr2 ((ws' ++ W.take i).map wtR)) ⟨wr', _, _, rfl, sb, Tup.refl _, Fb, Wb, TFb, by rw [List.take_zero, List.append_nil]; exact TW'b⟩ ?_ ?_ ?_
          · rintro i σ H' _ ⟨_, _, _, _, _, tb, _⟩
            exact tb _ _ htt
          · rintro i v σ Hc Hd hi ⟨wr2, y9, y10, rfl, sc, tc, Fc, Wc, TFc, TWc⟩ ⟨t2, u1, u2, rfl, ht2, rfl, eu1, eu2⟩
            have hi4 : i < W.length := by rw [hW4]; exact hi
            cases eu1
            have hWi := at_get hi4
            obtain ⟨g1, g2, g3, g4⟩ := hWq i _ hWi
            have g5 := hWx i _ hWi
            have eu3 : [V.int (x1 : Int), V.int (x2 : Int), V.int (x3 : Int), V.int (x4 : Int)][i]? = some u2 := eu2
            rw [g5] at eu3
            cases eu3
            clear eu2 g5
            generalize W[i] = e at *
            have s4 := same_upd (o := .tup [V.int (i : Int), V.int (e.1 : Int)]) ht2
            have T4 : (upd Hc t2 (.tup [V.int (i : Int), V.int (e.1 : Int)])) t2 = some (.tup [V.int (i : Int), V.int (e.1 : Int)]) := upd_same
            have F4 := s4 _ _ Fc
            have W4 := s4 _ _ Wc
            have TF4 := TFc.keep (Tup.of s4)
            have TW4 := TWc.keep (Tup.of s4)
            have tb4 := tc.trans (Tup.of s4)
            have s04 := sc.trans s4
            generalize upd Hc t2 (.tup [V.int (i : Int), V.int (e.1 : Int)]) = H4 at *
            walk_at "rd"
            refine rd_tyL W4 ?_
            walk_at "rd"
            refine rd_I (mulW_of (by omega) (by omega) (by omega) (by omega)) ?_
            walk_at "rd"
            refine rd_I (mulW_of (by omega) (by omega) (by omega) (by omega)) ?_
            walk_at "rd"
            refine rd_new (hn := by show 3 ≤ sizeLine; decide) fun t5 ht5 => ?_
            have eR : [V.int (e.1 : Int), V.int (x + 2 ^ A'.level * ((i : Int) % 2)), V.int (y + 2 ^ A'.level * ((i : Int) / 2))] = (wtR e).map V.int := by rw [g4]; rfl
            rw [eR]
            have s5 := same_upd (o := .tup ((wtR e).map V.int)) ht5
            have T5 : (upd H4 t5 (.tup ((wtR e).map V.int))) t5 = some (.tup ((wtR e).map V.int)) := upd_same
            have F5 := s5 _ _ F4
            have W5 := s5 _ _ W4
            have TF5 := TF4.keep (Tup.of s5)
            have TW5 := TW4.keep (Tup.of s5)
            have tb5 := tb4.trans (Tup.of s5)
            have s05 := s04.trans s5
            generalize upd H4 t5 (.tup ((wtR e).map V.int)) = H5 at *
            have lw := TW5.len
            rw [List.length_map, List.length_append, List.length_take] at lw
            walk_at "rd"
            refine rd_append W5 (by rw [List.length_map]; omega) ?_
            have t6 : Tup H5 (upd H5 pw (.lst (wr2.map V.ref ++ [V.ref t5]))) := Tup.put W5 _
            walk_at "rd"
            refine ⟨wr2 ++ [t5], _, _, rfl, Same.putW s05 pw0, tb5.trans t6, by rw [upd_ne npf]; exact F5, by rw [upd_same, List.map_append]; rfl, TF5.keep t6, ?_⟩
            rw [take_snoc hWi, ← List.append_assoc, List.map_append]
            exact (TR.app T5 TW5).keep t6
          · rintro σ Hc ⟨wr2, y9, y10, rfl, sc, tc, Fc, Wc, TFc, TWc⟩
            have e4' : W.take [V.int (x1 : Int), V.int (x2 : Int), V.int (x3 : Int), V.int (x4 : Int)].length = W := List.take_of_length_le (by rw [hW4]; exact Nat.le_refl 4)
            rw [e4'] at TWc
            walk_at "rd"
            refine ⟨wtW (ws' ++ W), ?_, fr, wr2, fc, ws' ++ W, _, _, _, _, _, _, _, rfl, sc, Fc, Wc, TFc, TWc, fun e he => ?_, fun i e he => ?_, ?_, rfl⟩
            · have : wtW (ws' ++ W) = wtW ws' + wtW W := by simp [wtW]
              rw [this, hW]
              show _ + (wgt A' + (wgt B' + (wgt C' + (wgt D' + 0)))) < _ + (1 + wgt A' + wgt B' + wgt C' + wgt D')
              omega
            · rcases List.mem_append.mp he with he | he
              · exact hqs' e he
              · obtain ⟨i, hi⟩ := List.getElem?_of_mem he
                exact (hWq i e hi).1
            · rcases Nat.lt_or_ge i ws'.length with hi | hi
              · rw [List.getElem?_append_left hi] at he
                exact hlev' i e he
              · rw [List.getElem?_append_right hi] at he
                obtain ⟨_, g2, g3, _⟩ := hWq _ e he
                rw [g2]
                omega
            · have eC : wtC (ws' ++ W) = wtC ws' ++ wi (.node A' B' C' D') x y := by
                rw [hW]
                show _ = wtC ws' ++ (wi A' x y ++ wi B' (x + 2 ^ A'.level) y ++ wi C' x (y + 2 ^ A'.level) ++ wi D' (x + 2 ^ A'.level) (y + 2 ^ A'.level))
                simp [wtC, List.append_assoc]
              rw [eC]
              exact pm
        · have ewi := wi_none (S := .node A' B' C' D') (by omega) x y
          walk_at "rd"
          refine ⟨wtW ws', Nat.lt_add_of_pos_right (wgt_pos _), fr, wr', fc, ws', _, _, _, _, _, _, _, rfl, sb, Fb, Wb, TFb, TW'b, hqs', hlev', ?_, rfl⟩
          have e9 : wi (Sq.node A' B' C' D') (j, Sq.node A' B' C' D', x, y).2.2.1 (j, Sq.node A' B' C' D', x, y).2.2.2 = [] := ewi
          rw [e9, List.append_nil] at pm
          exact pm
    · have z : ws = [] := by
        cases ws with
        | nil => rfl
        | cons e ws =>
          rw [List.length_map, rl] at hb
          exact absurd (show (0 : Int) < (((e :: ws).length : Nat) : Int) by rw [List.length_cons]; omega) hb
      subst z
      have pm2 : (fc.map yx).Perm S.cells := by
        have e : wtC ([] : List Wt) = [] := rfl
        rw [e, List.append_nil] at pm
        exact pm
      obtain ⟨so, pm3⟩ := srt_by wS l1 pm2
      walk_at "rd"
      refine rd_ckw ?_
      walk_at "rd"
      refine ⟨pf, fr, fc, rfl, rfl, SqL.of Fa, TF, fun H' rs' p' sm hp' hl' tr' => ?_⟩
      exact k H' p' (fc.mergeSort ordC) (sa.trans sm) (none_ofW sa hp') ⟨rs', hl', tr'⟩ so pm3
end
end JF

/-! ### defs within defs, handed on to another def -/
namespace JF
open PySem PySem.Spec PyProof.Rows L2 NdefX LamX
section
variable {X : Cx} {pins : List (Addr × Obj)} {σ : L2.St} {H : Hp} {s : Shared}
/-- an address of the base, or of a cell of the running frame -/
def InC (X : Cx) (b : Addr) : Prop := X.base.get? b ≠ none ∨ ∃ y, X.env.cells.lookup y = some b
open Classical in
/-- the base and the running frame's cells -/
noncomputable def baseC (X : Cx) (h : Heap) : Heap := PySem.W.hideAll h ((List.range h.objs.size).filter fun b => decide (¬ InC X b))
open Classical in
theorem baseC_get {h : Heap} {b : Addr} {o : Obj} (e : h.get? b = some o) (n : InC X b) : (baseC X h).get? b = some o :=
  PySem.W.hideAll_get _ e fun hm => of_decide_eq_true (List.mem_filter.mp hm).2 n
open Classical in
theorem of_baseC {h : Heap} {b : Addr} {o : Obj} (e : (baseC X h).get? b = some o) : h.get? b = some o ∧ InC X b := by
  have e' := PySem.W.of_hideAll _ e
  refine ⟨e', Classical.byContradiction fun n => ?_⟩
  have z : (baseC X h).get? b = none := PySem.W.hideAll_none _ (List.mem_filter.mpr ⟨List.mem_range.mpr (Heap.lt_size e'), decide_eq_true n⟩)
  rw [e] at z
  cases z
theorem env0C (I : Inv X pins σ H s) (hfn : ∀ y, X.fn y = true) : Env0 X.prog X.w X.K X.mg (baseC X s.heap) X.A X.stack s H := by
  have k : ∀ b o, X.base.get? b = some o → (baseC X s.heap).get? b = some o := fun b o e => baseC_get (I.bk b o e) (.inl (by rw [e]; simp))
  refine ⟨I.ok.frames, ?_, ?_, ?_, ?_, I.stkFree, I.hok, I.bare⟩
  · obtain ⟨k1, k2, ⟨mb, k3, k4⟩, k5⟩ := I.ok.mod
    exact ⟨k1.keeps k, k2.keeps k, ⟨mb, k3.keeps k, k4⟩, k5.keeps k⟩
  · intro b o e
    obtain ⟨e', n⟩ := of_baseC e
    refine ⟨e', ?_⟩
    rcases n with n | ⟨y, n⟩
    · cases z : X.base.get? b with
      | none => exact absurd z n
      | some o' => exact (I.bs b o' z).2
    · exact I.freeC y b n
  · exact Nat.le_of_eq (PySem.W.hideAll_size _ _)
  · refine funFrames_none I.stack fun L hL => ?_
    cases z : (baseC X s.heap).get? L with
    | none => rfl
    | some o =>
      obtain ⟨e', n⟩ := of_baseC z
      rcases n with n | ⟨y, n⟩
      · exact absurd (I.stack.mem hL).1 n
      · rcases List.mem_cons.mp (I.stkSub L hL) with hl | hl
        · obtain ⟨m, ⟨o2, es, ep, e2, d2, _⟩, _⟩ := I.loc
          obtain ⟨v, o3, e3, d3⟩ := I.cell y L n
          rw [hl, e2] at e3
          cases e3
          rw [d2] at d3
          cases d3
        · have c1 := I.ok.cab y L (hfn y) n
          obtain ⟨o3, e3, _⟩ := (I.ok.funs.mem hl).2
          have := Heap.lt_size e3
          exact absurd (Nat.lt_of_lt_of_le this c1) (Nat.lt_irrefl _)
end
/-- a made function keeps a promise wherever the base is -/
def FnV (P : Program) (w : World) (K : PySem.W.Frag) (mg : Str → Option Value) (base : Heap) (CX : CXT) (k : Nat) (f : Addr) (F : NF) (sp : Sp) : Prop :=
  ∀ (A : Around) (outer : List PySem.Env) (s : Shared) (H : Hp) (us : List Value) (vs : List V) (Q : VK) (E : XK), Room k A → Env0 P w K mg base A outer s H → H f = some (FnO f F) → H F.c = some (CodeO F.c F.qual) → Vals vs us → sp vs H Q E →
    codeAny (model P w) A (.call (.ref f) ⟨us, []⟩) (CR CX outer P w H s Q E) s
/-- the cells that a function captured lie in the base -/
structure CellsB (base : Heap) (cl : List (Str × Addr)) (fr : List Str) (ws : List (Option V)) : Prop where
  len : ws.length = fr.length
  all : ∀ y c, cl.lookup y = some c → ∃ v, base.IsCell c v
  inj : ∀ x y c, cl.lookup x = some c → cl.lookup y = some c → x = y
  has : ∀ (i : Nat) (y : Str), fr[i]? = some y → ∃ c, cl.lookup y = some c ∧ ∀ v, ws[i]? = some (some v) → ∃ u, L2.RelV v u ∧ base.IsCell c (some u)
section
variable {P : Program} {w : World} {K : PySem.W.Frag} {mg : Str → Option Value} {base : Heap} {cl : List (Str × Addr)} {fr : List Str} {ws : List (Option V)} {CX : CXT} {k j : Nat} {f : Addr} {F : NF} {ps : List Str}
theorem CellsB.at {A : Around} {outer : List PySem.Env} {s : Shared} {H : Hp} (C : CellsB base cl fr ws) (e0 : Env0 P w K mg base A outer s H) : CellsAt cl fr ws s.heap H :=
  ⟨C.len, fun y c e => let ⟨v, o, h1, h2⟩ := C.all y c e; ⟨(e0.bs c o h1).2, v, o, (e0.bs c o h1).1, h2⟩, C.inj, fun i y e => let ⟨c, h1, h2⟩ := C.has i y e; ⟨c, h1, fun v ev => let ⟨u, r, o, h3, h4⟩ := h2 v ev; ⟨u, r, o, (e0.bs c o h3).1, h4⟩⟩⟩
theorem fnV_of {sp : List (Option V) → Sp} (N : NOk P w K mg base CX k f F ps fr sp) (C : CellsB base F.cl fr ws) : FnV P w K mg base CX k f F (sp ws) :=
  fun A outer s H us vs Q E hr e0 h1 h2 r q => N.run A outer s H us vs ws Q E hr e0 h1 h2 (C.at e0) r q
theorem FnV.imp {sp sp' : Sp} (V : FnV P w K mg base CX k f F sp) (h : ∀ vs H Q E, sp' vs H Q E → sp vs H Q E) : FnV P w K mg base CX k f F sp' := fun A outer s H us vs Q E hr e0 h1 h2 r q => V A outer s H us vs Q E hr e0 h1 h2 r (h _ _ _ _ q)
theorem FnV.mono {sp : Sp} (V : FnV P w K mg base CX j f F sp) (h : j ≤ k) : FnV P w K mg base CX k f F sp := fun A outer s H us vs Q E hr => V A outer s H us vs Q E (hr.mono h)
end
section
variable {X : Cx} {pins : List (Addr × Obj)} {σ : L2.St} {H : Hp} {s : Shared} {cl : List (Str × Addr)} {fr : List Str} {js : List Nat}
theorem cellsB (I : Inv X pins σ H s) (c : Caps X cl fr js) : CellsB (baseC X s.heap) cl fr (js.map (slotAt σ)) := by
  have C := cells_of I c
  have up : ∀ y a v, cl.lookup y = some a → s.heap.IsCell a v → (baseC X s.heap).IsCell a v := fun y a v e ⟨o, h1, h2⟩ => ⟨o, baseC_get h1 (.inr ⟨y, c.sub y a e⟩), h2⟩
  exact ⟨C.len, fun y a e => let ⟨_, v, h⟩ := C.all y a e; ⟨v, up y a v e h⟩, C.inj, fun i y e => let ⟨a, h1, h2⟩ := C.has i y e; ⟨a, h1, fun v ev => let ⟨u, r, h3⟩ := h2 v ev; ⟨u, r, up y a _ h1 h3⟩⟩⟩
end
/-- f(..), f a name that holds the made function F -/
def tCallV (i : Nat) (f : Addr) (F : NF) (sp : Sp) (E : XK) (t : TA) : TE := fun σ H Q => σ[i]? = some (some (.ref f)) ∧ H f = some (FnO f F) ∧ t σ H fun vs H1 => H1 f = some (FnO f F) ∧ H1 F.c = some (CodeO F.c F.qual) ∧ sp vs H1 Q E
/-- f(..), f a def of the module that is handed functions made here -/
def tCallC (X : Cx) (k : Nat) (p : Str × Option Str) (ps : List Str) (E : XK) (t : TA) : TE := fun σ H Q => t σ H fun vs H1 => ∃ sp, (∀ base', X.Ok → (∀ cl fr js, Caps X cl fr js → CellsB base' cl fr (js.map (slotAt σ))) → Good X.prog X.w X.K X.mg base' CX0 k p ps sp) ∧ sp vs H1 Q E
section
variable {X : Cx} {k : Nat} {x : Str} {ps : List Str} {i : Nat} {f : Addr} {F : NF} {sp : Sp} {t : TA} {e : Expr} {es : List Expr} {p pos : Pos}
theorem pe_cgV (V : FnV X.prog X.w X.K X.mg X.base CX0 k f F sp) (hr : Room k X.A) (hN : X.N[i]? = some x) (hv : Vis X.env.scope x) (ha : PA X (e :: es) t)
    (hd : (x == ("__debug__" : Str)) = false := by decide) (hcd : (x == ("__classdict__" : Str)) = false := by decide)
    (he : starEach (e :: es) X.env = (false, eval e X.env) :: starEach es X.env := by rfl) (hpl : (backTo pos (starEach es X.env)).any (·.1) = false := by rfl) :
    PE X (.Call (.Name x p) (e :: es) [] pos) (tCallV i f F sp E0 t) := by
  refine ⟨fun pins s σ H Q I h => ?_⟩
  obtain ⟨hs, hf, ht⟩ := h
  refine wpAny_Call_Name_kw (thn ((pe_var (pos := p) hN hv hd hcd).run pins s σ H (fun v H1 => v = .ref f ∧ H1 = H) I ⟨.ref f, hs, rfl, rfl⟩) fun u s1 ⟨v, H1, I1, r1, q1⟩ => ?_)
  obtain ⟨ev, eH⟩ := q1
  subst ev
  rw [eH] at I1
  obtain rfl : u = Value.ref f := r1
  refine PySem.W.callWith_F (first := []) (fnAt_of I1 hf) (thn (ha.run pos pins s1 σ H _ I1 ht) fun us s2 ⟨vs, H2, I2, r, h1, h2, q⟩ => ⟨fnAt_of I2 h1, ?_⟩) he hpl
  show wpAny _ _ (call (.ref f) us) _ _ _
  refine wpAny_call (codeAny_mono (V X.A X.stack s2 H2 us vs Q E0 hr I2.env0 h1 h2 r q) fun r s' hq => ?_)
  cases r with
  | error e => exact (pass0 : Passes CX0 X E0) pins σ H2 s2 e s' I2 hq
  | ok fl =>
    cases fl with
    | ret u => exact I2.after hq
    | next => exact False.elim hq
    | brk => exact False.elim hq
    | cont => exact False.elim hq
theorem pe_cgC {sp0 : Sp} (G0 : Good X.prog X.w X.K X.mg X.base CX0 k (x, none) ps sp0) (hr : Room k X.A) (hfn : ∀ y, X.fn y = true) (hm : X.mg x = some (.ref (He.ga X.K x))) (ha : PA X (e :: es) t) (hg : Gl X x := by rfl)
    (hdb : (x == ("__debug__" : Str)) = false := by decide) (he : starEach (e :: es) X.env = (false, eval e X.env) :: starEach es X.env := by rfl) (hpl : (backTo pos (starEach es X.env)).any (·.1) = false := by rfl) :
    PE X (.Call (.Name x p) (e :: es) [] pos) (tCallC X k (x, none) ps E0 t) := by
  obtain ⟨fd, F0, b, kp, lk⟩ := G0
  refine ⟨fun pins s σ H Q I h => ?_⟩
  refine wpAny_Call_Name_kw (ld_glob I hg hm ?_ hdb)
  refine PySem.W.callWith_K (h₀ := X.base) I.ok.mod.kin kp (thn (ha.run pos pins s σ H _ I h) fun us s1 ⟨vs, H1, I1, r, q⟩ => ⟨I1.kIn, ?_⟩) he hpl
  obtain ⟨sp, hG, q⟩ := q
  obtain ⟨fd2, F, b2, kp2, lk2⟩ := hG (baseC X s1.heap) I1.ok fun cl fr js c => cellsB I1 c
  cases lk.eq lk2
  have hl : us.length = ps.length := by rw [← r.length]; exact F.len _ _ _ _ q
  have hb := b s1 us I1.kIn (by rw [List.append_nil]; exact hl)
  rw [List.append_nil] at hb
  refine wpAny_call (codeAny_mono (F.run X.A X.stack s1 H1 ⟨us, []⟩ us vs Q E0 hr (env0C I1 hfn) hb r q) fun r s' hq => ?_)
  cases r with
  | error e => exact (pass0 : Passes CX0 X E0) pins σ H1 s1 e s' I1 hq
  | ok fl =>
    cases fl with
    | ret u => exact I1.after hq
    | next => exact False.elim hq
    | brk => exact False.elim hq
    | cont => exact False.elim hq
end
/-! a def whose code object's place is asked for -/
section
variable {P : Program} {w : World} {K : PySem.W.Frag} {mg : Str → Option Value} {base : Heap} {fa : List He.Fa} {fn : List He.DefD}
theorem good_mkC (T : Env fa fn K mg) (i : Nat) {d : He.DefD} {k : Nat} {N ps : List Str} {sp : Sp} {x qual : Str} {st : Stmt} {at_ : Str × Option Str} (hi : fn[i]? = some d) (hd : d = ⟨at_, x, qual, defArgs st, defBody st, defScope st, [], []⟩) (S : FnScope N ps (defScope st))
    (hb : ∀ (kV doc pm : Value) (an : Option Addr) (cdv ct : Value) (us : List Value), us.length = ps.length → bindArgs (PySem.W.fnOf x qual (defArgs st) (defBody st) (defScope st) .none kV doc pm an cdv ct) ⟨us, []⟩ = pure (ps.zip us))
    (len : ∀ vs H Q E, sp vs H Q E → vs.length = ps.length)
    (hbody : ∀ (f : Addr) (A : Around) (outer : List PySem.Env) (s : Shared) (H : Hp) (vs : List V) (Q : VK) (E : XK), Room k (A.deeper (envOfC qual (defScope st) s.heap.objs.size f (.ref (He.codeOf K at_)))) → sp vs H Q E →
      ∃ t, PSs (cxOf CX0 P w K mg base N qual (defScope st) f (.ref (He.codeOf K at_)) A outer s H E).nox (defBody st) t ∧ t { nx := fun _ H' => Q .non H', rt := Q } (start N vs) H) : Good P w K mg base CX0 (k + 1) at_ ps sp := by
  subst hd
  obtain ⟨fd, F⟩ := T.c.def_ i hi
  have FA := fdAt_of (p := at_) F
  refine ⟨fd, ?_, FunD.bindsN F hb, F.kp, FA⟩
  obtain ⟨oc, od, dV, kV, doc, pm, an, cdv, ct, osl, rfl, lk, hcd, h1, h2⟩ := F.ex
  obtain ⟨c, rfl⟩ := He.codeIn_ref hcd
  have ec : He.codeOf K at_ = c := He.codeOf_eq lk rfl
  refine fn_of lk hcd S len fun A outer s H vs Q E hr h => ?_
  obtain ⟨t, h1, h2⟩ := hbody _ A outer s H vs Q E (by rw [ec]; exact hr) h
  rw [ec] at h1
  exact ⟨t, h1.nox, h2⟩
end
/-! ### a law with tables of code objects -/
/-- the law's row, by a frame that is told with the heap -/
theorem walk_ofTE {l : PySem.W.OpenLaw} {n k : Nat} {q : Program} {loose : List Str} {XP : (Str → Option Value) → Heap → Prop} {YP : World → Heap → Prop} {d : DefRec} {CX : CXT} {x : Str}
    (hn : l.most = some n) (hn2 : n ≤ sizeLine) (hdf : d.params.defaults = []) (hr : Room k callerA)
    (F : ∀ (w : World) (mg : Str → Option Value) (fa : Addr) (h : Heap), YP w h → h.Ns mainGlobals mg → mg d.name = some (.ref fa) → ∃ K : PySem.W.Frag, K.In h ∧ LamX.LawAtS l w K CX k n x mg fa h)
    (hCX : ∀ (H : Hp) (s : Shared) (e : Value) (s' : Shared), CX [] H s (fun _ _ _ => False) e s' → False) :
    PySem.W.WalkO q loose XP YP l.row.toRowW d [] (fun f vs => PySem.call f vs) := by
  refine Att.attach_callB hn hdf fun w s₀ s₁ mg mb fa o pm cd doc a vs ns G Y ho hd hcd hmg hobj hints hlen hbits hg => ?_
  obtain ⟨K, KX, fd, cs, sp, hT, nT, C, hb, hsp, hF⟩ := F w mg fa _ Y G.T.g hmg
  exact LamX.law_callTs KX G.T.g G.T.b G.T.builtins G.T.nolimit hg hT nT C G.T.bmain hobj hints (Nat.le_trans hlen hn2) hr hF hb (fun H hH hS => hsp H a ns hlen hbits hH hS) fun H e s' => hCX H s₁ e s'
end JF

/-! ### groves beside tables of code objects -/
namespace JF
open PySem PySem.Spec PyProof.Rows L2 LamX
theorem GAt.tbl_out {C : Addr} {H : Hp} {a : GA} {rows : List (Int × Addr)} {q : List Sq} (G : GAt C H a rows q) {b : Addr} {ps : Array Value} (h : H b = some (.tbl ps)) : b ∉ a.muts rows := by
  obtain ⟨tups, mk, spt, D⟩ := G.da
  intro z
  unfold GA.muts GA.m5 at z
  simp only [List.cons_append, List.nil_append, List.mem_cons, List.mem_map] at z
  rcases z with rfl | rfl | rfl | rfl | rfl | rfl | ⟨sa, hm, rfl⟩
  · rw [D.hn] at h; cases h
  · rw [D.hm] at h; cases h
  · rw [D.hl] at h; cases h
  · rw [D.hv] at h; cases h
  · rw [D.hs] at h; cases h
  · rw [G.pl] at h; cases h
  · obtain ⟨ns, e, _⟩ := G.ro sa.1 sa.2 hm
    rw [e] at h; cases h
theorem GAt.ext_out {C : Addr} {H : Hp} {a : GA} {rows : List (Int × Addr)} {q : List Sq} (G : GAt C H a rows q) {b : Addr} {φ : Heap → Prop} (h : H b = some (.ext φ)) : b ∉ a.muts rows := by
  obtain ⟨tups, mk, spt, D⟩ := G.da
  intro z
  unfold GA.muts GA.m5 at z
  simp only [List.cons_append, List.nil_append, List.mem_cons, List.mem_map] at z
  rcases z with rfl | rfl | rfl | rfl | rfl | rfl | ⟨sa, hm, rfl⟩
  · rw [D.hn] at h; cases h
  · rw [D.hm] at h; cases h
  · rw [D.hl] at h; cases h
  · rw [D.hv] at h; cases h
  · rw [D.hs] at h; cases h
  · rw [G.pl] at h; cases h
  · obtain ⟨ns, e, _⟩ := G.ro sa.1 sa.2 hm
    rw [e] at h; cases h
theorem GAt.extN {C : Addr} {H H1 : Hp} {a : GA} {rows : List (Int × Addr)} {q : List Sq} (G : GAt C H a rows q) (x : ExtN H H1) : GAt C H1 a rows q :=
  G.keep fun b o e z => x b o e fun ps y => by
    subst y
    rcases z with z | z
    · exact z
    · exact G.tbl_out e z
theorem tabsL_fr {T : List (Addr × Str)} {H H' : Hp} (t : Tabs T H) (k : ∀ b o, H b = some o → ((∃ ps, o = .tbl ps) ∨ ∃ φ, o = .ext φ) → H' b = some o) : Tabs T H' := fun p hp => by
  obtain ⟨ps, h1, h2, h3⟩ := t p hp
  refine ⟨ps, k _ _ h1 (.inl ⟨_, rfl⟩), h2, fun pos cv hc => ?_⟩
  obtain ⟨c, e1, e2⟩ := h3 pos cv hc
  exact ⟨c, e1, k _ _ e2 (.inr ⟨_, rfl⟩)⟩
theorem tabsL_same {T : List (Addr × Str)} {H H1 : Hp} (t : Tabs T H) (s : Same H H1) : Tabs T H1 := tabsL_fr t fun b o e _ => s b o e
theorem tabsL_step {T : List (Addr × Str)} {C : Addr} {H H1 : Hp} {a : GA} {rows r1 : List (Int × Addr)} {q q1 : List Sq} (t : Tabs T H) (G : GAt C H a rows q) (x : GStep C H a rows q H1 r1 q1) : Tabs T H1 :=
  tabsL_fr t fun b o e h => x.fr b o e (by
    rcases h with ⟨ps, rfl⟩ | ⟨φ, rfl⟩
    · exact G.tbl_out e
    · exact G.ext_out e)
end JF

/-! ### a lambda without parameters, handed to a def with one argument more -/
namespace JF
open PySem PySem.Spec PyProof.Rows L2 LamX
/-- the context of the lambda's body; what it lets out -/
abbrev lamN (X : Cx) (A : Around) (outer : List PySem.Env) (s : Shared) (H : Hp) (E : XK) (scope : Scope) (f c' : Addr) : Cx :=
  (lamCx X A outer s H E scope f c').tr [] (fun e s' => wpAny (model X.prog X.w) (A.deeper (lamEnv X scope s.heap.objs.size f c')) (leaving (lamEnv X scope s.heap.objs.size f c') e) (fun _ s'' => L2N.CX X.prog X.w outer H s E e s'') (fun e' s'' => L2N.CX X.prog X.w outer H s E e' s'') s')
theorem lamN_takes {X : Cx} {A : Around} {outer : List PySem.Env} {s : Shared} {H : Hp} {E : XK} {scope : Scope} {f c' : Addr} : L2N.Takes (lamN X A outer s H E scope f c') (fun cls d _ H' => E cls d H') := L2N.takes_of rfl rfl rfl rfl
abbrev actCx (CXg : CXT) (X : Cx) (Ng : List Str) (qg : Str) (sg : Scope) (g : Addr) (cdg : Value) (A : Around) (outer : List PySem.Env) (s : Shared) (H : Hp) (Eg : XK) : Cx := cxOf CXg X.prog X.w X.K X.mg X.base Ng qg sg g cdg A outer s H Eg
section
variable {X : Cx} {pins : List (Addr × Obj)} {σ : L2.St} {H : Hp} {s : Shared}
/-- a(), where a is the lambda -/
theorem pe_actN {CXg : CXT} {Eg : XK} {Ng : List Str} {qg : Str} {sg : Scope} {g f c' : Addr} {cdg pm ctv : Value} {params : Arguments} {body : Expr} {scope : Scope} {k i : Nat} {a : Str} {pn : List (Addr × Obj)} {xe : Value → Shared → Prop} {W : WX} {tb : XK → TE} {p1 p2 : Pos}
    (I : Inv X pins σ H s) (L : LamS X.env.scope scope) (hf : s.heap.get? f = some (PySem.W.kla_obj "<lambda>" (X.env.qual ++ "<lambda>") params body scope (cloFrom X.env.cells scope.names []) pm c' ctv)) (hfn : H f = none) (hfr : f ∉ frs X.stack)
    (hbind : bindArgs (PySem.W.kla_fn "<lambda>" (X.env.qual ++ "<lambda>") params body scope (cloFrom X.env.cells scope.names []) pm (.ref c') ctv) ⟨[], []⟩ = pure [])
    (tk : L2N.Takes ((actCx CXg X Ng qg sg g cdg X.A X.stack s H Eg).tr pn xe) W) (hr : Room (k + 1) (X.A.deeper (envOfC qg sg s.heap.objs.size g cdg)))
    (hbody : ∀ (A : Around) (outer : List PySem.Env) (s : Shared) (H : Hp) (E : XK), Room k (A.deeper (lamEnv X scope s.heap.objs.size f c')) → PE (lamN X A outer s H E scope f c') body (tb E))
    (hN : Ng[i]? = some a) (hv : Vis sg a) (hd : (a == ("__debug__" : Str)) = false) (hcd : (a == ("__classdict__" : Str)) = false) :
    PE ((actCx CXg X Ng qg sg g cdg X.A X.stack s H Eg).tr pn xe) (.Call (.Name a p1) [] [] p2)
      (fun σZ HZ Q => σZ[i]? = some (some (.ref f)) ∧ HZ c' = some (CodeO c' (X.env.qual ++ "<lambda>")) ∧ tb (fun cls d H' => W cls d σZ H') σ HZ Q) := by
  refine ⟨fun qins t σZ HZ Q J h => ?_⟩
  obtain ⟨slot, code, run⟩ := h
  refine wpAny_Call_Name_kw (thn ((pe_var (pos := p1) (i := i) hN hv hd hcd).run qins t σZ HZ (fun v G => v = .ref f ∧ G = HZ) J ⟨.ref f, slot, rfl, rfl⟩) fun u t1 got => ?_)
  obtain ⟨v, G, J1, ru, ev, eG⟩ := got
  subst ev eG
  obtain rfl : u = Value.ref f := ru
  have there : t1.heap.get? f = some (PySem.W.kla_obj "<lambda>" (X.env.qual ++ "<lambda>") params body scope (cloFrom X.env.cells scope.names []) pm c' ctv) := J1.base.keep f _ hf hfn hfr (fun z => nomatch (show f ∈ ([] : List Addr) from z))
  refine PySem.W.callWith_F0 ⟨_, _, _, _, there⟩ ?_
  obtain ⟨⟨oc, vs, nm, o1, o2, o3⟩, _, _⟩ := J1.hok c' _ code
  have kept : Un (frs X.stack) [] H G s.heap t1.heap := J1.base
  refine wpAny_call (codeAny_mono (R := CR (L2N.CX X.prog X.w) (envOfC qg sg s.heap.objs.size g cdg :: X.stack) X.prog X.w G t1 Q (fun cls d H' => W cls d σZ H')) (PySem.W.kla_callFunE hr.depth there rfl L.co L.gen rfl ⟨c', oc, vs, nm, rfl, o1, o2, o3⟩ ?_) fun r t2 fin => ?_)
  · show wpAny _ _ (bindArgs _ ⟨[], []⟩) _ _ _
    rw [hbind]
    refine wpAny_pure (wpAny_newFunctionEnv (fun y hy => (L.own y hy).2) (fun y hy => absurd hy (by simp)) (fun h₁ ns sb => ⟨J1.nolimit.fresh _ sb, ?_⟩) L.kind)
    have more : ∀ b o, t1.heap.get? b = some o → h₁.get? b = some o := fun b o e => sb.extBut b o (Nat.ne_of_lt (Heap.lt_size e)) (Heap.get?_push_of_some _ e)
    have start : Inv (lamN X (X.A.deeper (envOfC qg sg s.heap.objs.size g cdg)) (envOfC qg sg s.heap.objs.size g cdg :: X.stack) t1 G (fun cls d H' => W cls d σZ H') scope f c') [] σ G { t1 with heap := h₁, toks := t1.toks + ([] : List (Str × Value)).length } :=
      (lam_start2 (E := fun cls d H' => W cls d σZ H') (c' := c') (f := f) I L J1.env0 hr.hd kept ns more).toTry _
    refine PySem.W.kla_codeExpr (wpAny_mono ((hbody _ _ t1 G _ (hr.deeper _)).run [] _ _ G Q start run) (fun v t3 ans => ?_) fun e t3 ans => ans)
    obtain ⟨x, H3, J3, rv, q3⟩ := ans
    exact ⟨x, H3, J3.os, J3.bare, J3.base, J3.hok, rv, q3⟩
  · cases r with
    | error e => exact L2N.passAt tk σZ qins G t1 e t2 J1 fin
    | ok fl =>
      cases fl with
      | ret u => exact J1.after fin
      | next => exact fin.elim
      | brk => exact fin.elim
      | cont => exact fin.elim
end
/-! #### the def that gets it -/
/-- an argument whose evaluation leaves all as it is -/
def Steady (X : Cx) (e : Expr) (te : L2.St → V → Prop) : Prop := ∀ (pins : List (Addr × Obj)) (s : Shared) (σ : L2.St) (H : Hp) (v : V), Inv X pins σ H s → te σ v → ∀ (Q : Value → Shared → Prop) (E : Value → Shared → Prop), (∀ u tk, RelV v u → Q u { s with toks := tk }) → wpAny (model X.prog X.w) X.A (eval e X.env) Q E s
theorem steady_int {X : Cx} {i : Int} {j : Nat} {pos : Pos} : Steady X (.Constant (.int i) j pos) (fun _ v => v = .int i) := fun pins s σ H v I h Q E k => by
  subst h
  exact wpAny_Constant_int (k _ _ ⟨_, rfl⟩)
theorem steady_var {X : Cx} {i : Nat} {x : Str} {pos : Pos} (hN : X.N[i]? = some x) (hv : Vis X.env.scope x) (hd : (x == ("__debug__" : Str)) = false := by decide) (hcd : (x == ("__classdict__" : Str)) = false := by decide) : Steady X (.Name x pos) (fun σ v => σ[i]? = some (some v)) := fun pins s σ H v I h Q E k => by
  obtain ⟨m, hn, hl⟩ := I.loc
  obtain ⟨u, r, l⟩ := hl i x v hN h hv
  have fin : Q u s := k u s.toks r
  rcases l with ⟨hk, hm⟩ | ⟨hk, c, hc, hcell⟩
  · exact wpAny_Name (wpAny_loadName_local I.ok.kind hk hn hm fin) hd
  · rcases hk with hk | hk
    · exact wpAny_Name (wpAny_loadName_cell I.ok.kind hk hc hcell fin) hd
    · exact wpAny_Name (wpAny_loadName_free I.ok.kind hk hc hcell fin hcd) hd
/-- the def's promise: TT tells what it makes of the lambda's reading -/
def GoodL (P : Program) (w : World) (K : PySem.W.Frag) (mg : Str → Option Value) (base : Heap) (k : Nat) (x : Str) (a b : Str) (TT : V → (XK → Hp → VK → Prop) → Hp → VK → Prop) : Prop :=
  ∃ (N : List Str) (qual : Str) (params : Arguments) (body : List Stmt) (scope : Scope) (dV kV doc pm cdv ct oc : Value) (an od : Option Addr) (osl : Array (Option Value)), K.lookup (He.fAd K (x, none)) = some ⟨oc, od, .func (PySem.W.fnOf x qual params body scope dV kV doc pm an cdv ct), osl⟩ ∧ PySem.W.codeIn K cdv qual = true ∧ FnScope N [a, b] scope ∧ N[0]? = some a ∧ Vis scope a ∧
    L2.Binds K (PySem.W.fnOf x qual params body scope dV kV doc pm an cdv ct) [a, b] [] ∧ PySem.W.keepIn K (.ref (He.fAd K (x, none))) = true ∧
    ∀ (A : Around) (outer : List PySem.Env) (s : Shared) (H : Hp) (Q : VK) (v2 : V) (f c' : Addr) (q : Str) (tl : XK → Hp → VK → Prop), Room k (A.deeper (envOfC qual scope s.heap.objs.size (He.fAd K (x, none)) cdv)) →
      (∀ (W : WX) (pn : List (Addr × Obj)) (xe : Value → Shared → Prop) (p1 p2 : Pos), L2N.Takes ((cxOf CX0 P w K mg base N qual scope (He.fAd K (x, none)) cdv A outer s H E0).tr pn xe) W → PE ((cxOf CX0 P w K mg base N qual scope (He.fAd K (x, none)) cdv A outer s H E0).tr pn xe) (.Call (.Name a p1) [] [] p2) (fun σZ HZ Q => σZ[0]? = some (some (.ref f)) ∧ HZ c' = some (CodeO c' q) ∧ tl (fun cls d H' => W cls d σZ H') HZ Q)) →
      H c' = some (CodeO c' q) → TT v2 tl H Q → ∃ t, PSs (cxOf CX0 P w K mg base N qual scope (He.fAd K (x, none)) cdv A outer s H E0).nox body t ∧ t { nx := fun _ H' => Q .non H', rt := Q } (L2.start N [.ref f, v2]) H
def tLam2 (T : List (Addr × Str)) (TT : V → (XK → Hp → VK → Prop) → Hp → VK → Prop) (t : XK → TE) (te : L2.St → V → Prop) : TE := fun σ H Q => Tabs T H ∧ ∃ v2, te σ v2 ∧ ∀ H1, ExtN H H1 → Tabs T H1 → TT v2 (fun E H' Q' => t E σ H' Q') H1 Q
section
variable {X : Cx}
/-- x(lambda: body, e2) -/
theorem pe_lam2 (K : PySem.W.Frag) (hK : X.K = K) {T : List (Addr × Str)} {TT : V → (XK → Hp → VK → Prop) → Hp → VK → Prop} {x a b : Str} {c P : Addr} {k : Nat} {params : Arguments} {body e2 : Expr} {scope : Scope} {t : XK → TE} {te : L2.St → V → Prop} {p lpos pos : Pos}
    (G : GoodL X.prog X.w K X.mg X.base k x a b TT) (hg : Gl X x) (hm : X.mg x = some (.ref (He.ga K x))) (h2 : Steady X e2 te) (TB : TabB X.base X.mg c P) (hcode : X.env.code = .ref c) (hmT : (P, X.env.qual ++ "<lambda>") ∈ T) (hu : ∀ p ∈ T, p.1 = P → p.2 = X.env.qual ++ "<lambda>") (hr : Room (k + 1) X.A) (hk1 : 1 ≤ k) (L : LamS X.env.scope scope) (hdef : defaultsOf params X.env = ([], []))
    (hbind : ∀ (q : Str) (cl : List (Str × Addr)) (pm cv ctv : Value), bindArgs (PySem.W.kla_fn "<lambda>" q params body scope cl pm cv ctv) ⟨[], []⟩ = pure [])
    (hbody : ∀ (A : Around) (outer : List PySem.Env) (s : Shared) (H : Hp) (E : XK) (f c' : Addr), Room (k - 1) (A.deeper (lamEnv X scope s.heap.objs.size f c')) → PE (lamN X A outer s H E scope f c') body (t E))
    (hdb : (x == ("__debug__" : Str)) = false := by decide) (hd : (a == ("__debug__" : Str)) = false := by decide) (hcd : (a == ("__classdict__" : Str)) = false := by decide)
    (hs1 : starEach [.Lambda params body scope lpos, e2] X.env = (false, eval (.Lambda params body scope lpos) X.env) :: starEach [e2] X.env := by rfl) (hs2 : starEach [e2] X.env = (false, eval e2 X.env) :: starEach [] X.env := by rfl) (hpl : (backTo pos (starEach [e2] X.env)).any (·.1) = false := by rfl) :
    PE X (.Call (.Name x p) [.Lambda params body scope lpos, e2] [] pos) (tLam2 T TT t te) := by
  subst hK
  obtain ⟨N, qual, ps, bd, sc, dV, kV, doc, pm, cdv, ct, oc, an, od, osl, lk, hcd', Sg, hN0, hva, hb, hkp, hG⟩ := G
  refine ⟨fun pins s σ H Q I h => ?_⟩
  obtain ⟨hT, v2, hv2, h⟩ := h
  refine wpAny_Call_Name_kw (ld_glob I hg hm ?_ hdb)
  refine PySem.W.callWith_K (h₀ := X.base) I.ok.mod.kin hkp ?_ hs1 hpl
  refine args_cons (lam_make2 I TB hcode hmT hu hT hdef (L.has I.ok) fun f c' pm' ctv H1 s' I1 eN T1 hf hfn hfr hco => ?_) hs1
  refine args_cons (h2 pins s' σ H1 v2 I1 hv2 _ _ fun u tk ru => args_nil ?_) hs2
  have I2 : Inv X pins σ H1 { s' with toks := tk } := I1.tok tk
  refine ⟨I2.kIn, ?_⟩
  refine wpAny_call (codeAny_mono (R := CR CX0 X.stack X.prog X.w H1 { s' with toks := tk } Q E0) (run_ofS (k := k) (N := N) (ps := [a, b]) (us := [.ref f, u]) (vs := [.ref f, v2]) lk hcd' Sg hr I2.env0 (hb _ [.ref f, u] I2.kIn rfl) (.cons rfl (.cons ru .nil)) rfl fun hr' => ?_) fun r t2 fin => ?_)
  · obtain ⟨k', rfl⟩ : ∃ k', k = k' + 1 := ⟨k - 1, by omega⟩
    obtain ⟨t', ht', hq'⟩ := hG X.A X.stack { s' with toks := tk } H1 Q v2 f c' (X.env.qual ++ "<lambda>") (fun E H' Q' => t E σ H' Q') hr' (fun W pn xe p1 p2 tk' => pe_actN (k := k') (i := 0) (CXg := CX0) (Eg := E0) I2 L hf hfn hfr (hbind _ _ _ _ _) tk' hr' (fun A outer s H E hr2 => hbody A outer s H E f c' hr2) hN0 hva hd hcd) hco (h H1 eN T1)
    exact ⟨t', ht'.nox, hq'⟩
  · cases r with
    | error e => exact (show False from fin).elim
    | ok fl =>
      cases fl with
      | ret u => exact I2.after fin
      | next => exact fin.elim
      | brk => exact fin.elim
      | cont => exact fin.elim
end
section
variable {P : Program} {w : World} {K : PySem.W.Frag} {mg : Str → Option Value} {base : Heap} {fa : List He.Fa} {fn : List He.DefD}
theorem goodL_mk (T : Env fa fn K mg) (i : Nat) {d : He.DefD} {k : Nat} {N : List Str} {a b x qual : Str} {st : Stmt} {TT : V → (XK → Hp → VK → Prop) → Hp → VK → Prop} (hi : fn[i]? = some d) (hd : d = ⟨(x, none), x, qual, defArgs st, defBody st, defScope st, [], []⟩) (S : FnScope N [a, b] (defScope st))
    (hb : ∀ (kV doc pm : Value) (an : Option Addr) (cdv ct : Value) (us : List Value), us.length = [a, b].length → bindArgs (PySem.W.fnOf x qual (defArgs st) (defBody st) (defScope st) .none kV doc pm an cdv ct) ⟨us, []⟩ = pure ([a, b].zip us))
    (hN0 : N[0]? = some a) (hva : Vis (defScope st) a)
    (hbody : ∀ (cdv : Value) (A : Around) (outer : List PySem.Env) (s : Shared) (H : Hp) (Q : VK) (v2 : V) (f c' : Addr) (q : Str) (tl : XK → Hp → VK → Prop), Room k (A.deeper (envOfC qual (defScope st) s.heap.objs.size (He.fAd K (x, none)) cdv)) →
      (∀ (W : WX) (pn : List (Addr × Obj)) (xe : Value → Shared → Prop) (p1 p2 : Pos), L2N.Takes ((cxOf CX0 P w K mg base N qual (defScope st) (He.fAd K (x, none)) cdv A outer s H E0).tr pn xe) W → PE ((cxOf CX0 P w K mg base N qual (defScope st) (He.fAd K (x, none)) cdv A outer s H E0).tr pn xe) (.Call (.Name a p1) [] [] p2) (fun σZ HZ Q => σZ[0]? = some (some (.ref f)) ∧ HZ c' = some (CodeO c' q) ∧ tl (fun cls d H' => W cls d σZ H') HZ Q)) →
      H c' = some (CodeO c' q) → TT v2 tl H Q → ∃ t, PSs (cxOf CX0 P w K mg base N qual (defScope st) (He.fAd K (x, none)) cdv A outer s H E0).nox (defBody st) t ∧ t { nx := fun _ H' => Q .non H', rt := Q } (L2.start N [.ref f, v2]) H) : GoodL P w K mg base k x a b TT := by
  subst hd
  obtain ⟨fd, F⟩ := T.c.def_ i hi
  have bn := FunD.bindsN F hb
  have kp := F.kp
  obtain ⟨oc, od, dV, kV, doc, pm, an, cdv, ct, osl, rfl, lk, hcd, _, _⟩ := F.ex
  exact ⟨N, qual, _, _, _, _, _, doc, pm, cdv, ct, oc, an, od, osl, lk, hcd, S, hN0, hva, bn, kp, fun A outer s H Q v2 f c' q tl hr act hc h => hbody cdv A outer s H Q v2 f c' q tl hr act hc h⟩
end
end JF

/-! ### a list comprehension within an except clause -/
namespace JF
open PySem PySem.Spec PyProof PyProof.Rows L2 L2H
abbrev bkC (X : Cx) (p : Addr × Obj) (s : Shared) (H : Hp) (scope : Scope) (ce : PySem.Env) (fp : List Addr) : Cx := (X.blk s H scope ce fp).tr [p] (fun _ _ => False)
section
variable {X : Cx}
theorem bk_pin {p : Addr × Obj} {s3 s : Shared} {H3 H : Hp} {scope : Scope} {ce : PySem.Env} {fp : List Addr} {σ : L2.St} (B : Inv (X.blk s3 H3 scope ce fp) [] σ H s) (e : s.heap.get? p.1 = some p.2) (n : H p.1 = none) (l : p.1 ≠ ce.locals) (f : p.1 ∉ frs X.stack) (c : ∀ v, p.2.data ≠ .cell v) : Inv (bkC X p s3 H3 scope ce fp) [] σ H s :=
  (B.pins_of (pins' := [p]) fun q hq => by obtain rfl := List.mem_singleton.mp hq; exact ⟨e, n, l, f, c⟩).toTry _
theorem bk_fp {p : Addr × Obj} {s3 s : Shared} {H3 H H' : Hp} {scope : Scope} {ce : PySem.Env} {fp : List Addr} {σ : L2.St} (B : Inv (bkC X p s3 H3 scope ce fp) [] σ H s) (np : p.1 ∉ fp) (hn : ∀ b ∈ fp, H' b = none) : ∀ b ∈ fp, FpOk (bkC X p s3 H3 scope ce fp) [] H' b := fun b hb =>
  ⟨hn b hb, (B.ok.exf b hb).1, B.ok.exfs b hb, .inl hb, (B.ok.exf b hb).2, fun r hr => by
    have e : r = p := List.mem_singleton.mp (by simpa using hr)
    exact fun z => np (by rw [← e, z]; exact hb)⟩
/-- the loop itself, the block begun -/
theorem lcH_loop {p : Addr × Obj} {σ : L2.St} {s3 s4 : Shared} {H3 : Hp} {elt tg iter : Expr} {scope : Scope} {vs : List Nat} {pos : Pos} {ce : PySem.Env} {g : TG} {te : TE} {J : It} {fp : List Addr} {ia D : Addr} {tn : Nat → Heap → Prop} {W : Nat → Nat → Hp → Prop} {m0 : Nat} {Q : VK}
    (hot : Hot1 X.A p) (np : p.1 ∉ fp) (T : TurnH X.prog X.w X.K tg J fp ia tn) (ht : PG (bkC X p s3 H3 scope ce fp) tg g) (he : PE (bkC X p s3 H3 scope ce fp) elt te)
    (I4 : Inv (bkC X p s3 H3 scope ce fp) [] (wipe σ vs) H3 s4) (st4 : tn 0 s4.heap) (fr4 : ∀ b ∈ fp, H3 b = none) (w0 : W 0 m0 H3)
    (turn : ∀ i m H, W i m H → (J.stop i H ∧ Q (.ref D) H) ∨ (J.go i H ∧ ∃ Nx : Hp → Prop, (∀ H', Nx H' → ∃ m', m' < m ∧ W (i + 1) m' H') ∧ ∀ x H', J.yld i H x H' → g x (wipe σ vs) H' fun σ2 H2 => wipe σ2 vs = wipe σ vs ∧ tYes σ2 H2 fun b H3 =>
      if b = true then te σ2 H3 fun y H4 => ∃ acc, H4 D = some (.lst acc) ∧ acc.length < sizeLine ∧ Nx (upd H4 D (.lst (acc ++ [y]))) else Nx H3))
    {R : Result → Shared → Prop} (fin : ∀ H5 s6, Inv (bkC X p s3 H3 scope ce fp) [] (wipe σ vs) H5 s6 → Q (.ref D) H5 → R (.ok .next) s6) :
    codeAny (model X.prog X.w) X.A (.compLoop (.ListComp elt [⟨tg, iter, [], 0⟩] scope pos) 0 (.ref ia) (.ref D) ce) R s4 := by
  have hotB : HotC (bkC X p s3 H3 scope ce fp) := ⟨p, hot, List.mem_singleton.mpr rfl⟩
  refine compLoop_any (fun n s' => ∃ i H', Inv (bkC X p s3 H3 scope ce fp) [] (wipe σ vs) H' s' ∧ tn i s'.heap ∧ (∀ b ∈ fp, H' b = none) ∧ W i n H') (fun n s5 hn => ?_) m0 ⟨0, H3, I4, st4, fr4, w0⟩
  obtain ⟨i, H5, I5, st5, n5, w5⟩ := hn
  rcases turn i n H5 w5 with ⟨stop, qq⟩ | ⟨go, Nx, hNx, step⟩
  · refine thnF (T.done (bkC X p s3 H3 scope ce fp) rfl rfl rfl hotB i [] s5 _ H5 (fun _ _ => False) I5 (bk_fp I5 np n5) st5 stop) fun r s6 h6 => ?_
    obtain ⟨rfl, I6⟩ := h6
    exact fin H5 s6 I6 qq
  · refine thnF (T.item (bkC X p s3 H3 scope ce fp) rfl rfl rfl hotB i [] s5 _ H5 (fun _ _ => False) I5 (bk_fp I5 np n5) st5 go) fun r s6 h6 => ?_
    obtain ⟨u, rfl, h6⟩ := h6
    refine thnF h6 fun _ s7 h7 => ?_
    obtain ⟨x, H7, I7, r7, y7, st7, n7⟩ := h7
    have P7 := I7.pinned (bk_fp I7 np n7) (T.obj _ _ st7)
    refine thnF (ht.run _ s7 _ H7 x u _ P7 r7 (step x H7 y7)) fun _ s8 h8 => ?_
    obtain ⟨σ8, H8, I8, w8, q8⟩ := h8
    refine thnF ((pts_nil (X := bkC X p s3 H3 scope ce fp)).run _ s8 σ8 H8 _ I8 q8) fun b s9 h9 => ?_
    obtain ⟨H9, I9, q9⟩ := h9
    have back : ∀ {s' : Shared} {H' : Hp}, Inv (bkC X p s3 H3 scope ce fp) ([] ++ pinsAt fp s7.heap) σ8 H' s' → Nx H' → ∃ m, m < n ∧ ∃ i H', Inv (bkC X p s3 H3 scope ce fp) [] (wipe σ vs) H' s' ∧ tn i s'.heap ∧ (∀ b ∈ fp, H' b = none) ∧ W i m H' := fun {s' H'} I' nx => by
      obtain ⟨m', lt, w'⟩ := hNx H' nx
      have still : ∀ b ∈ fp, ∀ o, s7.heap.get? b = some o → s'.heap.get? b = some o ∧ H' b = none := fun b hb o e =>
        let z := I'.pin (b, o) (List.mem_append_right _ (List.mem_append_right _ (mem_pinsAt hb e)))
        ⟨z.1, z.2.1⟩
      refine ⟨m', lt, i + 1, H', I'.unpinned.weak (by rw [← w8, wipe_length]) (fun j v e => by rw [← w8] at e; exact (wipe_some e).1), T.keep _ _ _ st7 fun b hb o e => (still b hb o e).1, fun b hb => ?_, w'⟩
      obtain ⟨o, e, _⟩ := T.obj _ _ st7 b hb
      exact (still b hb o e).2
    cases b with
    | false => exact back I9 (by simpa using q9)
    | true =>
      have q9' := by simpa only [if_true] using q9
      simp only [if_true]
      refine thnF (he.run _ s9 σ8 H9 _ I9 q9') fun z s10 h10 => ?_
      obtain ⟨yv, H10, I10, r10, acc, hD, sz, nx⟩ := h10
      exact app_ok (X := bkC X p s3 H3 scope ce fp) I10 hD sz r10 fun s11 I11 => back I11 nx
theorem pe_lcH {elt tg iter : Expr} {scope : Scope} {own : List (Str × Nat)} {pos : Pos} {wi : TI} {g : TG} {te : TE} (hot : HotC X) (nd : X.N.Nodup) (it : PIH X tg iter wi) (bo : BlkOk X.N X.env.scope scope own)
    (ht : ∀ (p : Addr × Obj) (s : Shared) (H : Hp) (C : Addr) (cl : List (Str × Addr)) (fp : List Addr), PG (bkC X p s H scope (compEnvC scope cl C X.env) fp) tg g)
    (he : ∀ (p : Addr × Obj) (s : Shared) (H : Hp) (C : Addr) (cl : List (Str × Addr)) (fp : List Addr), PE (bkC X p s H scope (compEnvC scope cl C X.env) fp) elt te)
    (fold : ∀ x, foldedSetIterable iter X.env x = pure x := by intro _; rfl) : PE X (.ListComp elt [⟨tg, iter, [], 0⟩] scope pos) (tLc wi g tYes te (own.map (·.2))) := by
  refine ⟨fun pins s σ H Q I h => ?_⟩
  obtain ⟨p, hp1, hpn⟩ := hot
  have clo := closure_ok (scope := scope) (env := X.env) fun y my fr => (bo.free y my fr).elim (fun k => I.ok.has _ (.inl k)) fun k => I.ok.has _ (.inr k)
  rw [eval_ListComp]
  refine wpAny_comprehension_free (use := none) rfl fold clo bo.kind (fun y my l => by rw [bo.uniq y my, l]) (thn (it.run pins s σ H _ I h) fun v s1 h1 => thn h1 fun itv s2 h2 => ?_)
  obtain ⟨ia, fp, tn, J, H2, rfl, I2, T, st2, f2, q⟩ := h2
  refine wpAny_newObj_type (newEnv_comp ?_) (by show 0 ≤ sizeLine; decide)
  have hn2 : H2 s2.heap.objs.size = none := I2.hok.fresh (Nat.le_refl _)
  obtain ⟨W, ⟨m0, w0⟩, turn⟩ := q _ hn2
  have I3 : Inv X pins σ (upd H2 s2.heap.objs.size (.lst [])) { s2 with heap := s2.heap.push { cls := .type "list", data := .seq ([] : List Value).toArray } } := I2.laid (t' := s2.toks) (fun b o e => Heap.get?_push_of_some _ e) (Nat.le_refl _) ⟨Nat.zero_le _, [], 0, .nil, Heap.get?_push_size _ rfl⟩
  have lt2 : ∀ b ∈ fp, b < s2.heap.objs.size := fun b hb => let ⟨o, e, _⟩ := T.obj _ _ st2 b hb; Heap.lt_size e
  have f3 : ∀ b ∈ fp, FpOk X pins (upd H2 s2.heap.objs.size (.lst [])) b ∧ b < (s2.heap.push { cls := .type "list", data := .seq ([] : List Value).toArray }).objs.size := fun b hb =>
    ⟨⟨by rw [upd_ne (Nat.ne_of_lt (lt2 b hb))]; exact (f2 b hb).1, (f2 b hb).2⟩, by rw [Heap.size_push]; exact Nat.lt_succ_of_lt (lt2 b hb)⟩
  have st3 : tn 0 (s2.heap.push { cls := .type "list", data := .seq ([] : List Value).toArray }) := T.keep _ _ _ st2 fun b _ o e => Heap.get?_push_of_some _ e
  generalize upd H2 s2.heap.objs.size (.lst []) = H3 at I3 f3 w0
  generalize s2.heap.objs.size = D at turn ⊢
  generalize hs3 : ({ s2 with heap := s2.heap.push { cls := .type "list", data := .seq ([] : List Value).toArray } } : Shared) = s3 at I3 ⊢
  have st3 : tn 0 s3.heap := by rw [← hs3]; exact st3
  have f3 : ∀ b ∈ fp, FpOk X pins H3 b ∧ b < s3.heap.objs.size := by rw [← hs3]; exact f3
  have B := block_start I3 bo nd f3
  have st4 : tn 0 (pushCells (s3.heap.push { cls := .type "dict", data := .dict #[] }) scope.names) := T.keep _ _ _ st3 fun b _ o e => pushCells_keeps _ _ _ _ (Heap.get?_push_of_some _ e)
  have pn3 := I3.pin p (List.mem_append_left _ hpn)
  have P := bk_pin (p := p) B (pushCells_keeps _ _ _ _ (Heap.get?_push_of_some _ pn3.1)) pn3.2.1 (Nat.ne_of_lt (Heap.lt_size pn3.1)) (fun m => (List.mem_cons.mp (I3.stkSub p.1 m)).elim pn3.2.2.1 pn3.2.2.2.1) pn3.2.2.2.2
  have npf : p.1 ∉ fp := fun m => (f3 p.1 m).1.2.2.2.2.2 p (List.mem_append_left _ hpn) rfl
  have loop := lcH_loop (pos := pos) (iter := iter) hp1 npf T (ht p s3 H3 s3.heap.objs.size (cellsFrom (s3.heap.objs.size + 1) scope.names (cloFrom X.env.cells scope.names [])) fp) (he p s3 H3 s3.heap.objs.size (cellsFrom (s3.heap.objs.size + 1) scope.names (cloFrom X.env.cells scope.names [])) fp) P st4 (fun b hb => (f3 b hb).1.1) w0 turn
    (R := compPost (model X.prog X.w) X.A X.xe none (EP X pins σ Q) (.ref D) s3.heap.objs.size) (fun H5 s6 I6 q5 => by
      have I7 : Inv X pins σ H5 s6 := I3.call' (ch := fp) I6.os I6.base I6.hok I6.bare fun b hb => ⟨(f3 b hb).1.2.2.2.1, (f3 b hb).1.2.1, (f3 b hb).1.2.2.2.2.1, (f3 b hb).1.2.2.2.2.2⟩
      obtain ⟨m, ns, _⟩ := I6.loc
      refine ⟨m, ns, fun h'' sb => ?_⟩
      obtain ⟨g0, g1, g2, g3, g4, g5⟩ := I3.fpOk (H' := H5) (Nat.le_refl s3.heap.objs.size) I6.free
      exact ⟨.ref D, H5, I7.turned (t' := s6.toks) (fun b o hb e => (sb.2 b hb).trans e) g0 g1 g3 g4 g5, rfl, q5⟩)
  exact codeAny_compStart_list loop (T.self X.A 0 _ _ _ st4 loop)
end
end JF

/-! ### what is no number of a square is refused -/
namespace JF
open PySem PySem.Spec PyProof.Rows L2
theorem good_orX {P : Program} {w : World} {K : PySem.W.Frag} {mg : Str → Option Value} {base : Heap} {CX : CXT} {k : Nat} {p : Str × Option Str} {ps : List Str} {sp1 sp2 : Sp} (G1 : Good P w K mg base CX k p ps sp1) (G2 : Good P w K mg base CX k p ps sp2) : Good P w K mg base CX k p ps (fun vs H Q E => sp1 vs H Q E ∨ sp2 vs H Q E) := by
  obtain ⟨fd, F1, b, kp, l1⟩ := G1
  obtain ⟨fd2, F2, _, _, l2⟩ := G2
  cases l1.eq l2
  exact ⟨fd, ⟨fun vs H Q E h => h.elim (F1.len vs H Q E) (F2.len vs H Q E), fun A outer s H args us vs Q E hr he hb hv h => h.elim (F1.run A outer s H args us vs Q E hr he hb hv) (F2.run A outer s H args us vs Q E hr he hb hv)⟩, b, kp, l1⟩
/-- what may be handed in as a number -/
def KindT (H : Hp) (x : V) : Prop := ((∃ i, x = .int i) ∨ (∃ b, x = .bl b) ∨ (∃ z, x = .str z) ∨ x = .non) ∨ ∃ a xs, x = .ref a ∧ H a = some (.tup xs)
theorem KindT.tups {H H' : Hp} {x : V} (h : KindT H x) (s : ∀ b xs, H b = some (.tup xs) → H' b = some (.tup xs)) : KindT H' x := h.imp id fun ⟨a, xs, e, h⟩ => ⟨a, xs, e, s _ _ h⟩
/-- no whole number from 0 to most -/
def BadN (most : Int) (x : V) : Prop := wholeV x = false ∨ ∃ i, x = .int i ∧ (i < 0 ∨ most < i)
section
variable {P : Program} {w : World} {K : PySem.W.Frag} {mg : Str → Option Value} {base : Heap}
def sp_wholeTup : Sp := fun vs H Q _ => ∃ a xs, vs = [V.ref a] ∧ H a = some (.tup xs) ∧ Q (.bl false) H
theorem ok_wholeTup (T : Env fa fn K mg) : Good P w K mg base CX0 1 ("is_whole", none) ["thing"] sp_wholeTup := by
  refine good_mk T 1 (d := d_is_whole) (N := ["thing"]) (ps := ["thing"]) rfl rfl sc_is_whole (fun _ _ _ _ _ _ us hl => match us, hl with | [_], _ => rfl) (fun vs H Q E h => ?_) (fun f cdv A outer s H vs Q E hr h => ?_)
  · obtain ⟨a, xs, rfl, _⟩ := h; rfl
  · obtain ⟨a, xs, rfl, ha, k⟩ := h
    refine ⟨_, (pss_one (ps_ret (pe_and (pe_callB (call_isiK K rfl) (by rfl) (T.free 1) (by decide +kernel) (pa_cons (pv 0) (pa_cons (pe_bltn (v := V.ty "int") rfl (T.free 2) (by decide +kernel) rfl) pa_nil))) (pe_one (pe_not (pe_callB (call_isiK K rfl) (by rfl) (T.free 1) (by decide +kernel) (pa_cons (pv 0) (pa_cons (pe_bltn (v := V.ty "bool") rfl (T.free 0) (by decide +kernel) rfl) pa_nil)))))))), ?_⟩
    walk_at "rd"
    refine isi_ty (.base (.tup ha)) (by decide +kernel : kitB "tuple" "int" = some false) ?_
    walk_at "rd"
    exact k
def sp_wholeT : Sp := fun vs H Q _ => ∃ x, vs = [x] ∧ KindT H x ∧ Q (.bl (wholeV x)) H
theorem ok_wholeT (T : Env fa fn K mg) : Good P w K mg base CX0 1 ("is_whole", none) ["thing"] sp_wholeT := by
  obtain ⟨fd, F, b, kp, l1⟩ := good_orX (ok_is_whole (P := P) (w := w) (base := base) T) (ok_wholeTup (P := P) (w := w) (base := base) T)
  have key : ∀ vs H Q E, sp_wholeT vs H Q E → (sp_is_whole vs H Q E ∨ sp_wholeTup vs H Q E) := fun vs H Q E ⟨x, e, hk, q⟩ => by
    rcases hk with hk | ⟨a, xs, rfl, ha⟩
    · exact .inl ⟨x, e, hk, q⟩
    · exact .inr ⟨a, xs, e, ha, q⟩
  exact ⟨fd, ⟨fun vs H Q E h => F.len vs H Q E (key vs H Q E h), fun A outer s H args us vs Q E hr he hb hv h => F.run A outer s H args us vs Q E hr he hb hv (key vs H Q E h)⟩, b, kp, l1⟩
def sp_askedX (K : PySem.W.Frag) : Sp := fun vs H _ E => ∃ (a : GA) (rows : List (Int × Addr)) (q : List Sq) (x : V), vs = [.ref a.g, x] ∧ GAt (CG K) H a rows q ∧ KindT H x ∧ BadN 999999999 x ∧ E (.ref (He.ga K "NoSquare")) none H
theorem okX_asked (T : Env fa fn K mg) : Good P w K mg base (L2N.CX P w) 2 ("Grove", some "asked") ["self", "square"] (sp_askedX K) := by
  have G_is_whole := ok_wholeT (P := P) (w := w) (base := base) T
  refine good_mkX T 10 (d := d_Grove_asked) (N := ["self", "square"]) (ps := ["self", "square"]) rfl rfl sc_Grove_asked (fun _ _ _ _ _ _ us hl => match us, hl with | [_, _], _ => rfl) (fun vs H Q E h => ?_) (fun f cdv A outer s H vs Q E hr h => ?_)
  · obtain ⟨a, rows, q, x, rfl, _⟩ := h; rfl
  · obtain ⟨a, rows, q, x, rfl, G, hk, hb, k⟩ := h
    refine ⟨_, (pss_cons (ps_if (PW.pt (pw_or (pt_not (pt_val (pe_cgK K rfl G_is_whole (hr.mono (by decide)) (T.glo 7) (pa_cons (pv 1) pa_nil)))) (pw_or1 (pt_not (pt_chain op_le op_lt pe_int (pv 1) (pe_gint (T.int 14) rfl)))))) (pss_one (ps_raiseT K rfl (T.exf (List.mem_of_getElem? (i := 0) rfl)) (T.glo 15) rfl (L2N.takes_of rfl rfl rfl rfl) rfl)) pss_nil)
      (pss_one (ps_ret (pe_ix (ix_listK K rfl) (pe_fldK K rfl (pv 0) rfl) (pv 1) (fun _ _ => rfl))))), ?_⟩
    walk_at "rd"
    refine ⟨x, rfl, hk, ?_⟩
    walk_at "rd"
    rcases hb with hb | ⟨i, rfl, hi⟩
    · rw [hb]
      walk_at "rd"
      exact rd_raise k
    · refine iteF ?_
      walk_at "rd"
      by_cases h0 : 0 ≤ i
      · rw [decide_eq_true h0]
        walk_at "rd"
        rw [decide_eq_false (show ¬ i < 1000000000 by omega)]
        walk_at "rd"
        exact rd_raise k
      · rw [decide_eq_false h0]
        walk_at "rd"
        exact rd_raise k
end
end JF

/-! ### steps of a grove beside tables of code objects (as in K14f) -/
namespace JF
open PySem PySem.Spec PyProof.Rows L2 LamX
/-- a step of a grove in which tables of code objects may grow -/
structure LStep (C : Addr) (H : Hp) (a : GA) (rows : List (Int × Addr)) (q : List Sq) (H' : Hp) (rows' : List (Int × Addr)) (q' : List Sq) : Prop where
  gat : GAt C H' a rows' q'
  pre : q <+: q'
  own : ∀ b o, H b = some o → b ∉ a.muts rows → (∀ ps, o ≠ .tbl ps) → H' b = some o ∧ b ∉ a.muts rows'
section
variable {C : Addr} {H H1 H2 : Hp} {a : GA} {rows r1 r2 : List (Int × Addr)} {q q1 q2 : List Sq}
theorem LStep.refl (G : GAt C H a rows q) : LStep C H a rows q H rows q := ⟨G, List.prefix_refl _, fun _ _ e n _ => ⟨e, n⟩⟩
theorem LStep.of (x : GStep C H a rows q H1 r1 q1) : LStep C H a rows q H1 r1 q1 := ⟨x.gat, x.pre, fun _ _ e n _ => x.own e n⟩
theorem LStep.trans (x : LStep C H a rows q H1 r1 q1) (y : LStep C H1 a r1 q1 H2 r2 q2) : LStep C H a rows q H2 r2 q2 :=
  ⟨y.gat, x.pre.trans y.pre, fun b o e n t => let ⟨e1, n1⟩ := x.own b o e n t; y.own b o e1 n1 t⟩
theorem LStep.ext (G : GAt C H a rows q) (x : ExtN H H1) : LStep C H a rows q H1 rows q := ⟨G.extN x, List.prefix_refl _, fun b o e n t => ⟨x b o e t, n⟩⟩
theorem LStep.kind {x : V} (s : LStep C H a rows q H1 r1 q1) (G : GAt C H a rows q) (h : KindT H x) : KindT H1 x := h.tups fun b xs e => (s.own b _ e (G.tup_out e) fun _ z => by cases z).1
end
theorem KindT.extN {H H' : Hp} {x : V} (h : KindT H x) (s : ExtN H H') : KindT H' x := h.tups fun b xs e => s _ _ e fun _ z => by cases z
/-- the script, beside what the grove owns -/
def ScJ (K : PySem.W.Frag) (a0 : Addr) (xs : List V) (L : List Addr) (H : Hp) : Prop := (∀ H', SqL K H' a0 xs) ∨ ∃ o, H a0 = some o ∧ (∀ ps, o ≠ .tbl ps) ∧ (∀ H', H' a0 = some o → SqL K H' a0 xs) ∧ a0 ∉ L
section
variable {K : PySem.W.Frag} {H H1 : Hp} {a0 : Addr} {xs : List V} {L L' : List Addr}
theorem ScJ.of (hS : SqL K H a0 xs) (n : ∀ o, H a0 = some o → a0 ∉ L) : ScJ K a0 xs L H := by
  rcases hS with (e | ⟨u, e⟩) | e
  · exact .inr ⟨_, e, (fun ps z => by cases z), fun H' z => .inl (.inl z), n _ e⟩
  · exact .inr ⟨_, e, (fun ps z => by cases z), fun H' z => .inl (.inr ⟨u, z⟩), n _ e⟩
  · exact .inl fun _ => .inr e
theorem ScJ.sq (h : ScJ K a0 xs L H) : SqL K H a0 xs := h.elim (fun z => z H) fun ⟨_, e, _, z, _⟩ => z H e
theorem ScJ.ext (h : ScJ K a0 xs L H) (s : ExtN H H1) : ScJ K a0 xs L H1 := h.imp id fun ⟨o, e, t, r⟩ => ⟨o, s _ _ e t, t, r⟩
theorem ScJ.ls {C : Addr} {a : GA} {rows r1 : List (Int × Addr)} {q q1 : List Sq} (h : ScJ K a0 xs (a.muts rows) H) (s : LStep C H a rows q H1 r1 q1) : ScJ K a0 xs (a.muts r1) H1 := h.imp id fun ⟨o, e, t, z, n⟩ => ⟨o, (s.own _ _ e n t).1, t, z, (s.own _ _ e n t).2⟩
end
end JF

/-! ### fields refused -/
namespace JF
open PySem PySem.Spec PyProof.Rows L2
section
variable {P : Program} {w : World} {K : PySem.W.Frag} {mg : Str → Option Value} {base : Heap}
theorem stateV_bad {x : V} (h : BadN 7 x) : stateV x = false := by
  rcases h with h | ⟨i, rfl, h⟩
  · cases x with
    | int i => cases h
    | _ => rfl
  · show (decide (0 ≤ i) && decide (i ≤ 7)) = false
    rcases h with h | h
    · rw [decide_eq_false (show ¬ 0 ≤ i by omega)]; rfl
    · rw [decide_eq_false (show ¬ i ≤ 7 by omega), Bool.and_false]
def sp_stateT : Sp := fun vs H Q _ => ∃ x : V, vs = [x] ∧ KindT H x ∧ Q (.bl (stateV x)) H
theorem ok_stateT (T : Env fa fn K mg) : Good P w K mg base CX0 2 ("is_state", none) ["thing"] sp_stateT := by
  have G_is_whole := ok_wholeT (P := P) (w := w) (base := base) T
  refine good_mk T 4 (d := d_is_state) (N := ["thing"]) (ps := ["thing"]) rfl rfl sc_is_state (fun _ _ _ _ _ _ us hl => match us, hl with | [_], _ => rfl) (fun vs H Q E h => ?_) (fun f cdv A outer s H vs Q E hr h => ?_)
  · obtain ⟨x, rfl, _⟩ := h; rfl
  · obtain ⟨x, rfl, hx, k⟩ := h
    refine ⟨_, (pss_one (ps_ret (pe_and (pe_cgK K rfl G_is_whole (hr.mono (by decide)) (T.glo 7) (pa_cons (pv 0) pa_nil)) (pe_one (pe_chain op_le op_le pe_int (pv 0) pe_int))))), ?_⟩
    walk_at "rd"
    refine ⟨x, rfl, hx, ?_⟩
    walk_at "rd"
    cases x with
    | int i =>
      refine iteT ?_
      walk_at "rd"
      have k' : Q (.bl (decide (0 ≤ i) && decide (i ≤ 7))) H := k
      by_cases h0 : 0 ≤ i
      · rw [decide_eq_true h0] at k' ⊢
        walk_at "rd"
        exact k'
      · rw [decide_eq_false h0] at k' ⊢
        walk_at "rd"
        exact k'
    | _ =>
      refine iteF ?_
      exact k
def sp_leafT (K : PySem.W.Frag) : Sp := fun vs H _ E => ∃ (a : GA) (rows : List (Int × Addr)) (q : List Sq) (x : V), vs = [.ref a.g, x] ∧ GAt (CG K) H a rows q ∧ KindT H x ∧ BadN 7 x ∧ E (.ref (He.ga K "NoState")) none H
theorem okX_leafT (T : Env fa fn K mg) : Good P w K mg base (L2N.CX P w) 3 ("Grove", some "leaf") ["self", "state"] (sp_leafT K) := by
  have G_Grove_cell := ok_cell (P := P) (w := w) (base := base) T
  have G_is_state := ok_stateT (P := P) (w := w) (base := base) T
  refine good_mkX T 11 (d := d_Grove_leaf) (N := ["self", "state"]) (ps := ["self", "state"]) rfl rfl sc_Grove_leaf (fun _ _ _ _ _ _ us hl => match us, hl with | [_, _], _ => rfl) (fun vs H Q E h => ?_) (fun f cdv A outer s H vs Q E hr h => ?_)
  · obtain ⟨a, rows, q, x, rfl, _⟩ := h; rfl
  · obtain ⟨a, rows, q, x, rfl, G, hk, hs, k⟩ := h
    refine ⟨_, (pss_cons (ps_if (pt_not (pt_val (pe_cgK K rfl G_is_state (hr.mono (by decide)) (T.glo 16) (pa_cons (pv 1) pa_nil)))) (pss_one (ps_raiseT K rfl (T.exf (List.mem_of_getElem? (i := 1) rfl)) (T.glo 17) rfl (L2N.takes_of rfl rfl rfl rfl) rfl)) pss_nil)
      (pss_one (ps_ret (pe_mgK K rfl (pv 0) (T.cls 9) (T.meth 12) G_Grove_cell (hr.mono (by decide)) (pa_cons (pv 1) pa_nil))))), ?_⟩
    walk_at "rd"
    refine ⟨x, rfl, hk, ?_⟩
    walk_at "rd"
    rw [stateV_bad hs]
    walk_at "rd"
    exact rd_raise k
theorem okX_level_of (T : Env fa fn K mg) : Good P w K mg base (L2N.CX P w) 3 ("Grove", some "level_of") ["self", "square"] (sp_askedX K) := by
  have GX_Grove_asked := okX_asked (P := P) (w := w) (base := base) T
  refine good_mkX T 14 (d := d_Grove_level_of) (N := ["self", "square"]) (ps := ["self", "square"]) rfl rfl sc_Grove_level_of (fun _ _ _ _ _ _ us hl => match us, hl with | [_, _], _ => rfl) (fun vs H Q E h => ?_) (fun f cdv A outer s H vs Q E hr h => ?_)
  · obtain ⟨a, rows, q, x, rfl, _⟩ := h; rfl
  · have h0 := h
    obtain ⟨a, rows, q, x, rfl, G, _⟩ := h
    refine ⟨_, (pss_one (ps_ret (pe_mgX K rfl (L2N.takes_of rfl rfl rfl rfl) (pv 0) (T.cls 9) (T.meth 21) GX_Grove_asked (hr.mono (by decide)) (pa_cons (pv 1) pa_nil)))), ?_⟩
    walk_at "rd"
    refine rd_methX ?_
    walk_at "rd"
    refine rd_methR G.ob (by rfl) ?_
    walk_at "rd"
    exact h0
/-- a square whose level does not fit, or no number of one -/
def sp_fldX (K : PySem.W.Frag) (bad : Nat → Prop) : Sp := fun vs H Q E => sp_askedX K vs H Q E ∨ ∃ (a : GA) (rows : List (Int × Addr)) (q : List Sq) (n : Nat) (S : Sq), vs = [.ref a.g, .int (n : Int)] ∧ GAt (CG K) H a rows q ∧ q[n]? = some S ∧ q.length ≤ 16000000 ∧ bad S.level ∧ E (.ref (He.ga K "NoLevel")) none H
theorem okX_widened (T : Env fa fn K mg) : Good P w K mg base (L2N.CX P w) 4 ("widened", none) ["grove", "square"] (sp_fldX K fun l => l = 0 ∨ 48 ≤ l) := by
  have G_Grove_level_of := ok_level_of (P := P) (w := w) (base := base) T
  have GX_Grove_level_of := okX_level_of (P := P) (w := w) (base := base) T
  refine good_mkX T 22 (d := d_widened) (N := ["grove", "square", "level", "four", "no", "one", "two", "three", "last"]) (ps := ["grove", "square"]) rfl rfl sc_widened (fun _ _ _ _ _ _ us hl => match us, hl with | [_, _], _ => rfl) (fun vs H Q E h => ?_) (fun f cdv A outer s H vs Q E hr h => ?_)
  · rcases h with ⟨a, rows, q, x, rfl, _⟩ | ⟨a, rows, q, n, S, rfl, _⟩ <;> rfl
  refine ⟨_, (pss_cons (ps_set (i := 2) sc_widened.nd rfl (Or.inl rfl) (pe_or (pe_mgX K rfl (L2N.takes_of rfl rfl rfl rfl) (pv 0) (T.cls 9) (T.meth 25) GX_Grove_level_of (hr.mono (by decide)) (pa_cons (pv 1) pa_nil)) (pe_mgK K rfl (pv 0) (T.cls 9) (T.meth 25) G_Grove_level_of (hr.mono (by decide)) (pa_cons (pv 1) pa_nil))))
      (pss_cons (ps_if (PW.pt (pw_or (pt_cmpR op_eq (pv 2) pe_int (nomark _)) (pw_or1 (pt_cmpR op_ge (pv 2) (pe_gint (T.int 19) rfl) (nomark _))))) (pss_one (ps_raiseT K rfl (T.exf (List.mem_of_getElem? (i := 2) rfl)) (T.glo 26) rfl (L2N.takes_of rfl rfl rfl rfl) rfl)) pss_nil)
      pss_never)), ?_⟩
  rcases h with h | h
  · have h0 := h
    obtain ⟨a, rows, q, x, rfl, G, _⟩ := h
    walk_at "rd"
    refine .inl ?_
    refine rd_methX ?_
    walk_at "rd"
    refine rd_methR G.ob (by rfl) ?_
    walk_at "rd"
    exact h0
  · obtain ⟨a, rows, q, n, S, rfl, G, hn, hq, hl, k⟩ := h
    have hl : S.level = 0 ∨ 48 ≤ S.level := hl
    walk_at "rd"
    refine .inr ?_
    walk_at "rd"
    refine rd_methR G.ob (by rfl) ?_
    walk_at "rd"
    refine ⟨a, rows, q, n, S, rfl, G, hn, hq, ?_⟩
    walk_at "rd"
    refine ite_d (fun _ => ?_) (fun z => ?_)
    · walk_at "rd"
      exact rd_raise k
    · walk_at "rd"
      rw [decide_eq_true (show (48 : Int) ≤ ((S.level : Nat) : Int) by omega)]
      walk_at "rd"
      exact rd_raise k
theorem okX_trimmed (T : Env fa fn K mg) : Good P w K mg base (L2N.CX P w) 4 ("trimmed", none) ["grove", "square"] (sp_fldX K fun l => l = 0) := by
  have G_Grove_level_of := ok_level_of (P := P) (w := w) (base := base) T
  have GX_Grove_level_of := okX_level_of (P := P) (w := w) (base := base) T
  refine good_mkX T 23 (d := d_trimmed) (N := ["grove", "square", "inner"]) (ps := ["grove", "square"]) rfl rfl sc_trimmed (fun _ _ _ _ _ _ us hl => match us, hl with | [_, _], _ => rfl) (fun vs H Q E h => ?_) (fun f cdv A outer s H vs Q E hr h => ?_)
  · rcases h with ⟨a, rows, q, x, rfl, _⟩ | ⟨a, rows, q, n, S, rfl, _⟩ <;> rfl
  refine ⟨_, (pss_cons (ps_if (pt_cmpR op_eq (pe_or (pe_mgX K rfl (L2N.takes_of rfl rfl rfl rfl) (pv 0) (T.cls 9) (T.meth 25) GX_Grove_level_of (hr.mono (by decide)) (pa_cons (pv 1) pa_nil)) (pe_mgK K rfl (pv 0) (T.cls 9) (T.meth 25) G_Grove_level_of (hr.mono (by decide)) (pa_cons (pv 1) pa_nil))) pe_int (nomark _)) (pss_one (ps_raiseT K rfl (T.exf (List.mem_of_getElem? (i := 2) rfl)) (T.glo 26) rfl (L2N.takes_of rfl rfl rfl rfl) rfl)) pss_nil)
      pss_never), ?_⟩
  rcases h with h | h
  · have h0 := h
    obtain ⟨a, rows, q, x, rfl, G, _⟩ := h
    walk_at "rd"
    refine .inl ?_
    refine rd_methX ?_
    walk_at "rd"
    refine rd_methR G.ob (by rfl) ?_
    walk_at "rd"
    exact h0
  · obtain ⟨a, rows, q, n, S, rfl, G, hn, hq, hl, k⟩ := h
    have hl : S.level = 0 := hl
    walk_at "rd"
    refine .inr ?_
    walk_at "rd"
    refine rd_methR G.ob (by rfl) ?_
    walk_at "rd"
    refine ⟨a, rows, q, n, S, rfl, G, hn, hq, ?_⟩
    walk_at "rd"
    rw [decide_eq_true (show ((S.level : Nat) : Int) = 0 by omega)]
    walk_at "rd"
    exact rd_raise k
def sp_manyX (K : PySem.W.Frag) : Sp := fun vs H _ E => ∃ (a : GA) (rows : List (Int × Addr)) (q : List Sq) (n : Nat) (S : Sq), vs = [.ref a.g, .int (n : Int)] ∧ GAt (CG K) H a rows q ∧ q[n]? = some S ∧ q.length ≤ 16000000 ∧ 4096 < S.lives ∧ E (.ref (He.ga K "TooMany")) none H
theorem okX_cells_of (T : Env fa fn K mg) : Good P w K mg base (L2N.CX P w) 4 ("cells_of", none) ["grove", "field"] (sp_manyX K) := by
  have G_Grove_living := ok_living (P := P) (w := w) (base := base) T
  refine good_mkX T 28 (d := d_cells_of) (N := ["grove", "field", "half", "found", "waiting", "square", "x", "y", "level", "at", "one"]) (ps := ["grove", "field"]) rfl rfl sc_cells_of (fun _ _ _ _ _ _ us hl => match us, hl with | [_, _], _ => rfl) (fun vs H Q E h => ?_) (fun f cdv A outer s H vs Q E hr h => ?_)
  · obtain ⟨a, rows, q, n, S, rfl, _⟩ := h; rfl
  · obtain ⟨a, rows, q, n, S, rfl, G, hn, hq, hl, k⟩ := h
    refine ⟨_, (pss_cons (ps_if (pt_cmpR op_gt (pe_mgK K rfl (pv 0) (T.cls 9) (T.meth 28) G_Grove_living (hr.mono (by decide)) (pa_cons (pv 1) pa_nil)) (pe_gint (T.int 37) rfl) (nomark _)) (pss_one (ps_raiseT K rfl (T.exf (List.mem_of_getElem? (i := 4) rfl)) (T.glo 41) rfl (L2N.takes_of rfl rfl rfl rfl) rfl)) pss_nil)
      pss_never), ?_⟩
    walk_at "rd"
    refine rd_methR G.ob (by rfl) ?_
    walk_at "rd"
    refine ⟨a, rows, q, n, S, rfl, G, hn, hq, ?_⟩
    walk_at "rd"
    refine ite_d (fun _ => ?_) (fun z => ?_)
    · walk_at "rd"
      exact rd_raise k
    · omega
def sp_groundI : Sp := fun vs H Q _ => ∃ x y : Int, vs = [.int x, .int y] ∧ ∀ b, (b = true ↔ InGround x y) → Q (.bl b) H
theorem ok_groundI (T : Env fa fn K mg) : Good P w K mg base CX0 1 ("in_ground", none) ["x", "y"] sp_groundI := by
  refine good_mk T 19 (d := d_in_ground) (N := ["x", "y"]) (ps := ["x", "y"]) rfl rfl sc_in_ground (fun _ _ _ _ _ _ us hl => match us, hl with | [_, _], _ => rfl) (fun vs H Q E h => ?_) (fun f cdv A outer σ0 H vs Q E hr h => ?_)
  · obtain ⟨x, y, rfl, _⟩ := h; rfl
  · obtain ⟨x, y, rfl, k⟩ := h
    have no : ¬ InGround x y → Q (.bl false) H := fun n => k false ⟨fun z => (by cases z), fun z => (n z).elim⟩
    refine ⟨_, (pss_one (ps_ret (pe_and (pe_chain op_le op_lt (pe_un un_neg (pe_gint (T.int 22) rfl)) (pv 0) (pe_gint (T.int 22) rfl)) (pe_one (pe_chain op_le op_lt (pe_un un_neg (pe_gint (T.int 22) rfl)) (pv 1) (pe_gint (T.int 22) rfl)))))), ?_⟩
    walk_at "rd"
    by_cases h1 : -1099511627776 ≤ x
    · rw [decide_eq_true h1]
      walk_at "rd"
      by_cases h2 : x < 1099511627776
      · rw [decide_eq_true h2]
        walk_at "rd"
        by_cases h3 : -1099511627776 ≤ y
        · rw [decide_eq_true h3]
          walk_at "rd"
          by_cases h4 : y < 1099511627776
          · rw [decide_eq_true h4]
            exact k true ⟨fun _ => ⟨h1, h2, h3, h4⟩, fun _ => rfl⟩
          · rw [decide_eq_false h4]
            exact no fun z => h4 z.2.2.2
        · rw [decide_eq_false h3]
          walk_at "rd"
          exact no fun z => h3 z.2.2.1
      · rw [decide_eq_false h2]
        walk_at "rd"
        exact no fun z => h2 z.2.1
    · rw [decide_eq_false h1]
      walk_at "rd"
      exact no fun z => h1 z.1
/-- the refusal that is due of a place and a state -/
inductive DueP (H : Hp) (x y : Int) (s : V) : Str → Prop where
  | far : ¬ InGround x y → DueP H x y s "TooFar"
  | state : InGround x y → KindT H s → BadN 7 s → DueP H x y s "NoState"
def sp_plantX (K : PySem.W.Frag) : Sp := fun vs H _ E => ∃ (a : GA) (rows : List (Int × Addr)) (q : List Sq) (v s : V) (x y : Int) (cls : Str), vs = [.ref a.g, v, .int x, .int y, s] ∧ GAt (CG K) H a rows q ∧ DueP H x y s cls ∧ E (.ref (He.ga K cls)) none H
theorem okX_planted (T : Env fa fn K mg) : Good P w K mg base (L2N.CX P w) 4 ("planted", none) ["grove", "field", "x", "y", "state"] (sp_plantX K) := by
  have G_in_ground := ok_groundI (P := P) (w := w) (base := base) T
  have GX_Grove_leaf := okX_leafT (P := P) (w := w) (base := base) T
  refine good_mkX T 25 (d := d_planted) (N := ["grove", "field", "x", "y", "state", "leaf", "half"]) (ps := ["grove", "field", "x", "y", "state"]) rfl rfl sc_planted (fun _ _ _ _ _ _ us hl => match us, hl with | [_, _, _, _, _], _ => rfl) (fun vs H Q E h => ?_) (fun f cdv A outer σ0 H vs Q E hr h => ?_)
  · obtain ⟨a, rows, q, v, s, x, y, cls, rfl, _⟩ := h; rfl
  · obtain ⟨a, rows, q, v, s, x, y, cls, rfl, G, hd, k⟩ := h
    refine ⟨_, (pss_cons (ps_if (pt_not (pt_val (pe_cgK K rfl G_in_ground (hr.mono (by decide)) (T.glo 31) (pa_cons (pv 2) (pa_cons (pv 3) pa_nil))))) (pss_one (ps_raiseT K rfl (T.exf (List.mem_of_getElem? (i := 3) rfl)) (T.glo 35) rfl (L2N.takes_of rfl rfl rfl rfl) rfl)) pss_nil)
      (pss_cons (ps_set (i := 5) sc_planted.nd rfl (Or.inl rfl) (pe_mgX K rfl (L2N.takes_of rfl rfl rfl rfl) (pv 0) (T.cls 9) (T.meth 32) GX_Grove_leaf (hr.mono (by decide)) (pa_cons (pv 4) pa_nil)))
      pss_never)), ?_⟩
    walk_at "rd"
    refine ⟨x, y, rfl, fun b hb2 => ?_⟩
    cases hd with
    | far hg =>
      obtain rfl : b = false := by
        cases b with
        | false => rfl
        | true => exact (hg (hb2.mp rfl)).elim
      walk_at "rd"
      exact rd_raise k
    | state hg hk hb =>
      obtain rfl : b = true := hb2.mpr hg
      walk_at "rd"
      refine rd_methX ?_
      walk_at "rd"
      refine rd_methR G.ob (by rfl) ?_
      walk_at "rd"
      exact ⟨a, rows, q, s, rfl, G, hk, hb, k⟩
end
end JF

/-! ### field_of refused, at the first cell that is due -/
namespace JF
open PySem PySem.Spec PyProof.Rows L2
abbrev CellV : Type := Int × Int × V
def GoodC (c : CellV) : Prop := InGround c.1 c.2.1 ∧ ∃ z : Int, c.2.2 = .int z ∧ 0 ≤ z ∧ z ≤ 7
theorem DueP.tups {H H' : Hp} {x y : Int} {s : V} {c : Str} (h : DueP H x y s c) (u : ∀ b xs, H b = some (.tup xs) → H' b = some (.tup xs)) : DueP H' x y s c := by
  cases h with
  | far h => exact .far h
  | state h1 h2 h3 => exact .state h1 (h2.tups u) h3
section
variable {P : Program} {w : World} {K : PySem.W.Frag} {mg : Str → Option Value} {base : Heap}
def sp_fieldX (K : PySem.W.Frag) : Sp := fun vs H _ E => ∃ (a : GA) (rows : List (Int × Addr)) (q : List Sq) (p : Addr) (rs : List Addr) (cs : List CellV) (kb : Nat) (cb : CellV) (cls : Str), vs = [.ref a.g, .ref p] ∧ GAt (CG K) H a rows q ∧ H p = some (.lst (rs.map V.ref)) ∧ p ∉ a.muts rows ∧
  rs.length = cs.length ∧ (∀ (i : Nat) r (c : CellV), rs[i]? = some r → cs[i]? = some c → H r = some (.tup [.int c.1, .int c.2.1, c.2.2])) ∧ (∀ (i : Nat) c, i < kb → cs[i]? = some c → GoodC c) ∧ cs[kb]? = some cb ∧ DueP H cb.1 cb.2.1 cb.2.2 cls ∧ cs.length ≤ 500 ∧ q.length + 4000 * cs.length + 20000 < 16000000 ∧
  ∀ H' rows' q', GStep (CG K) H a rows q H' rows' q' → q'.length ≤ q.length + 4000 * cs.length + 10 → E (.ref (He.ga K cls)) none H'
set_option maxHeartbeats 8000000 in
theorem okX_field_of (T : Env fa fn K mg) : Good P w K mg base (L2N.CX P w) 49 ("field_of", none) ["grove", "cells"] (sp_fieldX K) := by
  have G_Grove_even := ok_even (P := P) (w := w) (base := base) T
  have G_planted := ok_planted (P := P) (w := w) (base := base) T
  have GX_planted := okX_planted (P := P) (w := w) (base := base) T
  refine good_mkX T 26 (d := d_field_of) (N := ["grove", "cells", "field", "x", "y", "state"]) (ps := ["grove", "cells"]) rfl rfl sc_field_of (fun _ _ _ _ _ _ us hl => match us, hl with | [_, _], _ => rfl) (fun vs H Q E h => ?_) (fun f cdv A outer σ0 H vs Q E hr h => ?_)
  · obtain ⟨a, rows, q, p, rs, cs, kb, cb, cls, rfl, _⟩ := h; rfl
  · obtain ⟨a, rows, q, p, rs, cs, kb, cb, cls, rfl, G, hp, hpn, hrl, hT, hg, hkb, hd, hcl, hlen, k⟩ := h
    have kl : kb < cs.length := (List.getElem?_eq_some_iff.mp hkb).1
    refine ⟨_, (pss_cons (ps_set (i := 2) sc_field_of.nd rfl (Or.inl rfl) (pe_mgK K rfl (pv 0) (T.cls 9) (T.meth 20) G_Grove_even (hr.mono (by decide)) (pa_cons pe_int (pa_cons pe_int pa_nil))))
      (pss_cons (ps_for (passes_of rfl) rfl (pi_listK K rfl (pv 1)) (pg_tup rfl (pgs_cons (pg_name (i := 3) sc_field_of.nd rfl (Or.inl rfl)) (pgs_cons (pg_name (i := 4) sc_field_of.nd rfl (Or.inl rfl)) (pgs_cons (pg_name (i := 5) sc_field_of.nd rfl (Or.inl rfl)) pgs_nil)))) (pss_one (ps_set (i := 2) sc_field_of.nd rfl (Or.inl rfl) (pe_or (pe_cgX K rfl (L2N.takes_of rfl rfl rfl rfl) GX_planted (hr.mono (by decide)) (T.glo 36) (pa_cons (pv 0) (pa_cons (pv 2) (pa_cons (pv 3) (pa_cons (pv 4) (pa_cons (pv 5) pa_nil)))))) (pe_cgK K rfl G_planted (hr.mono (by decide)) (T.glo 36) (pa_cons (pv 0) (pa_cons (pv 2) (pa_cons (pv 3) (pa_cons (pv 4) (pa_cons (pv 5) pa_nil))))))))))
      (pss_one (ps_ret (pv 2))))), ?_⟩
    walk_at "rd"
    refine rd_methR G.ob (by rfl) ?_
    walk_at "rd"
    refine ⟨a, rows, q, 1, 0, rfl, G, by omega, by decide, by decide, by omega, fun H1 r1 q1 m1 S1 l1 e1 => ?_⟩
    have o1 := S1.own hp hpn
    walk_at "rd"
    refine ⟨p, rfl, ⟨_, SqL.of o1.1⟩, ?_⟩
    refine for_it (walk_list (xs := rs.map V.ref)) (fun i σ H' => ∃ (r2 : List (Int × Addr)) (q2 : List Sq) (m2 : Nat) (T2 : Sq) (x3 x4 x5 : Option V), σ = [some (.ref a.g), some (.ref p), some (.int (m2 : Int)), x3, x4, x5] ∧ GStep (CG K) H a rows q H' r2 q2 ∧ q2.length ≤ q.length + 4000 * i + 10 ∧
      q2[m2]? = some T2 ∧ 1 ≤ T2.level ∧ T2.level ≤ 41 ∧ i ≤ kb) ?_ ?_ ?_ ?_
    · exact ⟨r1, q1, m1, Sq.even 1 0, none, none, none, rfl, S1, by omega, e1, by decide, by decide, Nat.zero_le _⟩
    · rintro i σ H' _ ⟨r2, q2, m2, T2, x3, x4, x5, rfl, S2, _⟩
      exact SqL.of (S2.own hp hpn).1
    · rintro i x σ Ha Hb hi ⟨r2, q2, m2, T2, x3, x4, x5, rfl, S2, l2, e2, g1, g2, ik⟩ ⟨rfl, hx⟩
      have hi1 : i < rs.length := by rw [List.length_map] at hi; exact hi
      have hi2 : i < cs.length := by omega
      rw [List.getElem?_map, at_get hi1] at hx
      cases hx
      obtain ⟨c, hc⟩ : ∃ c, cs[i]? = some c := ⟨_, at_get hi2⟩
      have ht := (S2.tup G) _ _ (hT i _ c (at_get hi1) hc)
      obtain ⟨cx, cy, cz⟩ := c
      have ht' : Hb rs[i] = some (.tup [.int cx, .int cy, cz]) := ht
      walk_at "rd"
      by_cases ek : i = kb
      · subst ek
        rw [hkb] at hc
        cases hc
        refine .inl ?_
        refine rd_callS ?_
        walk_at "rd"
        exact ⟨a, r2, q2, _, _, _, _, cls, rfl, S2.gat, hd.tups (S2.tup G), k _ _ _ S2 (by omega)⟩
      · obtain ⟨hg1, z, hz, z0, z1⟩ := hg i _ (by omega) hc
        have hz : cz = .int z := hz
        subst hz
        refine .inr ?_
        walk_at "rd"
        refine ⟨a, r2, q2, m2, T2, cx, cy, z, rfl, S2.gat, e2, g1, g2, hg1, z0, z1, by omega, fun H3 r3 q3 m3 T3 S3 l3 e3 f1 f2 f3 f4 => ?_⟩
        walk_at "rd"
        exact ⟨r3, q3, m3, T3, _, _, _, rfl, S2.trans S3, by omega, e3, f1, f2, by omega⟩
    · rintro σ H' ⟨r2, q2, m2, T2, x3, x4, x5, rfl, S2, l2, e2, g1, g2, ik⟩
      rw [List.length_map] at ik
      omega
end
end JF

/-! ### law k26: a deed refused -/
namespace JF
open PySem PySem.Spec PyProof.Rows L2 LamX
section
variable {P : Program} {w : World} {K : PySem.W.Frag} {mg : Str → Option Value} {base : Heap}
theorem Same.putE {H H' : Hp} {D : Addr} {o : HO} (s : Same H H') (h : H D = none) : Same H (upd H' D o) := fun b u e => by rw [upd_ne (ne_of_none e h)]; exact s b u e
def bsN (n : Int) (i : Nat) : List Bool := (List.range i).map fun k : Nat => decide (n = (k : Int))
theorem bsN_len (n : Int) (i : Nat) : (bsN n i).length = i := by unfold bsN; rw [List.length_map, List.length_range]
theorem bsN_succ (n : Int) (i : Nat) : bsN n (i + 1) = bsN n i ++ [decide (n = (i : Int))] := by unfold bsN; rw [List.range_succ, List.map_append]; rfl
theorem dp_bools {H : Hp} {bs : List Bool} : DpAll K H (bs.map V.bl) (bs.map PyData.bool) := by
  induction bs with
  | nil => exact .nil
  | cons n r ih => exact .cons (.bl n) ih
theorem rd_eqDB {H : Hp} {Q : VK} {p p' : Addr} {bs cs : List Bool} (h1 : SqL K H p (bs.map V.bl)) (h2 : SqL K H p' (cs.map V.bl)) (e : (SeqAt.shaped (.list (bs.map PyData.bool)) && SeqAt.shaped (.list (cs.map PyData.bool)) && PyData.eqv (.list (bs.map PyData.bool)) (.list (cs.map PyData.bool))) = true) (q : Q (.bl true) H) : rEqD K (.ref p) (.ref p') H Q := by
  simp only [Bool.and_eq_true] at e
  refine ⟨_, _, .lst h1 dp_bools, .lst h2 dp_bools, e.1.1, e.1.2, ?_⟩
  rw [e.2]
  exact q
/-- the classes, by their numbers -/
def refF : List (Str × Int) := [("TooFar", 0), ("NoState", 1), ("TooMany", 2), ("NoSquare", 3), ("NoLevel", 4)]
def TTref (K : PySem.W.Frag) : V → (XK → Hp → VK → Prop) → Hp → VK → Prop := fun v2 tl H Q => ∃ x n, (x, n) ∈ refF ∧ v2 = .int n ∧ ∃ R : Hp → Prop, (∀ (E' : XK) (Q' : VK), (∀ H', R H' → E' (.ref (He.ga K x)) none H') → tl E' H Q') ∧ ∀ H' H'', R H' → Same H' H'' → Q (.bl true) H''
set_option maxHeartbeats 16000000 in
theorem okL_refused (T : Env fa fn K mg) (kk : Nat) : GoodL P w K mg base kk "_law_refused" "_law_deed" "_law_due" (TTref K) := by
  refine goodL_mk T 30 (d := d_w_refused) (N := ["_law_deed", "_law_due", "e", "_law_kinds", "_law_k"]) rfl rfl sc_w_refused (fun _ _ _ _ _ _ us hl => match us, hl with | [_, _], _ => rfl) rfl (Or.inl rfl) (fun cdv A outer s H Q v2 f c' q tl hr act hc h => ?_)
  obtain ⟨x, n, hx, rfl, R, ht, k⟩ := h
  have hu := Nat.lt_of_le_of_lt (Nat.add_le_add_left (by decide : 1 ≤ 200) _) hr.un
  refine ⟨_, (pss_cons (ps_tryA K rfl (i := 2) rfl rfl sc_w_refused.nd rfl rfl ⟨rfl, by decide, .inl (T.glo 44)⟩ takes0N (fun W pn xe tk pw => (pss_one (ps_expr (act W pn xe _ _ tk))))
      (fun a oe cls d pn hz hf => (pss_cons (ps_set (i := 3) sc_w_refused.nd rfl (Or.inl rfl) (pe_lst (pa_cons (pe_callB (call_isP K rfl List.mem_cons_self (L2N.Zn.zc hz) hf) (by rfl) (T.free 1) (by decide +kernel) (pa_cons (pv 2) (pa_cons (pe_grefK K rfl (T.glo 35) rfl) pa_nil))) (pa_cons (pe_callB (call_isP K rfl List.mem_cons_self (L2N.Zn.zc hz) hf) (by rfl) (T.free 1) (by decide +kernel) (pa_cons (pv 2) (pa_cons (pe_grefK K rfl (T.glo 17) rfl) pa_nil))) (pa_cons (pe_callB (call_isP K rfl List.mem_cons_self (L2N.Zn.zc hz) hf) (by rfl) (T.free 1) (by decide +kernel) (pa_cons (pv 2) (pa_cons (pe_grefK K rfl (T.glo 41) rfl) pa_nil))) pa_nil)))))
      (pss_cons (ps_set (i := 3) sc_w_refused.nd rfl (Or.inl rfl) (pe_op op_cat (pv 3) (pe_lst (pa_cons (pe_callB (call_isP K rfl List.mem_cons_self (L2N.Zn.zc hz) hf) (by rfl) (T.free 1) (by decide +kernel) (pa_cons (pv 2) (pa_cons (pe_grefK K rfl (T.glo 15) rfl) pa_nil))) (pa_cons (pe_callB (call_isP K rfl List.mem_cons_self (L2N.Zn.zc hz) hf) (by rfl) (T.free 1) (by decide +kernel) (pa_cons (pv 2) (pa_cons (pe_grefK K rfl (T.glo 26) rfl) pa_nil))) pa_nil)))))
      (pss_one (ps_ret (pe_and (pe_callB (call_isP K rfl List.mem_cons_self (L2N.Zn.zc hz) hf) (by rfl) (T.free 1) (by decide +kernel) (pa_cons (pv 2) (pa_cons (pe_bltn (v := V.ty "ValueError") rfl (T.free 43) (by decide +kernel) rfl) pa_nil))) (pe_one (pe_cmpR (op_eqDK K rfl hr.units) (pv 3) (pe_lcH (own := [("_law_k", 4)]) ⟨_, hot_of rfl hz hf, List.mem_cons_self⟩ sc_w_refused.nd (L2H.pi_range1H (by rfl) (T.free 42) (pa_cons pe_int pa_nil)) (blkOk_by (own := [("_law_k", 4)]) (N := ["_law_deed", "_law_due", "e", "_law_kinds", "_law_k"]) (sc := defScope st_w_refused) (by decide +kernel)) (fun _ _ _ _ _ _ => by exact (pg_name (i := 4) sc_w_refused.nd rfl (Or.inl rfl))) (fun _ _ _ _ _ _ => by exact (pe_cmpR op_eq (pv 1) (pv 4) (nomark _)))) (nomark _))))))))))
      (pss_one (ps_ret pe_bl))), ?_⟩
  walk_at "rd"
  refine rd_tryA ?_
  walk_at "rd"
  refine ⟨rfl, hc, ht _ _ (fun H1 hR => ?_)⟩
  have k1 : ∀ H'', Same H1 H'' → Q (.bl true) H'' := fun H'' s => k H1 H'' hR s
  simp only [refF, List.mem_cons, Prod.mk.injEq, List.not_mem_nil, or_false] at hx
  rcases hx with ⟨rfl, rfl⟩ | ⟨rfl, rfl⟩ | ⟨rfl, rfl⟩ | ⟨rfl, rfl⟩ | ⟨rfl, rfl⟩
  · have ec := (T.exf (List.mem_of_getElem? (i := 3) rfl)).ec
    refine wAs_yes (T.exm (List.mem_of_getElem? (i := 21) rfl)) fun b hb => ?_
    walk_at "rd"
    refine rd_isX ec (T.exk (List.mem_of_getElem? (i := 22) rfl)) ?_
    walk_at "rd"
    refine rd_isX ec (T.exk (List.mem_of_getElem? (i := 23) rfl)) ?_
    walk_at "rd"
    refine rd_isX ec (T.exk (List.mem_of_getElem? (i := 24) rfl)) ?_
    walk_at "rd"
    refine rd_new (hn := by show 3 ≤ sizeLine; decide) fun p1 hp1 => ?_
    have s1 := same_upd (o := HO.lst [V.bl true, .bl false, .bl false]) hp1
    have L1 : (upd H1 p1 (HO.lst [V.bl true, .bl false, .bl false])) p1 = _ := upd_same
    generalize upd H1 p1 (HO.lst [V.bl true, .bl false, .bl false]) = H2 at s1 L1 ⊢
    walk_at "rd"
    refine rd_isX ec (T.exk (List.mem_of_getElem? (i := 25) rfl)) ?_
    walk_at "rd"
    refine rd_isX ec (T.exk (List.mem_of_getElem? (i := 26) rfl)) ?_
    walk_at "rd"
    refine rd_new (hn := by show 2 ≤ sizeLine; decide) fun p2 hp2 => ?_
    have s2 := same_upd (o := HO.lst [V.bl false, .bl false]) hp2
    have L2 : (upd H2 p2 (HO.lst [V.bl false, .bl false])) p2 = _ := upd_same
    generalize upd H2 p2 (HO.lst [V.bl false, .bl false]) = H3 at s2 L2 ⊢
    walk_at "rd"
    refine ⟨p1, p2, _, _, rfl, rfl, s2 _ _ L1, L2, by show 5 ≤ sizeLine; decide, fun p3 hp3 => ?_⟩
    have s3 := same_upd (o := HO.lst ([V.bl true, .bl false, .bl false] ++ [V.bl false, .bl false])) hp3
    have L3 : (upd H3 p3 (HO.lst ([V.bl true, .bl false, .bl false] ++ [V.bl false, .bl false]))) p3 = some (.lst ([true, false, false, false, false].map V.bl)) := upd_same
    generalize upd H3 p3 (HO.lst ([V.bl true, .bl false, .bl false] ++ [V.bl false, .bl false])) = H4 at s3 L3 ⊢
    walk_at "rd"
    refine rd_isXT ec (T.exk (List.mem_of_getElem? (i := 27) rfl)) ?_
    walk_at "rd"
    refine ⟨5, rfl, by decide, by decide, fun D hD => ?_⟩
    refine lc_it (walk_r0 (n := 5)) (fun i H' => Same H4 H' ∧ H' D = some (.lst ((bsN 0 i).map V.bl))) ⟨same_upd hD, upd_same⟩ (fun _ _ _ _ => trivial) ?_ ?_
    · rintro i v Ha Hb hi ⟨s5, LD⟩ ⟨rfl, rfl⟩
      walk_at "rd"
      refine ⟨rfl, ?_⟩
      walk_at "rd"
      refine ⟨_, LD, by rw [List.length_map, bsN_len]; exact small1000 (by omega), Same.putE s5 hD, ?_⟩
      rw [upd_same, bsN_succ, List.map_append]
      rfl
    · rintro H5 ⟨s5, LD⟩
      refine rd_eqDB (SqL.of (s5 _ _ L3)) (SqL.of LD) (by decide +kernel) ?_
      exact k1 _ (((s1.trans s2).trans s3).trans s5)
  · have ec := (T.exf (List.mem_of_getElem? (i := 1) rfl)).ec
    refine wAs_yes (T.exm (List.mem_of_getElem? (i := 7) rfl)) fun b hb => ?_
    walk_at "rd"
    refine rd_isX ec (T.exk (List.mem_of_getElem? (i := 8) rfl)) ?_
    walk_at "rd"
    refine rd_isX ec (T.exk (List.mem_of_getElem? (i := 9) rfl)) ?_
    walk_at "rd"
    refine rd_isX ec (T.exk (List.mem_of_getElem? (i := 10) rfl)) ?_
    walk_at "rd"
    refine rd_new (hn := by show 3 ≤ sizeLine; decide) fun p1 hp1 => ?_
    have s1 := same_upd (o := HO.lst [V.bl false, .bl true, .bl false]) hp1
    have L1 : (upd H1 p1 (HO.lst [V.bl false, .bl true, .bl false])) p1 = _ := upd_same
    generalize upd H1 p1 (HO.lst [V.bl false, .bl true, .bl false]) = H2 at s1 L1 ⊢
    walk_at "rd"
    refine rd_isX ec (T.exk (List.mem_of_getElem? (i := 11) rfl)) ?_
    walk_at "rd"
    refine rd_isX ec (T.exk (List.mem_of_getElem? (i := 12) rfl)) ?_
    walk_at "rd"
    refine rd_new (hn := by show 2 ≤ sizeLine; decide) fun p2 hp2 => ?_
    have s2 := same_upd (o := HO.lst [V.bl false, .bl false]) hp2
    have L2 : (upd H2 p2 (HO.lst [V.bl false, .bl false])) p2 = _ := upd_same
    generalize upd H2 p2 (HO.lst [V.bl false, .bl false]) = H3 at s2 L2 ⊢
    walk_at "rd"
    refine ⟨p1, p2, _, _, rfl, rfl, s2 _ _ L1, L2, by show 5 ≤ sizeLine; decide, fun p3 hp3 => ?_⟩
    have s3 := same_upd (o := HO.lst ([V.bl false, .bl true, .bl false] ++ [V.bl false, .bl false])) hp3
    have L3 : (upd H3 p3 (HO.lst ([V.bl false, .bl true, .bl false] ++ [V.bl false, .bl false]))) p3 = some (.lst ([false, true, false, false, false].map V.bl)) := upd_same
    generalize upd H3 p3 (HO.lst ([V.bl false, .bl true, .bl false] ++ [V.bl false, .bl false])) = H4 at s3 L3 ⊢
    walk_at "rd"
    refine rd_isXT ec (T.exk (List.mem_of_getElem? (i := 13) rfl)) ?_
    walk_at "rd"
    refine ⟨5, rfl, by decide, by decide, fun D hD => ?_⟩
    refine lc_it (walk_r0 (n := 5)) (fun i H' => Same H4 H' ∧ H' D = some (.lst ((bsN 1 i).map V.bl))) ⟨same_upd hD, upd_same⟩ (fun _ _ _ _ => trivial) ?_ ?_
    · rintro i v Ha Hb hi ⟨s5, LD⟩ ⟨rfl, rfl⟩
      walk_at "rd"
      refine ⟨rfl, ?_⟩
      walk_at "rd"
      refine ⟨_, LD, by rw [List.length_map, bsN_len]; exact small1000 (by omega), Same.putE s5 hD, ?_⟩
      rw [upd_same, bsN_succ, List.map_append]
      rfl
    · rintro H5 ⟨s5, LD⟩
      refine rd_eqDB (SqL.of (s5 _ _ L3)) (SqL.of LD) (by decide +kernel) ?_
      exact k1 _ (((s1.trans s2).trans s3).trans s5)
  · have ec := (T.exf (List.mem_of_getElem? (i := 4) rfl)).ec
    refine wAs_yes (T.exm (List.mem_of_getElem? (i := 28) rfl)) fun b hb => ?_
    walk_at "rd"
    refine rd_isX ec (T.exk (List.mem_of_getElem? (i := 29) rfl)) ?_
    walk_at "rd"
    refine rd_isX ec (T.exk (List.mem_of_getElem? (i := 30) rfl)) ?_
    walk_at "rd"
    refine rd_isX ec (T.exk (List.mem_of_getElem? (i := 31) rfl)) ?_
    walk_at "rd"
    refine rd_new (hn := by show 3 ≤ sizeLine; decide) fun p1 hp1 => ?_
    have s1 := same_upd (o := HO.lst [V.bl false, .bl false, .bl true]) hp1
    have L1 : (upd H1 p1 (HO.lst [V.bl false, .bl false, .bl true])) p1 = _ := upd_same
    generalize upd H1 p1 (HO.lst [V.bl false, .bl false, .bl true]) = H2 at s1 L1 ⊢
    walk_at "rd"
    refine rd_isX ec (T.exk (List.mem_of_getElem? (i := 32) rfl)) ?_
    walk_at "rd"
    refine rd_isX ec (T.exk (List.mem_of_getElem? (i := 33) rfl)) ?_
    walk_at "rd"
    refine rd_new (hn := by show 2 ≤ sizeLine; decide) fun p2 hp2 => ?_
    have s2 := same_upd (o := HO.lst [V.bl false, .bl false]) hp2
    have L2 : (upd H2 p2 (HO.lst [V.bl false, .bl false])) p2 = _ := upd_same
    generalize upd H2 p2 (HO.lst [V.bl false, .bl false]) = H3 at s2 L2 ⊢
    walk_at "rd"
    refine ⟨p1, p2, _, _, rfl, rfl, s2 _ _ L1, L2, by show 5 ≤ sizeLine; decide, fun p3 hp3 => ?_⟩
    have s3 := same_upd (o := HO.lst ([V.bl false, .bl false, .bl true] ++ [V.bl false, .bl false])) hp3
    have L3 : (upd H3 p3 (HO.lst ([V.bl false, .bl false, .bl true] ++ [V.bl false, .bl false]))) p3 = some (.lst ([false, false, true, false, false].map V.bl)) := upd_same
    generalize upd H3 p3 (HO.lst ([V.bl false, .bl false, .bl true] ++ [V.bl false, .bl false])) = H4 at s3 L3 ⊢
    walk_at "rd"
    refine rd_isXT ec (T.exk (List.mem_of_getElem? (i := 34) rfl)) ?_
    walk_at "rd"
    refine ⟨5, rfl, by decide, by decide, fun D hD => ?_⟩
    refine lc_it (walk_r0 (n := 5)) (fun i H' => Same H4 H' ∧ H' D = some (.lst ((bsN 2 i).map V.bl))) ⟨same_upd hD, upd_same⟩ (fun _ _ _ _ => trivial) ?_ ?_
    · rintro i v Ha Hb hi ⟨s5, LD⟩ ⟨rfl, rfl⟩
      walk_at "rd"
      refine ⟨rfl, ?_⟩
      walk_at "rd"
      refine ⟨_, LD, by rw [List.length_map, bsN_len]; exact small1000 (by omega), Same.putE s5 hD, ?_⟩
      rw [upd_same, bsN_succ, List.map_append]
      rfl
    · rintro H5 ⟨s5, LD⟩
      refine rd_eqDB (SqL.of (s5 _ _ L3)) (SqL.of LD) (by decide +kernel) ?_
      exact k1 _ (((s1.trans s2).trans s3).trans s5)
  · have ec := (T.exf (List.mem_of_getElem? (i := 0) rfl)).ec
    refine wAs_yes (T.exm (List.mem_of_getElem? (i := 0) rfl)) fun b hb => ?_
    walk_at "rd"
    refine rd_isX ec (T.exk (List.mem_of_getElem? (i := 1) rfl)) ?_
    walk_at "rd"
    refine rd_isX ec (T.exk (List.mem_of_getElem? (i := 2) rfl)) ?_
    walk_at "rd"
    refine rd_isX ec (T.exk (List.mem_of_getElem? (i := 3) rfl)) ?_
    walk_at "rd"
    refine rd_new (hn := by show 3 ≤ sizeLine; decide) fun p1 hp1 => ?_
    have s1 := same_upd (o := HO.lst [V.bl false, .bl false, .bl false]) hp1
    have L1 : (upd H1 p1 (HO.lst [V.bl false, .bl false, .bl false])) p1 = _ := upd_same
    generalize upd H1 p1 (HO.lst [V.bl false, .bl false, .bl false]) = H2 at s1 L1 ⊢
    walk_at "rd"
    refine rd_isX ec (T.exk (List.mem_of_getElem? (i := 4) rfl)) ?_
    walk_at "rd"
    refine rd_isX ec (T.exk (List.mem_of_getElem? (i := 5) rfl)) ?_
    walk_at "rd"
    refine rd_new (hn := by show 2 ≤ sizeLine; decide) fun p2 hp2 => ?_
    have s2 := same_upd (o := HO.lst [V.bl true, .bl false]) hp2
    have L2 : (upd H2 p2 (HO.lst [V.bl true, .bl false])) p2 = _ := upd_same
    generalize upd H2 p2 (HO.lst [V.bl true, .bl false]) = H3 at s2 L2 ⊢
    walk_at "rd"
    refine ⟨p1, p2, _, _, rfl, rfl, s2 _ _ L1, L2, by show 5 ≤ sizeLine; decide, fun p3 hp3 => ?_⟩
    have s3 := same_upd (o := HO.lst ([V.bl false, .bl false, .bl false] ++ [V.bl true, .bl false])) hp3
    have L3 : (upd H3 p3 (HO.lst ([V.bl false, .bl false, .bl false] ++ [V.bl true, .bl false]))) p3 = some (.lst ([false, false, false, true, false].map V.bl)) := upd_same
    generalize upd H3 p3 (HO.lst ([V.bl false, .bl false, .bl false] ++ [V.bl true, .bl false])) = H4 at s3 L3 ⊢
    walk_at "rd"
    refine rd_isXT ec (T.exk (List.mem_of_getElem? (i := 6) rfl)) ?_
    walk_at "rd"
    refine ⟨5, rfl, by decide, by decide, fun D hD => ?_⟩
    refine lc_it (walk_r0 (n := 5)) (fun i H' => Same H4 H' ∧ H' D = some (.lst ((bsN 3 i).map V.bl))) ⟨same_upd hD, upd_same⟩ (fun _ _ _ _ => trivial) ?_ ?_
    · rintro i v Ha Hb hi ⟨s5, LD⟩ ⟨rfl, rfl⟩
      walk_at "rd"
      refine ⟨rfl, ?_⟩
      walk_at "rd"
      refine ⟨_, LD, by rw [List.length_map, bsN_len]; exact small1000 (by omega), Same.putE s5 hD, ?_⟩
      rw [upd_same, bsN_succ, List.map_append]
      rfl
    · rintro H5 ⟨s5, LD⟩
      refine rd_eqDB (SqL.of (s5 _ _ L3)) (SqL.of LD) (by decide +kernel) ?_
      exact k1 _ (((s1.trans s2).trans s3).trans s5)
  · have ec := (T.exf (List.mem_of_getElem? (i := 2) rfl)).ec
    refine wAs_yes (T.exm (List.mem_of_getElem? (i := 14) rfl)) fun b hb => ?_
    walk_at "rd"
    refine rd_isX ec (T.exk (List.mem_of_getElem? (i := 15) rfl)) ?_
    walk_at "rd"
    refine rd_isX ec (T.exk (List.mem_of_getElem? (i := 16) rfl)) ?_
    walk_at "rd"
    refine rd_isX ec (T.exk (List.mem_of_getElem? (i := 17) rfl)) ?_
    walk_at "rd"
    refine rd_new (hn := by show 3 ≤ sizeLine; decide) fun p1 hp1 => ?_
    have s1 := same_upd (o := HO.lst [V.bl false, .bl false, .bl false]) hp1
    have L1 : (upd H1 p1 (HO.lst [V.bl false, .bl false, .bl false])) p1 = _ := upd_same
    generalize upd H1 p1 (HO.lst [V.bl false, .bl false, .bl false]) = H2 at s1 L1 ⊢
    walk_at "rd"
    refine rd_isX ec (T.exk (List.mem_of_getElem? (i := 18) rfl)) ?_
    walk_at "rd"
    refine rd_isX ec (T.exk (List.mem_of_getElem? (i := 19) rfl)) ?_
    walk_at "rd"
    refine rd_new (hn := by show 2 ≤ sizeLine; decide) fun p2 hp2 => ?_
    have s2 := same_upd (o := HO.lst [V.bl false, .bl true]) hp2
    have L2 : (upd H2 p2 (HO.lst [V.bl false, .bl true])) p2 = _ := upd_same
    generalize upd H2 p2 (HO.lst [V.bl false, .bl true]) = H3 at s2 L2 ⊢
    walk_at "rd"
    refine ⟨p1, p2, _, _, rfl, rfl, s2 _ _ L1, L2, by show 5 ≤ sizeLine; decide, fun p3 hp3 => ?_⟩
    have s3 := same_upd (o := HO.lst ([V.bl false, .bl false, .bl false] ++ [V.bl false, .bl true])) hp3
    have L3 : (upd H3 p3 (HO.lst ([V.bl false, .bl false, .bl false] ++ [V.bl false, .bl true]))) p3 = some (.lst ([false, false, false, false, true].map V.bl)) := upd_same
    generalize upd H3 p3 (HO.lst ([V.bl false, .bl false, .bl false] ++ [V.bl false, .bl true])) = H4 at s3 L3 ⊢
    walk_at "rd"
    refine rd_isXT ec (T.exk (List.mem_of_getElem? (i := 20) rfl)) ?_
    walk_at "rd"
    refine ⟨5, rfl, by decide, by decide, fun D hD => ?_⟩
    refine lc_it (walk_r0 (n := 5)) (fun i H' => Same H4 H' ∧ H' D = some (.lst ((bsN 4 i).map V.bl))) ⟨same_upd hD, upd_same⟩ (fun _ _ _ _ => trivial) ?_ ?_
    · rintro i v Ha Hb hi ⟨s5, LD⟩ ⟨rfl, rfl⟩
      walk_at "rd"
      refine ⟨rfl, ?_⟩
      walk_at "rd"
      refine ⟨_, LD, by rw [List.length_map, bsN_len]; exact small1000 (by omega), Same.putE s5 hD, ?_⟩
      rw [upd_same, bsN_succ, List.map_append]
      rfl
    · rintro H5 ⟨s5, LD⟩
      refine rd_eqDB (SqL.of (s5 _ _ L3)) (SqL.of LD) (by decide +kernel) ?_
      exact k1 _ (((s1.trans s2).trans s3).trans s5)
end
end JF

/-! ### law k26: odd cells -/
namespace JF
open PySem PySem.Spec PyProof.Rows L2 LamX
section
variable {P : Program} {w : World} {K : PySem.W.Frag} {mg : Str → Option Value} {base : Heap}
def sp_noState : Sp := fun vs H Q _ => ∃ c : Int, vs = [.int c] ∧ ∀ H' v, Same H H' → KindT H' v → BadN 7 v → Q v H'
theorem ok_noState (T : Env fa fn K mg) : Good P w K mg base CX0 1 ("_law_no_state", none) ["_law_cell"] sp_noState := by
  refine good_mk T 31 (d := d_w_no_state) (N := ["_law_cell", "_law_way", "_law_far"]) (ps := ["_law_cell"]) rfl rfl sc_w_no_state (fun _ _ _ _ _ _ us hl => match us, hl with | [_], _ => rfl) (fun vs H Q E h => ?_) (fun f cdv A outer σ0 H vs Q E hr h => ?_)
  · obtain ⟨c, rfl, _⟩ := h; rfl
  · obtain ⟨c, rfl, k⟩ := h
    have e30 : (10 : Int) ^ Int.toNat 30 = 1000000000000000000000000000000 := by decide
    have g0 := Int.emod_nonneg (c / 6) (show (5 : Int) ≠ 0 by decide)
    have g1 := Int.emod_lt_of_pos (c / 6) (show (0 : Int) < 5 by decide)
    refine ⟨_, (pss_cons (ps_set (i := 1) sc_w_no_state.nd rfl (Or.inl rfl) (pe_op op_mod (pv 0) pe_int))
      (pss_cons (ps_set (i := 2) sc_w_no_state.nd rfl (Or.inl rfl) (pe_op op_mod (pe_op op_fdivW (pv 0) pe_int) (pe_op op_pow pe_int pe_int)))
      (pss_cons (ps_if (pt_cmpR op_eq (pv 1) pe_int (nomark _)) (pss_one (ps_ret (pe_op op_sub (pe_un un_neg pe_int) (pv 2)))) pss_nil)
      (pss_cons (ps_if (pt_cmpR op_eq (pv 1) pe_int (nomark _)) (pss_one (ps_ret (pe_op op_add pe_int (pv 2)))) pss_nil)
      (pss_cons (ps_if (pt_cmpR op_eq (pv 1) pe_int (nomark _)) (pss_one (ps_ret (pe_cmpR op_eq (pe_op op_mod (pv 2) pe_int) pe_int (nomark _)))) pss_nil)
      (pss_cons (ps_if (pt_cmpR op_eq (pv 1) pe_int (nomark _)) (pss_one (ps_ret pe_non)) pss_nil)
      (pss_one (ps_ret (pe_ix (ix_listK K rfl) (pe_lst (pa_cons pe_str (pa_cons pe_str (pa_cons (pe_tup (pa_cons pe_int pa_nil)) (pa_cons (pe_un un_neg pe_int) (pa_cons pe_int pa_nil)))))) (pe_op op_mod (pe_op op_fdivW (pv 0) pe_int) pe_int) (fun _ _ => rfl)))))))))), ?_⟩
    walk_at "rd"
    refine rd_I (by refine ⟨by decide, by decide, by decide⟩) ?_
    rw [e30]
    refine rd_mod (by decide) ?_
    have f0 := Int.emod_nonneg (c / 6) (show (1000000000000000000000000000000 : Int) ≠ 0 by decide)
    generalize c / 6 % 1000000000000000000000000000000 = far at *
    generalize c % 6 = way at *
    walk_at "rd"
    refine ite_d (fun _ => ?_) (fun _ => ?_)
    · walk_at "rd"
      exact k H _ (Same.refl _) (.inl (.inl ⟨_, rfl⟩)) (.inr ⟨_, rfl, .inl (by omega)⟩)
    walk_at "rd"
    refine ite_d (fun _ => ?_) (fun _ => ?_)
    · walk_at "rd"
      exact k H _ (Same.refl _) (.inl (.inl ⟨_, rfl⟩)) (.inr ⟨_, rfl, .inr (by omega)⟩)
    walk_at "rd"
    refine ite_d (fun _ => ?_) (fun _ => ?_)
    · walk_at "rd"
      exact k H _ (Same.refl _) (.inl (.inr (.inl ⟨_, rfl⟩))) (.inl rfl)
    walk_at "rd"
    refine ite_d (fun _ => ?_) (fun _ => ?_)
    · walk_at "rd"
      exact k H _ (Same.refl _) (.inl (.inr (.inr (.inr rfl)))) (.inl rfl)
    walk_at "rd"
    refine rd_new (hn := by show 1 ≤ sizeLine; decide) fun t ht => ?_
    have s1 := same_upd (o := HO.tup [V.int 1]) ht
    have T1 : (upd H t (HO.tup [V.int 1])) t = some (.tup [V.int 1]) := upd_same
    generalize upd H t (HO.tup [V.int 1]) = H1 at *
    walk_at "rd"
    refine rd_new (hn := by show 5 ≤ sizeLine; decide) fun l hl => ?_
    have s2 := same_upd (o := HO.lst [V.str (Str.ofString "8"), V.str (Str.ofString "1"), V.ref t, V.int (-1), V.int 8]) hl
    walk_at "rd"
    generalize c / 6 % 5 = ix at *
    rcases (by omega : ix = 0 ∨ ix = 1 ∨ ix = 2 ∨ ix = 3 ∨ ix = 4) with rfl | rfl | rfl | rfl | rfl
    · exact rd_ixL (SqL.of upd_same) (atI_nat (j := 0) rfl) (k _ _ (s1.trans s2) (.inl (.inr (.inr (.inl ⟨_, rfl⟩)))) (.inl rfl))
    · exact rd_ixL (SqL.of upd_same) (atI_nat (j := 1) rfl) (k _ _ (s1.trans s2) (.inl (.inr (.inr (.inl ⟨_, rfl⟩)))) (.inl rfl))
    · exact rd_ixL (SqL.of upd_same) (atI_nat (j := 2) rfl) (k _ _ (s1.trans s2) (.inr ⟨t, _, rfl, s2 _ _ T1⟩) (.inl rfl))
    · exact rd_ixL (SqL.of upd_same) (atI_nat (j := 3) rfl) (k _ _ (s1.trans s2) (.inl (.inl ⟨_, rfl⟩)) (.inr ⟨_, rfl, .inl (by decide)⟩))
    · exact rd_ixL (SqL.of upd_same) (atI_nat (j := 4) rfl) (k _ _ (s1.trans s2) (.inl (.inl ⟨_, rfl⟩)) (.inr ⟨_, rfl, .inr (by decide)⟩))
def sp_farPlace : Sp := fun vs H Q _ => ∃ c b : Int, vs = [.int c, .int b] ∧ ∀ H' t x y, Same H H' → H' t = some (.tup [V.int x, .int y]) → ¬ InGround x y → Q (.ref t) H'
theorem ok_farPlace (T : Env fa fn K mg) : Good P w K mg base CX0 1 ("_law_far_place", none) ["_law_cell", "_law_beside"] sp_farPlace := by
  refine good_mk T 32 (d := d_w_far_place) (N := ["_law_cell", "_law_beside", "_law_far", "_law_out"]) (ps := ["_law_cell", "_law_beside"]) rfl rfl sc_w_far_place (fun _ _ _ _ _ _ us hl => match us, hl with | [_, _], _ => rfl) (fun vs H Q E h => ?_) (fun f cdv A outer σ0 H vs Q E hr h => ?_)
  · obtain ⟨c, b, rfl, _⟩ := h; rfl
  · obtain ⟨c, b, rfl, k⟩ := h
    have e30 : (10 : Int) ^ Int.toNat 30 = 1000000000000000000000000000000 := by decide
    have e40 : (2 : Int) ^ Int.toNat 40 = 1099511627776 := by decide
    have big : (1000000000000000000000000000000 : Int) < 2 ^ 2000 := by decide +kernel
    refine ⟨_, (pss_cons (ps_set (i := 2) sc_w_far_place.nd rfl (Or.inl rfl) (pe_op op_mulW (pe_op op_mod (pe_op op_fdivW (pv 0) pe_int) (pe_op op_pow pe_int pe_int)) (pe_op op_mod (pe_op op_fdivW (pv 0) pe_int) pe_int)))
      (pss_cons (ps_set (i := 3) sc_w_far_place.nd rfl (Or.inl rfl) (pe_op op_add (pe_op op_pow pe_int pe_int) (pv 2)))
      (pss_cons (ps_if (pt_cmpR op_eq (pe_op op_mod (pv 0) pe_int) pe_int (nomark _)) (pss_one (ps_set (i := 3) sc_w_far_place.nd rfl (Or.inl rfl) (pe_op op_sub (pe_op op_sub (pe_op op_sub pe_int (pe_op op_pow pe_int pe_int)) pe_int) (pv 2)))) pss_nil)
      (pss_cons (ps_if (pt_cmpR op_eq (pe_op op_mod (pe_op op_fdivW (pv 0) pe_int) pe_int) pe_int (nomark _)) (pss_one (ps_ret (pe_tup (pa_cons (pv 3) (pa_cons (pv 1) pa_nil))))) pss_nil)
      (pss_cons (ps_if (pt_cmpR op_eq (pe_op op_mod (pe_op op_fdivW (pv 0) pe_int) pe_int) pe_int (nomark _)) (pss_one (ps_ret (pe_tup (pa_cons (pv 1) (pa_cons (pv 3) pa_nil))))) pss_nil)
      (pss_one (ps_ret (pe_tup (pa_cons (pv 3) (pa_cons (pv 3) pa_nil)))))))))), ?_⟩
    walk_at "rd"
    refine rd_I (by refine ⟨by decide, by decide, by decide⟩) ?_
    rw [e30]
    refine rd_mod (by decide) ?_
    have f0 := Int.emod_nonneg (c / 18) (show (1000000000000000000000000000000 : Int) ≠ 0 by decide)
    have f1 := Int.emod_lt_of_pos (c / 18) (show (0 : Int) < 1000000000000000000000000000000 by decide)
    generalize c / 18 % 1000000000000000000000000000000 = u at *
    have v0 : 0 ≤ c / 9 % 2 ∧ c / 9 % 2 < 2 := by omega
    walk_at "rd"
    refine rd_I (mulW_of (by omega) (by omega) (by omega) (by omega)) ?_
    have m0 : 0 ≤ u * (c / 9 % 2) := Int.mul_nonneg f0 v0.1
    generalize u * (c / 9 % 2) = far at *
    have fin : ∀ o : Int, (o < -1099511627776 ∨ 1099511627776 ≤ o) → ∀ p q : Int, (p = o ∨ q = o) → ¬ InGround p q := fun o ho p q h z => by
      obtain ⟨z1, z2, z3, z4⟩ := z
      omega
    walk_at "rd"
    refine rd_I (by refine ⟨by decide, by decide, by decide⟩) ?_
    rw [e40]
    walk_at "rd"
    refine ite_d (fun _ => ?_) (fun _ => ?_)
    · walk_at "rd"
      refine rd_I (by refine ⟨by decide, by decide, by decide⟩) ?_
      rw [e40]
      walk_at "rd"
      refine ite_d (fun _ => ?_) (fun _ => ?_)
      · walk_at "rd"
        exact rd_new (hn := by show 2 ≤ sizeLine; decide) fun t ht => k _ t _ _ (same_upd ht) upd_same (fin _ (.inl (by omega)) _ _ (.inl rfl))
      walk_at "rd"
      refine ite_d (fun _ => ?_) (fun _ => ?_)
      · walk_at "rd"
        exact rd_new (hn := by show 2 ≤ sizeLine; decide) fun t ht => k _ t _ _ (same_upd ht) upd_same (fin _ (.inl (by omega)) _ _ (.inr rfl))
      walk_at "rd"
      exact rd_new (hn := by show 2 ≤ sizeLine; decide) fun t ht => k _ t _ _ (same_upd ht) upd_same (fin _ (.inl (by omega)) _ _ (.inl rfl))
    · walk_at "rd"
      refine ite_d (fun _ => ?_) (fun _ => ?_)
      · walk_at "rd"
        exact rd_new (hn := by show 2 ≤ sizeLine; decide) fun t ht => k _ t _ _ (same_upd ht) upd_same (fin _ (.inr (by omega)) _ _ (.inl rfl))
      walk_at "rd"
      refine ite_d (fun _ => ?_) (fun _ => ?_)
      · walk_at "rd"
        exact rd_new (hn := by show 2 ≤ sizeLine; decide) fun t ht => k _ t _ _ (same_upd ht) upd_same (fin _ (.inr (by omega)) _ _ (.inr rfl))
      walk_at "rd"
      exact rd_new (hn := by show 2 ≤ sizeLine; decide) fun t ht => k _ t _ _ (same_upd ht) upd_same (fin _ (.inr (by omega)) _ _ (.inl rfl))
def sp_oddCell : Sp := fun vs H Q _ => ∃ c b : Int, vs = [.int c, .int b] ∧ InGround b b ∧ ∀ H' t t2 x y s n cls, Same H H' → H' t = some (.tup [V.ref t2, .int n]) → H' t2 = some (.tup [V.int x, .int y, s]) → DueP H' x y s cls → (cls, n) ∈ refF → Q (.ref t) H'
theorem ok_oddCell (T : Env fa fn K mg) : Good P w K mg base CX0 2 ("_law_odd_cell", none) ["_law_cell", "_law_beside"] sp_oddCell := by
  have G_w_no_state := ok_noState (P := P) (w := w) (base := base) T
  have G_w_far_place := ok_farPlace (P := P) (w := w) (base := base) T
  refine good_mk T 33 (d := d_w_odd_cell) (N := ["_law_cell", "_law_beside", "_law_place"]) (ps := ["_law_cell", "_law_beside"]) rfl rfl sc_w_odd_cell (fun _ _ _ _ _ _ us hl => match us, hl with | [_, _], _ => rfl) (fun vs H Q E h => ?_) (fun f cdv A outer σ0 H vs Q E hr h => ?_)
  · obtain ⟨c, b, rfl, _⟩ := h; rfl
  · obtain ⟨c, b, rfl, gb, k⟩ := h
    refine ⟨_, (pss_cons (ps_if (pt_cmpR op_eq (pe_op op_mod (pv 0) pe_int) pe_int (nomark _)) (pss_one (ps_ret (pe_tup (pa_cons (pe_tup (pa_cons (pv 1) (pa_cons (pv 1) (pa_cons (pe_cgK K rfl G_w_no_state (hr.mono (by decide)) (T.glo 45) (pa_cons (pe_op op_fdivW (pv 0) pe_int) pa_nil)) pa_nil)))) (pa_cons pe_int pa_nil))))) pss_nil)
      (pss_cons (ps_set (i := 2) sc_w_odd_cell.nd rfl (Or.inl rfl) (pe_cgK K rfl G_w_far_place (hr.mono (by decide)) (T.glo 46) (pa_cons (pe_op op_fdivW (pv 0) pe_int) (pa_cons (pv 1) pa_nil))))
      (pss_cons (ps_if (pt_cmpR op_eq (pe_op op_mod (pv 0) pe_int) pe_int (nomark _)) (pss_one (ps_ret (pe_tup (pa_cons (pe_tup (pa_cons (pe_ix (ix_tupK K rfl) (pv 2) pe_int (fun _ _ => rfl)) (pa_cons (pe_ix (ix_tupK K rfl) (pv 2) pe_int (fun _ _ => rfl)) (pa_cons (pe_op op_add pe_int (pe_op op_mod (pe_op op_fdivW (pv 0) pe_int) pe_int)) pa_nil)))) (pa_cons pe_int pa_nil))))) pss_nil)
      (pss_one (ps_ret (pe_tup (pa_cons (pe_tup (pa_cons (pe_ix (ix_tupK K rfl) (pv 2) pe_int (fun _ _ => rfl)) (pa_cons (pe_ix (ix_tupK K rfl) (pv 2) pe_int (fun _ _ => rfl)) (pa_cons (pe_cgK K rfl G_w_no_state (hr.mono (by decide)) (T.glo 45) (pa_cons (pe_op op_fdivW (pv 0) pe_int) pa_nil)) pa_nil)))) (pa_cons pe_int pa_nil)))))))), ?_⟩
    walk_at "rd"
    refine ite_d (fun _ => ?_) (fun _ => ?_)
    · walk_at "rd"
      refine ⟨_, rfl, fun H1 v s1 hk hb => ?_⟩
      walk_at "rd"
      refine rd_new (hn := by show 3 ≤ sizeLine; decide) fun t2 ht2 => ?_
      have s2 := same_upd (o := HO.tup [V.int b, V.int b, v]) ht2
      have T2 : (upd H1 t2 (HO.tup [V.int b, V.int b, v])) t2 = some (.tup [V.int b, V.int b, v]) := upd_same
      generalize upd H1 t2 (HO.tup [V.int b, V.int b, v]) = H2 at *
      walk_at "rd"
      refine rd_new (hn := by show 2 ≤ sizeLine; decide) fun t ht => ?_
      have s3 := same_upd (o := HO.tup [V.ref t2, V.int 1]) ht
      exact k _ t t2 b b v 1 "NoState" ((s1.trans s2).trans s3) upd_same (s3 _ _ T2) (.state gb ((hk.tups fun b xs e => s2 _ _ e).tups fun b xs e => s3 _ _ e) hb) (by simp [refF])
    walk_at "rd"
    refine ⟨_, _, rfl, fun H1 tp x y s1 T1 hg => ?_⟩
    walk_at "rd"
    refine ite_d (fun _ => ?_) (fun _ => ?_)
    · walk_at "rd"
      refine rd_new (hn := by show 3 ≤ sizeLine; decide) fun t2 ht2 => ?_
      have s2 := same_upd (o := HO.tup [V.int x, V.int y, V.int (1 + c / 3 % 7)]) ht2
      have T2 : (upd H1 t2 (HO.tup [V.int x, V.int y, V.int (1 + c / 3 % 7)])) t2 = some (.tup [V.int x, V.int y, V.int (1 + c / 3 % 7)]) := upd_same
      generalize upd H1 t2 (HO.tup [V.int x, V.int y, V.int (1 + c / 3 % 7)]) = H2 at *
      walk_at "rd"
      refine rd_new (hn := by show 2 ≤ sizeLine; decide) fun t ht => ?_
      have s3 := same_upd (o := HO.tup [V.ref t2, V.int 0]) ht
      exact k _ t t2 x y _ 0 "TooFar" ((s1.trans s2).trans s3) upd_same (s3 _ _ T2) (.far hg) (by simp [refF])
    · walk_at "rd"
      refine ⟨_, rfl, fun H2 v s2 hk hb => ?_⟩
      walk_at "rd"
      refine rd_new (hn := by show 3 ≤ sizeLine; decide) fun t2 ht2 => ?_
      have s3 := same_upd (o := HO.tup [V.int x, V.int y, v]) ht2
      have T2 : (upd H2 t2 (HO.tup [V.int x, V.int y, v])) t2 = some (.tup [V.int x, V.int y, v]) := upd_same
      generalize upd H2 t2 (HO.tup [V.int x, V.int y, v]) = H3 at *
      walk_at "rd"
      refine rd_new (hn := by show 2 ≤ sizeLine; decide) fun t ht => ?_
      have s4 := same_upd (o := HO.tup [V.ref t2, V.int 0]) ht
      exact k _ t t2 x y v 0 "TooFar" (((s1.trans s2).trans s3).trans s4) upd_same (s4 _ _ T2) (.far hg) (by simp [refF])
end
end JF

/-! ### law k26: levels refused -/
namespace JF
open PySem PySem.Spec PyProof.Rows L2 LamX
section
variable {P : Program} {w : World} {K : PySem.W.Frag} {mg : Str → Option Value} {base : Heap}
def sp_levelsF (K : PySem.W.Frag) : Sp := fun vs H Q _ => ∃ (a : GA) (rows : List (Int × Addr)) (q : List Sq) (n : Nat) (S : Sq) (c : Int), vs = [.ref a.g, .int (n : Int), .int c] ∧ GAt (CG K) H a rows q ∧ q[n]? = some S ∧ 1 ≤ S.level ∧ S.level ≤ 41 ∧ S.trim = S ∧ q.length + 9000 < 16000000 ∧ Tabs (tabsL K) H ∧
  ∀ H' rows' q', LStep (CG K) H a rows q H' rows' q' → Tabs (tabsL K) H' → Q (.bl true) H'
set_option maxHeartbeats 16000000 in
theorem ok_levelsF (T : Env fa fn K mg) (TB : ∀ p ∈ tfs, TabB base mg (He.codeOf K p) (He.tabOf K (He.codeOf K p))) : Good P w K mg base CX0 60 ("_law_levels", none) ["_law_grove", "_law_field", "_law_cell"] (sp_levelsF K) := by
  have GL_w_refused := (okL_refused (P := P) (w := w) (base := base) T 10)
  have GX_widened := okX_widened (P := P) (w := w) (base := base) T
  have GX_trimmed := okX_trimmed (P := P) (w := w) (base := base) T
  have G_trimmed := ok_trimmed (P := P) (w := w) (base := base) T
  have G_Grove_leaf := ok_leaf (P := P) (w := w) (base := base) T
  have G_Grove_solid := ok_solid (P := P) (w := w) (base := base) T
  refine good_mkC T 35 (d := d_w_levels) (N := ["_law_grove", "_law_field", "_law_cell", "_law_leaf", "_law_high", "_law_bad", "_law_due", "_law_square"]) (ps := ["_law_grove", "_law_field", "_law_cell"]) rfl rfl sc_w_levels (fun _ _ _ _ _ _ us hl => match us, hl with | [_, _, _], _ => rfl) (fun vs H Q E h => ?_) (fun fn_ A outer σ0 H vs Q E hr h => ?_)
  · obtain ⟨a, rows, q, n, S, c, rfl, _⟩ := h; rfl
  · obtain ⟨a, rows, q, n, S, c, rfl, G, hn, l1, l41, hS, hq, tabs, k⟩ := h
    have c80 := Int.emod_nonneg c (show (8 : Int) ≠ 0 by decide)
    have c81 := Int.emod_lt_of_pos c (show (0 : Int) < 8 by decide)
    have c60 := Int.emod_nonneg c (show (6 : Int) ≠ 0 by decide)
    have c61 := Int.emod_lt_of_pos c (show (0 : Int) < 6 by decide)
    have e30 : (10 : Int) ^ Int.toNat 30 = 1000000000000000000000000000000 := by decide
    have e9 : (10 : Int) ^ Int.toNat 9 = 1000000000 := by decide
    refine ⟨_, (pss_cons (ps_set (i := 3) sc_w_levels.nd rfl (Or.inl rfl) (pe_mgK K rfl (pv 0) (T.cls 9) (T.meth 32) G_Grove_leaf (hr.mono (by decide)) (pa_cons (pe_op op_mod (pv 2) pe_int) pa_nil)))
      (pss_cons (ps_set (i := 4) sc_w_levels.nd rfl (Or.inl rfl) (pe_mgK K rfl (pv 0) (T.cls 9) (T.meth 48) G_Grove_solid (hr.mono (by decide)) (pa_cons pe_int (pa_cons (pe_op op_mod (pv 2) pe_int) pa_nil))))
      (pss_cons (ps_set (i := 5) sc_w_levels.nd rfl (Or.inl rfl) (pe_ix (ix_listK K rfl) (pe_lst (pa_cons (pe_un un_neg pe_int) (pa_cons (pe_op op_pow pe_int pe_int) (pa_cons pe_bl (pa_cons pe_non (pa_cons pe_str (pa_cons (pe_op op_add (pe_op op_pow pe_int pe_int) (pe_op op_mod (pv 2) (pe_op op_pow pe_int pe_int))) pa_nil))))))) (pe_op op_mod (pv 2) pe_int) (fun _ _ => rfl)))
      (pss_cons (ps_for PassesOwn.never rfl (pi_listK K rfl (pe_lst (pa_cons (pe_tup (pa_cons (pv 3) (pa_cons pe_int pa_nil))) (pa_cons (pe_tup (pa_cons (pv 4) (pa_cons pe_int pa_nil))) (pa_cons (pe_tup (pa_cons (pv 5) (pa_cons pe_int pa_nil))) pa_nil))))) (pg_tup rfl (pgs_cons (pg_name (i := 7) sc_w_levels.nd rfl (Or.inr rfl)) (pgs_cons (pg_name (i := 6) sc_w_levels.nd rfl (Or.inl rfl)) pgs_nil))) (pss_one (ps_if (pt_not (pt_val (pe_lam2 K rfl (T := tabsL K) GL_w_refused (by rfl) (T.glo 50) (steady_var (i := 6) rfl (by first | exact Or.inl rfl | exact Or.inr (Or.inl rfl) | exact Or.inr (Or.inr rfl))) (TB _ (List.mem_of_getElem? (i := 1) rfl)) rfl (tl_mem 1 rfl) (tl_u T 1 rfl) (hr.mono (by decide)) (by decide) (show LamS (defScope st_w_levels) _ from lamS_by (by decide +kernel)) (by rfl) (fun _ _ _ _ _ => by rfl) (fun A' outer' s' H' E' f' c' hr => by exact (pe_cgX K rfl lamN_takes GX_widened (hr.mono (by decide)) (T.glo 33) (pa_cons (pv 0) (pa_cons (pv 7) pa_nil))))))) (pss_one (ps_ret pe_bl)) pss_nil)))
      (pss_cons (ps_for PassesOwn.never rfl (pi_listK K rfl (pe_lst (pa_cons (pe_tup (pa_cons (pv 3) (pa_cons pe_int pa_nil))) (pa_cons (pe_tup (pa_cons (pv 5) (pa_cons pe_int pa_nil))) pa_nil)))) (pg_tup rfl (pgs_cons (pg_name (i := 7) sc_w_levels.nd rfl (Or.inr rfl)) (pgs_cons (pg_name (i := 6) sc_w_levels.nd rfl (Or.inl rfl)) pgs_nil))) (pss_one (ps_if (pt_not (pt_val (pe_lam2 K rfl (T := tabsL K) GL_w_refused (by rfl) (T.glo 50) (steady_var (i := 6) rfl (by first | exact Or.inl rfl | exact Or.inr (Or.inl rfl) | exact Or.inr (Or.inr rfl))) (TB _ (List.mem_of_getElem? (i := 1) rfl)) rfl (tl_mem 1 rfl) (tl_u T 1 rfl) (hr.mono (by decide)) (by decide) (show LamS (defScope st_w_levels) _ from lamS_by (by decide +kernel)) (by rfl) (fun _ _ _ _ _ => by rfl) (fun A' outer' s' H' E' f' c' hr => by exact (pe_cgX K rfl lamN_takes GX_trimmed (hr.mono (by decide)) (T.glo 34) (pa_cons (pv 0) (pa_cons (pv 7) pa_nil))))))) (pss_one (ps_ret pe_bl)) pss_nil)))
      (pss_one (ps_ret (pe_cmpR op_eq (pe_cgK K rfl G_trimmed (hr.mono (by decide)) (T.glo 34) (pa_cons (pv 0) (pa_cons (pv 1) pa_nil))) (pv 1) (nomark _))))))))), ?_⟩
    walk_at "rd"
    refine rd_methR G.ob (by rfl) ?_
    walk_at "rd"
    refine ⟨a, rows, q, c % 8, rfl, G, c80, by omega, by omega, fun H1 q1 nl g1 p1 ll el f1 => ?_⟩
    have S1 := (GStep.refl G).m5 g1 p1 f1
    have t1 := tabsL_step tabs G S1
    have Z1 := LStep.of S1
    walk_at "rd"
    refine rd_methR Z1.gat.ob (by rfl) ?_
    walk_at "rd"
    refine ⟨a, rows, q1, 48, c % 8, rfl, Z1.gat, by decide, c80, by omega, by omega, fun H2 r2 q2 nh S2 l2 eh => ?_⟩
    have t2 := tabsL_step t1 Z1.gat S2
    have Z2 := Z1.trans (LStep.of S2)
    have el2 := pre_get S2.pre el
    have hn2 := pre_get Z2.pre hn
    have G2 := Z2.gat
    clear S1 S2 t1 Z1 el f1 g1 p1 hn tabs
    walk_at "rd"
    refine rd_I (by refine ⟨by decide, by decide, by decide⟩) ?_
    rw [e9]
    walk_at "rd"
    refine rd_I (by refine ⟨by decide, by decide, by decide⟩) ?_
    rw [e9]
    walk_at "rd"
    refine rd_I (by refine ⟨by decide, by decide, by decide⟩) ?_
    rw [e30]
    refine rd_mod (by decide) ?_
    have f0 := Int.emod_nonneg c (show (1000000000000000000000000000000 : Int) ≠ 0 by decide)
    generalize c % 1000000000000000000000000000000 = far at *
    walk_at "rd"
    refine rd_new (hn := by show 6 ≤ sizeLine; decide) fun l hl => ?_
    have s3 := same_upd (o := HO.lst [V.int (-1), V.int 1000000000, V.bl true, V.non, V.str (Str.ofString "0"), V.int (1000000000 + far)]) hl
    have L3 : (upd H2 l (HO.lst [V.int (-1), V.int 1000000000, V.bl true, V.non, V.str (Str.ofString "0"), V.int (1000000000 + far)])) l = _ := upd_same
    generalize upd H2 l (HO.lst [V.int (-1), V.int 1000000000, V.bl true, V.non, V.str (Str.ofString "0"), V.int (1000000000 + far)]) = H3 at s3 L3 ⊢
    walk_at "rd"
    obtain ⟨bv, hix, hk, hb⟩ : ∃ bv, atI [V.int (-1), V.int 1000000000, V.bl true, V.non, V.str (Str.ofString "0"), V.int (1000000000 + far)] (c % 6) = some bv ∧ (∀ H, KindT H bv) ∧ BadN 999999999 bv := by
      generalize c % 6 = ix at *
      rcases (by omega : ix = 0 ∨ ix = 1 ∨ ix = 2 ∨ ix = 3 ∨ ix = 4 ∨ ix = 5) with rfl | rfl | rfl | rfl | rfl | rfl
      · exact ⟨_, atI_nat (j := 0) rfl, fun _ => .inl (.inl ⟨_, rfl⟩), .inr ⟨_, rfl, .inl (by decide)⟩⟩
      · exact ⟨_, atI_nat (j := 1) rfl, fun _ => .inl (.inl ⟨_, rfl⟩), .inr ⟨_, rfl, .inr (by decide)⟩⟩
      · exact ⟨_, atI_nat (j := 2) rfl, fun _ => .inl (.inr (.inl ⟨_, rfl⟩)), .inl rfl⟩
      · exact ⟨_, atI_nat (j := 3) rfl, fun _ => .inl (.inr (.inr (.inr rfl))), .inl rfl⟩
      · exact ⟨_, atI_nat (j := 4) rfl, fun _ => .inl (.inr (.inr (.inl ⟨_, rfl⟩))), .inl rfl⟩
      · exact ⟨_, atI_nat (j := 5) rfl, fun _ => .inl (.inl ⟨_, rfl⟩), .inr ⟨_, rfl, .inr (by omega)⟩⟩
    refine rd_ixL (SqL.of L3) hix ?_
    have t3 := tabsL_same t2 s3
    have x3 := ExtN.of s3
    clear L3 hix s3
    walk_at "rd"
    refine rd_new (hn := by show 2 ≤ sizeLine; decide) fun u1 hu1 => ?_
    have s4 := same_upd (o := HO.tup [V.int (nl : Int), V.int 4]) hu1
    have U1 : (upd H3 u1 (HO.tup [V.int (nl : Int), V.int 4])) u1 = some (.tup [V.int (nl : Int), V.int 4]) := upd_same
    generalize upd H3 u1 (HO.tup [V.int (nl : Int), V.int 4]) = H4 at s4 U1 ⊢
    walk_at "rd"
    refine rd_new (hn := by show 2 ≤ sizeLine; decide) fun u2 hu2 => ?_
    have s5 := same_upd (o := HO.tup [V.int (nh : Int), V.int 4]) hu2
    have U2 : (upd H4 u2 (HO.tup [V.int (nh : Int), V.int 4])) u2 = some (.tup [V.int (nh : Int), V.int 4]) := upd_same
    generalize upd H4 u2 (HO.tup [V.int (nh : Int), V.int 4]) = H5 at s5 U2 ⊢
    walk_at "rd"
    refine rd_new (hn := by show 2 ≤ sizeLine; decide) fun u3 hu3 => ?_
    have s6 := same_upd (o := HO.tup [bv, V.int 3]) hu3
    have U3 : (upd H5 u3 (HO.tup [bv, V.int 3])) u3 = some (.tup [bv, V.int 3]) := upd_same
    generalize upd H5 u3 (HO.tup [bv, V.int 3]) = H6 at s6 U3 ⊢
    walk_at "rd"
    refine rd_new (hn := by show 3 ≤ sizeLine; decide) fun ul hul => ?_
    have s7 := same_upd (o := HO.lst [V.ref u1, V.ref u2, V.ref u3]) hul
    have L7 : (upd H6 ul (HO.lst [V.ref u1, V.ref u2, V.ref u3])) ul = some (.lst [V.ref u1, V.ref u2, V.ref u3]) := upd_same
    have U1 := s7 _ _ (s6 _ _ (s5 _ _ U1))
    have U2 := s7 _ _ (s6 _ _ U2)
    have U3 := s7 _ _ U3
    have x7 := x3.trans (ExtN.of (((s4.trans s5).trans s6).trans s7))
    have t7 := tabsL_same t3 (((s4.trans s5).trans s6).trans s7)
    generalize upd H6 ul (HO.lst [V.ref u1, V.ref u2, V.ref u3]) = H7 at *
    clear s4 s5 s6 s7 hu1 hu2 hu3 hul x3 t3 hl
    walk_at "rd"
    refine ⟨ul, rfl, ⟨_, SqL.of L7⟩, ?_⟩
    refine for_it (walk_list (K := K) (a := ul) (xs := [V.ref u1, V.ref u2, V.ref u3])) (fun i σ Hx => ∃ x6 x7 : Option V, σ = [some (.ref a.g), some (.int (n : Int)), some (.int c), some (.int (nl : Int)), some (.int (nh : Int)), some bv, x6, x7] ∧ ExtN H7 Hx ∧ Tabs (tabsL K) Hx) ⟨none, none, rfl, ExtN.refl _, t7⟩ (fun i σ Hx _ ⟨_, _, _, x, _⟩ => SqL.of (x _ _ L7 (fun _ z => by cases z))) ?_ ?_
    · rintro i v σ Ha Hb hi ⟨x6, x7', rfl, xx, tt⟩ ⟨rfl, hv⟩
      have xb := x7.trans xx
      obtain ⟨u, w, d, rfl, hu, hdue, hd4⟩ : ∃ u w d, v = .ref u ∧ Hb u = some (.tup [w, .int d]) ∧ (∀ H8, ExtN Hb H8 → ∃ cls, (cls, d) ∈ refF ∧ ∀ E : XK, E (.ref (He.ga K cls)) none H8 → sp_fldX K (fun l => l = 0 ∨ 48 ≤ l) [.ref a.g, w] H8 (fun _ _ => False) E) ∧ True := by
        match i, hv with
        | 0, hv =>
          cases hv
          refine ⟨u1, _, 4, rfl, xx _ _ U1 (fun _ z => by cases z), fun H8 x8 => ⟨"NoLevel", by simp [refF], fun E h => .inr ⟨a, r2, q2, nl, _, rfl, G2.extN (xb.trans x8), el2, by omega, .inl rfl, h⟩⟩, trivial⟩
        | 1, hv =>
          cases hv
          refine ⟨u2, _, 4, rfl, xx _ _ U2 (fun _ z => by cases z), fun H8 x8 => ⟨"NoLevel", by simp [refF], fun E h => .inr ⟨a, r2, q2, nh, _, rfl, G2.extN (xb.trans x8), eh, by omega, .inr (by rw [Sq.level_even]; decide), h⟩⟩, trivial⟩
        | 2, hv =>
          cases hv
          refine ⟨u3, _, 3, rfl, xx _ _ U3 (fun _ z => by cases z), fun H8 x8 => ⟨"NoSquare", by simp [refF], fun E h => .inl ⟨a, r2, q2, bv, rfl, G2.extN (xb.trans x8), hk H8, hb, h⟩⟩, trivial⟩
      walk_at "rd"
      refine ⟨tt, _, rfl, fun H8 x8 t8 => ?_⟩
      obtain ⟨cls, hm, hE0⟩ := hdue H8 x8
      refine ⟨cls, d, hm, rfl, Same H8, fun E' Q' hE => ?_, fun H9 HA s9 sA => ?_⟩
      · walk_at "rd"
        refine rd_callS ?_
        walk_at "rd"
        exact hE0 _ (hE H8 (Same.refl _))
      walk_at "rd"
      exact ⟨_, _, rfl, xx.trans (x8.trans (ExtN.of (s9.trans sA))), tabsL_same t8 (s9.trans sA)⟩
    · rintro σ Hx ⟨x6, x7', rfl, xx, tt⟩
      have xb := x7.trans xx
      clear U1 U2 U3 L7 xx x7 t7
      walk_at "rd"
      refine rd_new (hn := by show 2 ≤ sizeLine; decide) fun u1 hu1 => ?_
      have s4 := same_upd (o := HO.tup [V.int (nl : Int), V.int 4]) hu1
      have U1 : (upd Hx u1 (HO.tup [V.int (nl : Int), V.int 4])) u1 = some (.tup [V.int (nl : Int), V.int 4]) := upd_same
      generalize upd Hx u1 (HO.tup [V.int (nl : Int), V.int 4]) = H4 at s4 U1 ⊢
      walk_at "rd"
      refine rd_new (hn := by show 2 ≤ sizeLine; decide) fun u3 hu3 => ?_
      have s6 := same_upd (o := HO.tup [bv, V.int 3]) hu3
      have U3 : (upd H4 u3 (HO.tup [bv, V.int 3])) u3 = some (.tup [bv, V.int 3]) := upd_same
      generalize upd H4 u3 (HO.tup [bv, V.int 3]) = H6 at s6 U3 ⊢
      walk_at "rd"
      refine rd_new (hn := by show 2 ≤ sizeLine; decide) fun ul hul => ?_
      have s7 := same_upd (o := HO.lst [V.ref u1, V.ref u3]) hul
      have L7 : (upd H6 ul (HO.lst [V.ref u1, V.ref u3])) ul = some (.lst [V.ref u1, V.ref u3]) := upd_same
      have U1 := s7 _ _ (s6 _ _ U1)
      have U3 := s7 _ _ U3
      have x7 := xb.trans (ExtN.of ((s4.trans s6).trans s7))
      have t7 := tabsL_same tt ((s4.trans s6).trans s7)
      generalize upd H6 ul (HO.lst [V.ref u1, V.ref u3]) = H7 at *
      clear s4 s6 s7 hu1 hu3 hul xb tt
      walk_at "rd"
      refine ⟨ul, rfl, ⟨_, SqL.of L7⟩, ?_⟩
      refine for_it (walk_list (K := K) (a := ul) (xs := [V.ref u1, V.ref u3])) (fun i σ Hx => ∃ x6 x7 : Option V, σ = [some (.ref a.g), some (.int (n : Int)), some (.int c), some (.int (nl : Int)), some (.int (nh : Int)), some bv, x6, x7] ∧ ExtN H7 Hx ∧ Tabs (tabsL K) Hx) ⟨x6, x7', rfl, ExtN.refl _, t7⟩ (fun i σ Hx _ ⟨_, _, _, x, _⟩ => SqL.of (x _ _ L7 (fun _ z => by cases z))) ?_ ?_
      · rintro i v σ Ha Hb hi ⟨x6, x7', rfl, xx, tt⟩ ⟨rfl, hv⟩
        have xb := x7.trans xx
        obtain ⟨u, w, d, rfl, hu, hdue⟩ : ∃ u w d, v = .ref u ∧ Hb u = some (.tup [w, .int d]) ∧ (∀ H8, ExtN Hb H8 → ∃ cls, (cls, d) ∈ refF ∧ ∀ E : XK, E (.ref (He.ga K cls)) none H8 → sp_fldX K (fun l => l = 0) [.ref a.g, w] H8 (fun _ _ => False) E) := by
          match i, hv with
          | 0, hv =>
            cases hv
            exact ⟨u1, _, 4, rfl, xx _ _ U1 (fun _ z => by cases z), fun H8 x8 => ⟨"NoLevel", by simp [refF], fun E h => .inr ⟨a, r2, q2, nl, _, rfl, G2.extN (xb.trans x8), el2, by omega, rfl, h⟩⟩⟩
          | 1, hv =>
            cases hv
            exact ⟨u3, _, 3, rfl, xx _ _ U3 (fun _ z => by cases z), fun H8 x8 => ⟨"NoSquare", by simp [refF], fun E h => .inl ⟨a, r2, q2, bv, rfl, G2.extN (xb.trans x8), hk H8, hb, h⟩⟩⟩
        walk_at "rd"
        refine ⟨tt, _, rfl, fun H8 x8 t8 => ?_⟩
        obtain ⟨cls, hm, hE0⟩ := hdue H8 x8
        refine ⟨cls, d, hm, rfl, Same H8, fun E' Q' hE => ?_, fun H9 HA s9 sA => ?_⟩
        · walk_at "rd"
          refine rd_callS ?_
          walk_at "rd"
          exact hE0 _ (hE H8 (Same.refl _))
        walk_at "rd"
        exact ⟨_, _, rfl, xx.trans (x8.trans (ExtN.of (s9.trans sA))), tabsL_same t8 (s9.trans sA)⟩
      · rintro σ Hx ⟨x6, x7', rfl, xx, tt⟩
        have xb := x7.trans xx
        walk_at "rd"
        refine ⟨a, r2, q2, n, S, rfl, G2.extN xb, hn2, l1, by omega, by omega, fun H9 q9 m9 g9 l9 e9 => ?_⟩
        rw [hS] at e9
        have em : m9 = n := nodup_at g9.gat.qn e9 (pre_get g9.pre hn2)
        subst em
        walk_at "rd"
        rw [decide_eq_true rfl]
        exact k H9 r2 q9 (Z2.trans ((LStep.ext G2 xb).trans (LStep.of g9))) (tabsL_step tt (G2.extN xb) g9)
end
end JF

/-! ### law k26: a full square, one cell more -/
namespace JF
open PySem PySem.Spec PyProof.Rows L2
theorem lives_plant {S T : Sq} (wS : S.wf) (wT : T.wf) (lS : 1 ≤ S.level) (lT : 1 ≤ T.level) {x y s : Int} (s0 : s ≠ 0) (h0 : S.val x y = 0) (hv : ∀ u v, T.val u v = if u = x ∧ v = y then s else S.val u v) : T.lives = S.lives + 1 := by
  have nin : [y, x, s] ∉ S.cells := fun m => by
    obtain ⟨u, v, h1, h2⟩ := (mem_cells wS lS _).mp m
    simp only [List.cons.injEq, and_true] at h2
    obtain ⟨rfl, rfl, _⟩ := h2
    exact h1 h0
  have p : T.cells.Perm ([y, x, s] :: S.cells) := perm_of_mem (cells_nodup wT) (List.nodup_cons.mpr ⟨nin, cells_nodup wS⟩) fun t => by
    rw [mem_cells wT lT, List.mem_cons, mem_cells wS lS]
    constructor
    · rintro ⟨u, v, h1, rfl⟩
      rw [hv] at h1 ⊢
      by_cases c : u = x ∧ v = y
      · rw [if_pos c] at h1 ⊢
        rw [c.1, c.2]
        exact .inl rfl
      · rw [if_neg c] at h1 ⊢
        exact .inr ⟨u, v, h1, rfl⟩
    · rintro (rfl | ⟨u, v, h1, rfl⟩)
      · exact ⟨x, y, by rw [hv, if_pos ⟨rfl, rfl⟩]; exact s0, by rw [hv, if_pos ⟨rfl, rfl⟩]⟩
      · have c : ¬ (u = x ∧ v = y) := fun z => h1 (by rw [z.1, z.2]; exact h0)
        exact ⟨u, v, by rw [hv, if_neg c]; exact h1, by rw [hv, if_neg c]⟩
  have e := p.length_eq
  rw [List.length_cons] at e
  have e1 : (T.cells.length : Int) = T.lives := wi_len T _ _
  have e2 : (S.cells.length : Int) = S.lives := wi_len S _ _
  omega
theorem val_even6 (s u v : Int) : (Sq.even 6 s).val u v = if -32 ≤ u ∧ u < 32 ∧ -32 ≤ v ∧ v < 32 then s else 0 := by
  have h : (Sq.even 6 s).half = 32 := by
    unfold Sq.half
    rw [Sq.level_even]
    decide
  unfold Sq.val
  rw [h, Sq.get_even]
/-- its rows, as they are told -/
def rowF (s : Int) : List (List Int) := (List.range 4096).map fun k : Nat => [(k : Int) / 64 - 32, (k : Int) % 64 - 32, s]
theorem rowF_srt (s : Int) : SrtL (rowF s) := by
  unfold rowF
  refine List.pairwise_map.mpr (List.pairwise_lt_range.imp_of_mem fun {a b} ha hb lt => ?_)
  have := List.mem_range.mp ha
  have := List.mem_range.mp hb
  simp only [lexL]
  have h1 : ¬ (b : Int) / 64 - 32 < (a : Int) / 64 - 32 := by omega
  by_cases e : (b : Int) / 64 - 32 = (a : Int) / 64 - 32
  · have h2 : ¬ (b : Int) % 64 - 32 < (a : Int) % 64 - 32 := by omega
    have h3 : ¬ (b : Int) % 64 - 32 = (a : Int) % 64 - 32 := by omega
    simp [h1, h2, h3]
  · simp [h1, e]
theorem rowF_nodup (s : Int) : (rowF s).Nodup := by
  unfold rowF
  refine List.pairwise_map.mpr (List.pairwise_lt_range.imp_of_mem fun {a b} ha hb lt e => ?_)
  simp only [List.cons.injEq, and_true] at e
  omega
theorem rowF_perm {s : Int} (s0 : 1 ≤ s) (s7 : s ≤ 7) : (rowF s).Perm (Sq.even 6 s).cells := perm_of_mem (rowF_nodup s) (cells_nodup (Sq.wf_even (by omega) s7 _)) fun t => by
  rw [mem_cells (Sq.wf_even (by omega) s7 _) (by rw [Sq.level_even]; decide)]
  unfold rowF
  rw [List.mem_map]
  constructor
  · rintro ⟨k, hk, rfl⟩
    have := List.mem_range.mp hk
    have e : (Sq.even 6 s).val ((k : Int) % 64 - 32) ((k : Int) / 64 - 32) = s := by rw [val_even6, if_pos (by omega)]
    exact ⟨(k : Int) % 64 - 32, (k : Int) / 64 - 32, by rw [e]; omega, by rw [e]⟩
  · rintro ⟨x, y, h, rfl⟩
    rw [val_even6] at h ⊢
    by_cases c : -32 ≤ x ∧ x < 32 ∧ -32 ≤ y ∧ y < 32
    · rw [if_pos c] at h ⊢
      refine ⟨((y + 32) * 64 + (x + 32)).toNat, List.mem_range.mpr (by omega), ?_⟩
      have e : ((((y + 32) * 64 + (x + 32)).toNat : Nat) : Int) = (y + 32) * 64 + (x + 32) := Int.toNat_of_nonneg (by omega)
      rw [e]
      simp only [List.cons.injEq, and_true]
      omega
    · rw [if_neg c] at h
      exact (h rfl).elim
end JF

/-! ### law k26: many cells -/
namespace JF
open PySem PySem.Spec PyProof.Rows L2 LamX
section
variable {P : Program} {w : World} {K : PySem.W.Frag} {mg : Str → Option Value} {base : Heap}
def sp_many (K : PySem.W.Frag) : Sp := fun vs H Q _ => ∃ (a : GA) (rows : List (Int × Addr)) (q : List Sq) (a0 : Addr) (ns : List Int), vs = [.ref a.g, .ref a0] ∧ GAt (CG K) H a rows q ∧ q.length + 30000 < 15000000 ∧ ScJ K a0 (ns.map V.int) (a.muts rows) H ∧ ns.length ≤ 63 ∧ Tabs (tabsL K) H ∧
  ∀ H' rows' q', LStep (CG K) H a rows q H' rows' q' → q'.length ≤ q.length + 9000 → Tabs (tabsL K) H' → Q (.bl true) H'
set_option maxHeartbeats 32000000 in
theorem ok_many (T : Env fa fn K mg) (TB : ∀ p ∈ tfs, TabB base mg (He.codeOf K p) (He.tabOf K (He.codeOf K p))) : Good P w K mg base CX0 60 ("_law_many", none) ["_law_grove", "_law_script"] (sp_many K) := by
  have GL_w_refused := (okL_refused (P := P) (w := w) (base := base) T 10)
  have GX_cells_of := okX_cells_of (P := P) (w := w) (base := base) T
  have G_cells_of := ok_cells_of (P := P) (w := w) (base := base) T
  have G_w_at := ok_at (P := P) (w := w) (base := base) T
  have G_planted := ok_planted (P := P) (w := w) (base := base) T
  have GX_planted := okX_planted (P := P) (w := w) (base := base) T
  have G_Grove_solid := ok_solid (P := P) (w := w) (base := base) T
  have G_Grove_living := ok_living (P := P) (w := w) (base := base) T
  refine good_mkC T 34 (d := d_w_many) (N := ["_law_grove", "_law_script", "_law_state", "_law_full", "_law_x", "_law_found", "_law_k", "_law_more", "_law_wide"]) (ps := ["_law_grove", "_law_script"]) rfl rfl sc_w_many (fun _ _ _ _ _ _ us hl => match us, hl with | [_, _], _ => rfl) (fun vs H Q E h => ?_) (fun fn_ A outer σ0 H vs Q E hr h => ?_)
  · obtain ⟨a, rows, q, a0, ns, rfl, _⟩ := h; rfl
  · obtain ⟨a, rows, q, a0, ns, rfl, G, hq, S, hlen, tabs, k⟩ := h
    have hu := hu_of hr
    have hsz := sizeBig
    refine ⟨_, (pss_cons (ps_set (i := 2) sc_w_many.nd rfl (Or.inl rfl) (pe_op op_add pe_int (pe_op op_mod (pe_cgK K rfl G_w_at (hr.mono (by decide)) (T.glo 47) (pa_cons (pv 1) (pa_cons pe_int pa_nil))) pe_int)))
      (pss_cons (ps_set (i := 8) sc_w_many.nd rfl (Or.inr rfl) (pe_mgK K rfl (pv 0) (T.cls 9) (T.meth 48) G_Grove_solid (hr.mono (by decide)) (pa_cons (pe_op op_add pe_int (pe_op op_mod (pe_cgK K rfl G_w_at (hr.mono (by decide)) (T.glo 47) (pa_cons (pv 1) (pa_cons pe_int pa_nil))) pe_int)) (pa_cons (pv 2) pa_nil))))
      (pss_cons (ps_set (i := 3) sc_w_many.nd rfl (Or.inl rfl) (pe_mgK K rfl (pv 0) (T.cls 9) (T.meth 48) G_Grove_solid (hr.mono (by decide)) (pa_cons pe_int (pa_cons (pv 2) pa_nil))))
      (pss_cons (ps_set (i := 4) sc_w_many.nd rfl (Or.inl rfl) (pe_op op_add pe_int (pe_op op_mod (pe_cgK K rfl G_w_at (hr.mono (by decide)) (T.glo 47) (pa_cons (pv 1) (pa_cons pe_int pa_nil))) (pe_op op_pow pe_int pe_int))))
      (pss_cons (ps_set (i := 7) sc_w_many.nd rfl (Or.inr rfl) (pe_cgK K rfl G_planted (hr.mono (by decide)) (T.glo 36) (pa_cons (pv 0) (pa_cons (pv 3) (pa_cons (pv 4) (pa_cons (pe_op op_sub (pe_op op_mod (pe_cgK K rfl G_w_at (hr.mono (by decide)) (T.glo 47) (pa_cons (pv 1) (pa_cons pe_int pa_nil))) pe_int) pe_int) (pa_cons pe_int pa_nil)))))))
      (pss_cons (ps_if (PW.pt (pw_or (pt_not (pt_val (pe_lam2 K rfl (T := tabsL K) GL_w_refused (by rfl) (T.glo 50) steady_int (TB _ (List.mem_of_getElem? (i := 0) rfl)) rfl (tl_mem 0 rfl) (tl_u T 0 rfl) (hr.mono (by decide)) (by decide) (show LamS (defScope st_w_many) _ from lamS_by (by decide +kernel)) (by rfl) (fun _ _ _ _ _ => by rfl) (fun A' outer' s' H' E' f' c' hr => by exact (pe_cgX K rfl lamN_takes GX_cells_of (hr.mono (by decide)) (T.glo 49) (pa_cons (pv 0) (pa_cons (pv 8) pa_nil))))))) (pw_or1 (pt_cmpR op_ne (pe_mgK K rfl (pv 0) (T.cls 9) (T.meth 28) G_Grove_living (hr.mono (by decide)) (pa_cons (pv 7) pa_nil)) pe_int (nomark _))))) (pss_one (ps_ret pe_bl)) pss_nil)
      (pss_cons (ps_if (pt_not (pt_val (pe_lam2 K rfl (T := tabsL K) GL_w_refused (by rfl) (T.glo 50) steady_int (TB _ (List.mem_of_getElem? (i := 0) rfl)) rfl (tl_mem 0 rfl) (tl_u T 0 rfl) (hr.mono (by decide)) (by decide) (show LamS (defScope st_w_many) _ from lamS_by (by decide +kernel)) (by rfl) (fun _ _ _ _ _ => by rfl) (fun A' outer' s' H' E' f' c' hr => by exact (pe_cgX K rfl lamN_takes GX_cells_of (hr.mono (by decide)) (T.glo 49) (pa_cons (pv 0) (pa_cons (pv 7) pa_nil))))))) (pss_one (ps_ret pe_bl)) pss_nil)
      (pss_cons (ps_if (pt_cmpR op_ne (pe_op op_mod (pe_cgK K rfl G_w_at (hr.mono (by decide)) (T.glo 47) (pa_cons (pv 1) (pa_cons pe_int pa_nil))) pe_int) pe_int (nomark _)) (pss_one (ps_ret pe_bl)) pss_nil)
      (pss_cons (ps_set (i := 5) sc_w_many.nd rfl (Or.inl rfl) (pe_cgK K rfl G_cells_of (hr.mono (by decide)) (T.glo 49) (pa_cons (pv 0) (pa_cons (pe_cgK K rfl G_planted (hr.mono (by decide)) (T.glo 36) (pa_cons (pv 0) (pa_cons (pv 7) (pa_cons (pv 4) (pa_cons (pe_op op_sub (pe_op op_mod (pe_cgK K rfl G_w_at (hr.mono (by decide)) (T.glo 47) (pa_cons (pv 1) (pa_cons pe_int pa_nil))) pe_int) pe_int) (pa_cons pe_int pa_nil)))))) pa_nil))))
      (pss_cons (ps_if (PW.pt (pw_or (pt_not (pt_val (pe_callB (call_isiK K rfl) (by rfl) (T.free 1) (by decide +kernel) (pa_cons (pv 5) (pa_cons (pe_bltn (v := V.ty "list") rfl (T.free 29) (by decide +kernel) rfl) pa_nil))))) (pw_or1 (pt_cmpR op_ne (pe_callB (call_lenK K rfl) (by rfl) (T.free 8) (by decide +kernel) (pa_cons (pv 5) pa_nil)) pe_int (nomark _))))) (pss_one (ps_ret pe_bl)) pss_nil)
      (pss_cons (ps_for PassesOwn.never rfl (pi_range1 (by rfl) (T.free 42) (pa_cons pe_int pa_nil)) (pg_name (i := 6) sc_w_many.nd rfl (Or.inl rfl)) (pss_one (ps_if (pt_cmpR (op_neDK K rfl hr.units) (pe_ix (ix_listK K rfl) (pv 5) (pv 6) (fun _ _ => rfl)) (pe_tup (pa_cons (pe_op op_sub (pe_op op_mod (pv 6) pe_int) pe_int) (pa_cons (pe_op op_sub (pe_op op_fdivW (pv 6) pe_int) pe_int) (pa_cons (pv 2) pa_nil)))) (nomark _)) (pss_one (ps_ret pe_bl)) pss_nil)))
      (pss_one (ps_ret pe_bl))))))))))))), ?_⟩
    walk_at "rd"
    refine rd_at S.sq (by decide) ?_
    walk_at "rd"
    generalize hst : 1 + atN ns (Int.toNat 2) % 7 = st
    have st0 : 1 ≤ st ∧ st ≤ 7 := by omega
    refine rd_methR G.ob (by rfl) ?_
    walk_at "rd"
    refine rd_at S.sq (by decide) ?_
    walk_at "rd"
    obtain ⟨lw, hlw⟩ := nat_of (show 0 ≤ 7 + atN ns (Int.toNat 3) % 35 by omega)
    have lw0 : 7 ≤ lw ∧ lw ≤ 41 := by omega
    rw [hlw]
    refine ⟨a, rows, q, lw, st, rfl, G, by omega, by omega, st0.2, by omega, fun H1 r1 q1 nw g1 l1 e1 => ?_⟩
    have Z1 := LStep.of g1
    have t1 := tabsL_step tabs G g1
    walk_at "rd"
    refine rd_methR Z1.gat.ob (by rfl) ?_
    walk_at "rd"
    refine ⟨a, r1, q1, 6, st, rfl, Z1.gat, by decide, by omega, st0.2, by omega, fun H2 r2 q2 nf g2 l2 e2 => ?_⟩
    have Z2 := Z1.trans (LStep.of g2)
    have t2 := tabsL_step t1 Z1.gat g2
    have S2 := S.ls Z2
    have e1 := pre_get g2.pre e1
    walk_at "rd"
    refine rd_at S2.sq (by decide) ?_
    walk_at "rd"
    refine rd_I (by refine ⟨by decide, by decide, by decide⟩) ?_
    rw [show (10 : Int) ^ Int.toNat 9 = 1000000000 by decide]
    walk_at "rd"
    have x0 : 32 ≤ 32 + atN ns (Int.toNat 4) % 1000000000 ∧ 32 + atN ns (Int.toNat 4) % 1000000000 < 1000000032 := by omega
    generalize 32 + atN ns (Int.toNat 4) % 1000000000 = x at *
    refine rd_at S2.sq (by decide) ?_
    walk_at "rd"
    generalize hy : atN ns (Int.toNat 5) % 64 - 32 = y
    have y0 : -32 ≤ y ∧ y < 32 := by omega
    have ing : InGround x y := ⟨by omega, by omega, by omega, by omega⟩
    refine ⟨a, r2, q2, nf, _, x, y, 3, rfl, Z2.gat, e2, by rw [Sq.level_even]; decide, by rw [Sq.level_even]; decide, ing, by decide, by decide, by omega, fun H3 r3 q3 nm Tm g3 l3 e3 lo3 hi3 le3 v3 => ?_⟩
    have Z3 := Z2.trans (LStep.of g3)
    have t3 := tabsL_step t2 Z2.gat g3
    have S3 := S2.ls (LStep.of g3)
    have e1 := pre_get g3.pre e1
    have G3 := Z3.gat
    have ll : Tm.lives = 4097 := by
      have := lives_plant (S := Sq.even 6 st) (Sq.wf_even (by omega) st0.2 _) (G3.wf _ (List.mem_of_getElem? e3)) (by rw [Sq.level_even]; decide) lo3 (x := x) (y := y) (s := 3) (by decide) (by rw [val_even6, if_neg (by omega)]) v3
      rw [this, (even_some (show st ≠ 0 by omega) 6).1]
      decide
    clear Z1 Z2 t1 t2 S2 g1 g2 g3 S tabs
    walk_at "rd"
    refine ⟨t3, _, rfl, fun H4 x4 t4 => ?_⟩
    refine ⟨"TooMany", 2, by simp [refF], rfl, Same H4, fun E' Q' hE => ?_, fun H5 H6 s5 s6 => ?_⟩
    · walk_at "rd"
      refine rd_callS ?_
      walk_at "rd"
      refine ⟨a, r3, q3, nw, _, rfl, G3.extN x4, e1, by omega, ?_, hE H4 (Same.refl _)⟩
      rw [(even_some (show st ≠ 0 by omega) lw).1]
      have h7 : (2 : Int) ^ 7 ≤ 2 ^ lw := two_mono lw0.1
      have h8 : (2 : Int) ^ 7 * 2 ^ 7 ≤ 2 ^ lw * 2 ^ lw := Int.mul_le_mul h7 h7 (by decide) (by omega)
      omega
    have x6 := x4.trans (ExtN.of (s5.trans s6))
    have t6 := tabsL_same t4 (s5.trans s6)
    walk_at "rd"
    refine rd_methR ((G3.extN x6).ob) (by rfl) ?_
    walk_at "rd"
    refine ⟨a, r3, q3, nm, Tm, rfl, G3.extN x6, e3, by omega, ?_⟩
    rw [ll]
    walk_at "rd"
    refine ⟨t6, _, rfl, fun H7 x7 t7 => ?_⟩
    have x8 := x6.trans x7
    refine ⟨"TooMany", 2, by simp [refF], rfl, Same H7, fun E' Q' hE => ?_, fun H8 H9 s8 s9 => ?_⟩
    · walk_at "rd"
      refine rd_callS ?_
      walk_at "rd"
      exact ⟨a, r3, q3, nm, Tm, rfl, G3.extN x8, e3, by omega, by rw [ll]; decide, hE H7 (Same.refl _)⟩
    have x9 := x8.trans (ExtN.of (s8.trans s9))
    have t9 := tabsL_same t7 (s8.trans s9)
    have S9 := S3.ext x9
    have G9 := G3.extN x9
    have Z9 := Z3.trans (LStep.ext G3 x9)
    clear x8 t7 x6 t6 x4 t4 s5 s6 s8 s9 x7 S3 t3 Z3 G3
    walk_at "rd"
    refine rd_at S9.sq (by decide) ?_
    walk_at "rd"
    refine ite_nd (fun _ => ?_) (fun _ => ?_)
    · walk_at "rd"
      exact k _ r3 q3 Z9 (by omega) t9
    walk_at "rd"
    refine rd_at S9.sq (by decide) ?_
    walk_at "rd"
    rw [hy]
    refine ⟨a, r3, q3, nm, Tm, x, y, 0, rfl, G9, e3, lo3, hi3, ing, by decide, by decide, by omega, fun HA rA qA nb Tb gA lA eA loA hiA leA vA => ?_⟩
    have wb := gA.gat.wf _ (List.mem_of_getElem? eA)
    have we : (Sq.even 6 st).wf := Sq.wf_even (by omega) st0.2 _
    have pv : ∀ u v, Tb.val u v = (Sq.even 6 st).val u v := fun u v => by
      rw [vA]
      by_cases c : u = x ∧ v = y
      · rw [if_pos c, val_even6, if_neg (by omega)]
      · rw [if_neg c, v3, if_neg c]
    have pc : Tb.cells.Perm (rowF st) := (perm_of_mem (cells_nodup wb) (cells_nodup we) fun t => by
      rw [mem_cells wb loA, mem_cells we (by rw [Sq.level_even]; decide)]
      simp only [pv]).trans (rowF_perm st0.1 st0.2).symm
    have lb : Tb.lives = 4096 := by
      have e := pc.length_eq
      have e1 : (Tb.cells.length : Int) = Tb.lives := wi_len Tb _ _
      have e2 : (rowF st).length = 4096 := by unfold rowF; rw [List.length_map, List.length_range]
      omega
    have tA := tabsL_step t9 G9 gA
    have ZA := Z9.trans (LStep.of gA)
    have lqA : qA.length ≤ q.length + 8900 := by omega
    clear Z9 t9 S9 G9 vA pv
    walk_at "rd"
    refine ⟨a, rA, qA, nb, Tb, rfl, gA.gat, eA, loA, by omega, by omega, by omega, fun HB l cs sB hl hTL srt pm => ?_⟩
    have ecs : cs.map yx = rowF st := srtL_eq srt (rowF_srt st) (pm.trans pc)
    obtain ⟨ts, hl1, hTR⟩ := hTL
    have lcs : cs.length = 4096 := by
      have := congrArg List.length ecs
      rw [List.length_map] at this
      rw [this]
      unfold rowF
      rw [List.length_map, List.length_range]
    have lts : ts.length = 4096 := by
      have := hTR.len
      rw [List.length_map] at this
      omega
    walk_at "rd"
    refine isi_ty (.base (.lst hl1)) (by decide +kernel : kitB "list" "list" = some true) ?_
    walk_at "rd"
    refine rd_len (SqL.of hl1) ?_
    rw [List.length_map, lts]
    walk_at "rd"
    refine ⟨4096, rfl, by decide, by decide, ?_⟩
    refine for_it (walk_r0 (n := 4096)) (fun i σ Hx => ∃ x6 : Option V, σ = [some (.ref a.g), some (.ref a0), some (.int st), some (.int (nf : Int)), some (.int x), some (.ref l), x6, some (.int (nm : Int)), some (.int (nw : Int))] ∧ Same HB Hx) ⟨none, rfl, Same.refl _⟩ (fun _ _ _ _ _ => trivial) ?_ ?_
    · rintro i v σ Hc Hd hi ⟨x6, rfl, sm⟩ ⟨rfl, rfl⟩
      have i4 : i < 4096 := hi
      obtain ⟨c, hc⟩ : ∃ c, cs[i]? = some c := ⟨_, at_get (by omega)⟩
      have hyx : yx c = [(i : Int) / 64 - 32, (i : Int) % 64 - 32, st] := by
        have h1 : (cs.map yx)[i]? = some (yx c) := by rw [List.getElem?_map, hc]; rfl
        rw [ecs] at h1
        unfold rowF at h1
        rw [List.getElem?_map, List.getElem?_range i4] at h1
        exact (Option.some.inj h1).symm
      obtain ⟨cx, cy, cz⟩ := c
      simp only [yx, List.cons.injEq, and_true] at hyx
      obtain ⟨rfl, rfl, rfl⟩ := hyx
      obtain ⟨r, hr1, hr2⟩ : ∃ r, ts[i]? = some r ∧ HB r = some (.tup ([(i : Int) % 64 - 32, (i : Int) / 64 - 32, cz].map V.int)) := by
        obtain ⟨z, hz1, hz2⟩ := hTR.get (at_get (show i < ts.length by omega))
        rw [List.getElem?_map, hc] at hz1
        cases hz1
        exact ⟨_, at_get (by omega), hz2⟩
      walk_at "rd"
      refine rd_ixL (SqL.of (sm _ _ hl1)) (atI_nat (j := i) (by rw [List.getElem?_map, hr1]; rfl)) ?_
      walk_at "rd"
      refine rd_new (hn := by show 3 ≤ sizeLine; decide) fun t ht => ?_
      have s2 := same_upd (o := HO.tup [V.int ((i : Int) % 64 - 32), V.int ((i : Int) / 64 - 32), V.int cz]) ht
      refine rd_neDT (ns := [(i : Int) % 64 - 32, (i : Int) / 64 - 32, cz]) (ms := [(i : Int) % 64 - 32, (i : Int) / 64 - 32, cz]) (s2 _ _ (sm _ _ hr2)) upd_same ?_
      rw [eqvT_refl]
      walk_at "rd"
      exact ⟨_, rfl, sm.trans s2⟩
    · rintro σ Hx ⟨x6, rfl, sm⟩
      walk_at "rd"
      exact k _ rA qA (ZA.trans (LStep.ext gA.gat (ExtN.of (sB.trans sm)))) (by omega) (tabsL_same tA (sB.trans sm))
end
end JF

/-! ### law k26: the law -/
namespace JF
open PySem PySem.Spec PyProof.Rows L2 LamX
/-! #### cells of any kind in a list -/
def TRV (H : Hp) (rs : List Addr) (cs : List CellV) : Prop := rs.length = cs.length ∧ ∀ (i : Nat) r (c : CellV), rs[i]? = some r → cs[i]? = some c → H r = some (.tup [.int c.1, .int c.2.1, c.2.2])
def cvOf (c : Cell3) : CellV := (c.1, c.2.1, .int c.2.2)
section
variable {H H' : Hp} {rs rs' : List Addr} {cs cs' : List CellV}
theorem TRV.of {cl : List Cell3} (h : TR H rs (cl.map c3)) : TRV H rs (cl.map cvOf) := by
  refine ⟨by rw [h.len, List.length_map, List.length_map], fun i r c hr hc => ?_⟩
  obtain ⟨x, hx, ht⟩ := h.get hr
  rw [List.getElem?_map] at hx hc
  cases e : cl[i]? with
  | none => rw [e] at hx; cases hx
  | some d =>
    rw [e] at hx hc
    cases hx; cases hc
    exact ht
theorem TRV.app (h : TRV H rs cs) (h' : TRV H rs' cs') : TRV H (rs ++ rs') (cs ++ cs') := by
  refine ⟨by rw [List.length_append, List.length_append, h.1, h'.1], fun i r c hr hc => ?_⟩
  rcases Nat.lt_or_ge i rs.length with z | z
  · rw [List.getElem?_append_left z] at hr
    rw [List.getElem?_append_left (by rw [← h.1]; exact z)] at hc
    exact h.2 i r c hr hc
  · rw [List.getElem?_append_right z] at hr
    rw [List.getElem?_append_right (by rw [← h.1]; exact z)] at hc
    rw [← h.1] at hc
    exact h'.2 _ r c hr hc
theorem TRV.take (n : Nat) (h : TRV H rs cs) : TRV H (rs.take n) (cs.take n) := by
  refine ⟨by rw [List.length_take, List.length_take, h.1], fun i r c hr hc => ?_⟩
  rw [List.getElem?_take] at hr hc
  split at hr
  · rename_i z
    rw [if_pos z] at hc
    exact h.2 i r c hr hc
  · cases hr
theorem TRV.drop (n : Nat) (h : TRV H rs cs) : TRV H (rs.drop n) (cs.drop n) := by
  refine ⟨by rw [List.length_drop, List.length_drop, h.1], fun i r c hr hc => ?_⟩
  rw [List.getElem?_drop] at hr hc
  exact h.2 _ r c hr hc
theorem TRV.one {r : Addr} {x y : Int} {s : V} (h : H r = some (.tup [.int x, .int y, s])) : TRV H [r] [(x, y, s)] :=
  ⟨rfl, fun i r' c hr hc => by
    cases i with
    | zero => cases hr; cases hc; exact h
    | succ i => cases hr⟩
theorem TRV.keep (k : ∀ b ys, H b = some (.tup ys) → H' b = some (.tup ys)) (h : TRV H rs cs) : TRV H' rs cs := ⟨h.1, fun i r c hr hc => k _ _ (h.2 i r c hr hc)⟩
def insC (cv : List CellV) (j : Nat) (c : CellV) : List CellV := cv.take j ++ [c] ++ cv.drop j
theorem insC_at {cv r : List CellV} {j : Nat} {c : CellV} (h : j ≤ cv.length) : (insC cv j c ++ r)[j]? = some c := by
  unfold insC
  rw [List.append_assoc, List.append_assoc, List.getElem?_append_right (by rw [List.length_take]; omega), List.length_take, Nat.min_eq_left h, Nat.sub_self]
  rfl
theorem insC_good {cv r : List CellV} {j : Nat} {c : CellV} (h : j ≤ cv.length) (hg : ∀ d ∈ cv, GoodC d) (i : Nat) (d : CellV) (hi : i < j) (e : (insC cv j c ++ r)[i]? = some d) : GoodC d := by
  unfold insC at e
  rw [List.append_assoc, List.append_assoc, List.getElem?_append_left (by rw [List.length_take]; omega)] at e
  exact hg d (List.mem_of_mem_take (List.mem_of_getElem? e))
theorem insC_len {cv : List CellV} {j : Nat} {c : CellV} (h : j ≤ cv.length) : (insC cv j c).length = cv.length + 1 := by
  unfold insC
  rw [List.length_append, List.length_append, List.length_take, List.length_drop, Nat.min_eq_left h]
  show j + 1 + _ = _
  omega
end
theorem layC_off' : ∀ (cs : List Cell3) (v : Int → Int → Int) (x y : Int), (x, y) ∉ cs.map (fun c => (c.1, c.2.1)) → layC v cs x y = v x y
  | [], _, _, _, _ => rfl
  | c :: cs, v, x, y, h => by
    rw [List.map_cons, List.mem_cons, not_or] at h
    show layC (fun u w => if u = c.1 ∧ w = c.2.1 then c.2.2 else v u w) cs x y = v x y
    rw [layC_off' cs _ x y h.2, if_neg (fun z => h.1 (by rw [z.1, z.2]))]
theorem layC_mem' : ∀ (cs : List Cell3) (f : Int → Int → Int) (x y s : Int), (cs.map fun c => (c.1, c.2.1)).Nodup → (x, y, s) ∈ cs → layC f cs x y = s
  | [], _, _, _, _, _, h => by cases h
  | c :: cs, f, x, y, s, nd, h => by
    rw [List.map_cons, List.nodup_cons] at nd
    rcases List.mem_cons.mp h with h | h
    · subst h
      show layC (fun u v => if u = x ∧ v = y then s else f u v) cs x y = s
      rw [layC_off' cs _ x y nd.1, if_pos ⟨rfl, rfl⟩]
    · exact layC_mem' cs _ x y s nd.2 h
theorem layC_in : ∀ (cs : List Cell3) (f : Int → Int → Int) (x y : Int), layC f cs x y = f x y ∨ ∃ c ∈ cs, c = (x, y, layC f cs x y)
  | [], _, _, _ => .inl rfl
  | c :: cs, f, x, y => by
    rcases layC_in cs (fun u v => if u = c.1 ∧ v = c.2.1 then c.2.2 else f u v) x y with e | ⟨d, hd, e⟩
    · show layC (fun u v => if u = c.1 ∧ v = c.2.1 then c.2.2 else f u v) cs x y = f x y ∨ ∃ d ∈ c :: cs, d = (x, y, layC (fun u v => if u = c.1 ∧ v = c.2.1 then c.2.2 else f u v) cs x y)
      rw [e]
      by_cases z : x = c.1 ∧ y = c.2.1
      · refine .inr ⟨c, List.mem_cons_self, ?_⟩
        rw [if_pos z, z.1, z.2]
      · rw [if_neg z]; exact .inl rfl
    · exact .inr ⟨d, List.mem_cons_of_mem _ hd, e⟩
/-- unlike places, each living: the field's cells are these -/
theorem cells_list {cl : List Cell3} (nd : (cl.map fun c => (c.1, c.2.1)).Nodup) (h0 : ∀ c ∈ cl, c.2.2 ≠ 0) {S : Sq} (w : S.wf) (l : 1 ≤ S.level) (e : ∀ x y, S.val x y = layC (fun _ _ => 0) cl x y) : (cl.map yx).Perm S.cells := by
  refine perm_of_mem (List.pairwise_map.mpr ((List.pairwise_map.mp nd).imp fun {a b} ne z => ?_)) (cells_nodup w) fun t => ?_
  · simp only [yx, List.cons.injEq, and_true] at z
    exact ne (by rw [z.1, z.2.1])
  · rw [mem_cells w l]
    simp only [e]
    constructor
    · intro m
      obtain ⟨c, hc, rfl⟩ := List.mem_map.mp m
      have q := layC_mem' cl (fun _ _ => 0) c.1 c.2.1 c.2.2 nd hc
      exact ⟨c.1, c.2.1, by rw [q]; exact h0 c hc, by rw [q]; rfl⟩
    · rintro ⟨x, y, ne, rfl⟩
      rcases layC_in cl (fun _ _ => 0) x y with z | ⟨c, hc, z⟩
      · exact absurd z ne
      · exact List.mem_map.mpr ⟨c, hc, by rw [z]; rfl⟩
section
variable {P : Program} {w : World} {K : PySem.W.Frag} {mg : Str → Option Value} {base : Heap}
def sp_lawT (K : PySem.W.Frag) : Sp := fun vs H Q _ => ∃ (a : Addr) (ns : List Int), vs = [.ref a] ∧ SqL K H a (ns.map V.int) ∧ ns.length ≤ 63 ∧ Tabs (tabsL K) H ∧ ∀ H', Q (.bl true) H'
theorem sp_lawT_in {K : PySem.W.Frag} (H : Hp) (a : Addr) (ns : List Int) (hl : ns.length ≤ 63) (hT : ∀ p ∈ tfs, H (He.cT K p).2 = some (.tbl #[])) (hS : SqL K H a (ns.map V.int)) : sp_lawT K [.ref a] H (fun v _ => v = .bl true) (fun _ _ _ => False) :=
  ⟨a, ns, rfl, hS, hl, fun p hp => by
    obtain ⟨q, hq, rfl⟩ := List.mem_map.mp hp
    exact TabS.nil (hT q hq), fun _ => rfl⟩
def lawLevel : Nat := 70
set_option maxHeartbeats 64000000 in
theorem ok_law (T : Env fa fn K mg) (TB : ∀ p ∈ tfs, TabB base mg (He.codeOf K p) (He.tabOf K (He.codeOf K p))) : Good P w K mg base CX0 lawLevel ("law", none) ["_law_script"] (sp_lawT K) := by
  have G_Grove_init := ok_ginit (P := P) (w := w) (base := base) T
  have GL_w_refused := (okL_refused (P := P) (w := w) (base := base) T 60)
  have GX_planted := okX_planted (P := P) (w := w) (base := base) T
  have G_planted := ok_planted (P := P) (w := w) (base := base) T
  have GX_field_of := okX_field_of (P := P) (w := w) (base := base) T
  have G_field_of := ok_field_of (P := P) (w := w) (base := base) T
  have G_cells_of := ok_cells_of (P := P) (w := w) (base := base) T
  have G_w_at := ok_at (P := P) (w := w) (base := base) T
  have G_w_odd_cell := ok_oddCell (P := P) (w := w) (base := base) T
  have G_w_many := ok_many (P := P) (w := w) (base := base) T TB
  have G_w_levels := ok_levelsF (P := P) (w := w) (base := base) T TB
  refine good_mkC T 36 (d := d_law) (N := ["_law_script", "_law_cells", "_law_k", "_law_at_here", "_law_beside", "_law_due", "_law_later", "_law_field", "_law_grove", "_law_one", "_law_other", "_law_row", "_law_x", "_law_y", "_law_state"]) (ps := ["_law_script"]) rfl rfl sc_law (fun _ _ _ _ _ _ us hl => match us, hl with | [_], _ => rfl) (fun vs H Q E h => ?_) (fun fn_ A outer σ0 H vs Q E hr h => ?_)
  · obtain ⟨a, ns, rfl, _⟩ := h; rfl
  · obtain ⟨a0, ns, rfl, hS, hlen, tabs, k⟩ := h
    have hu := hu_of hr
    have hsz := sizeBig
    refine ⟨_, (pss_cons (ps_if (PW.pt (pw_or (pt_not (pt_val (pe_callB (call_isiK K rfl) (by rfl) (T.free 1) (by decide +kernel) (pa_cons (pe_gint (T.int 22) rfl) (pa_cons (pe_bltn (v := V.ty "int") rfl (T.free 2) (by decide +kernel) rfl) pa_nil))))) (pw_or1 (pt_cmpR op_ne (pe_gint (T.int 22) rfl) (pe_op op_pow pe_int pe_int) (nomark _))))) (pss_one (ps_ret pe_bl)) pss_nil)
      (pss_cons (ps_set (i := 8) sc_law.nd rfl (Or.inr rfl) (pe_mk0K K rfl (T.mkr 51) G_Grove_init (hr.mono (by decide)) (T.glo 52)))
      (pss_cons (ps_set (i := 1) sc_law.nd rfl (Or.inl rfl) (pe_lst pa_nil))
      (pss_cons (ps_for PassesOwn.never rfl (pi_range1 (by rfl) (T.free 42) (pa_cons (pe_op op_mod (pe_cgK K rfl G_w_at (hr.mono (by decide)) (T.glo 47) (pa_cons (pv 0) (pa_cons pe_int pa_nil))) pe_int) pa_nil)) (pg_name (i := 2) sc_law.nd rfl (Or.inl rfl)) (pss_one (ps_expr (pe_bm PySem.F.plainAttrs_list PySem.F.slot_list_append PySem.F.type_list_append mt_append (pv 1) (pa_cons (pe_tup (pa_cons (pe_op op_sub (pe_op op_mulW pe_int (pv 2)) pe_int) (pa_cons (pe_op op_sub (pe_op op_mod (pe_cgK K rfl G_w_at (hr.mono (by decide)) (T.glo 47) (pa_cons (pv 0) (pa_cons (pe_op op_add pe_int (pv 2)) pa_nil))) pe_int) pe_int) (pa_cons (pe_op op_add pe_int (pe_op op_mod (pe_cgK K rfl G_w_at (hr.mono (by decide)) (T.glo 47) (pa_cons (pv 0) (pa_cons (pe_op op_add pe_int (pv 2)) pa_nil))) pe_int)) pa_nil)))) pa_nil)))))
      (pss_cons (ps_set (i := 7) sc_law.nd rfl (Or.inr rfl) (pe_cgK K rfl G_field_of (hr.mono (by decide)) (T.glo 53) (pa_cons (pv 8) (pa_cons (pe_callTy (call_listK K rfl) (by rfl) (T.free 29) (by decide +kernel) (pa_cons (pv 1) pa_nil)) pa_nil))))
      (pss_cons (ps_for PassesOwn.never rfl (pi_range2 (by rfl) (T.free 42) (pa_cons pe_int (pa_cons (pe_callB (call_max2 rfl) (by rfl) (T.free 4) (by decide +kernel) (pa_cons pe_int (pa_cons (pe_callB (call_min2 rfl) (by rfl) (T.free 3) (by decide +kernel) (pa_cons (pe_callB (call_lenK K rfl) (by rfl) (T.free 8) (by decide +kernel) (pa_cons (pv 0) pa_nil)) (pa_cons pe_int pa_nil))) pa_nil))) pa_nil))) (pg_name (i := 3) sc_law.nd rfl (Or.inl rfl)) (pss_cons (ps_set (i := 4) sc_law.nd rfl (Or.inl rfl) (pe_op op_sub (pe_op op_mod (pe_cgK K rfl G_w_at (hr.mono (by decide)) (T.glo 47) (pa_cons (pv 0) (pa_cons pe_int pa_nil))) pe_int) pe_int))
      (pss_cons (ps_asg (pe_cgK K rfl G_w_odd_cell (hr.mono (by decide)) (T.glo 54) (pa_cons (pe_cgK K rfl G_w_at (hr.mono (by decide)) (T.glo 47) (pa_cons (pv 0) (pa_cons (pv 3) pa_nil))) (pa_cons (pv 4) pa_nil))) (pg_tup rfl (pgs_cons (pg_name (i := 9) sc_law.nd rfl (Or.inr rfl)) (pgs_cons (pg_name (i := 5) sc_law.nd rfl (Or.inl rfl)) pgs_nil))))
      (pss_cons (ps_asg (pe_cgK K rfl G_w_odd_cell (hr.mono (by decide)) (T.glo 54) (pa_cons (pe_cgK K rfl G_w_at (hr.mono (by decide)) (T.glo 47) (pa_cons (pv 0) (pa_cons (pe_op op_add (pv 3) pe_int) pa_nil))) (pa_cons (pv 4) pa_nil))) (pg_tup rfl (pgs_cons (pg_name (i := 10) sc_law.nd rfl (Or.inr rfl)) (pgs_cons (pg_name (i := 6) sc_law.nd rfl (Or.inl rfl)) pgs_nil))))
      (pss_cons (ps_if (pt_not (pt_val (pe_lam2 K rfl (T := tabsL K) GL_w_refused (by rfl) (T.glo 50) (steady_var (i := 5) rfl (by first | exact Or.inl rfl | exact Or.inr (Or.inl rfl) | exact Or.inr (Or.inr rfl))) (TB _ (List.mem_of_getElem? (i := 2) rfl)) rfl (tl_mem 2 rfl) (tl_u T 2 rfl) (hr.mono (by decide)) (by decide) (show LamS (defScope st_law) _ from lamS_by (by decide +kernel)) (by rfl) (fun _ _ _ _ _ => by rfl) (fun A' outer' s' H' E' f' c' hr => by exact (pe_or (pe_cgX K rfl lamN_takes GX_planted (hr.mono (by decide)) (T.glo 36) (pa_cons (pv 8) (pa_cons (pv 7) (pa_cons (pe_ix (ix_tupK K rfl) (pv 9) pe_int (fun _ _ => rfl)) (pa_cons (pe_ix (ix_tupK K rfl) (pv 9) pe_int (fun _ _ => rfl)) (pa_cons (pe_ix (ix_tupK K rfl) (pv 9) pe_int (fun _ _ => rfl)) pa_nil)))))) (pe_cgK K rfl G_planted (hr.mono (by decide)) (T.glo 36) (pa_cons (pv 8) (pa_cons (pv 7) (pa_cons (pe_ix (ix_tupK K rfl) (pv 9) pe_int (fun _ _ => rfl)) (pa_cons (pe_ix (ix_tupK K rfl) (pv 9) pe_int (fun _ _ => rfl)) (pa_cons (pe_ix (ix_tupK K rfl) (pv 9) pe_int (fun _ _ => rfl)) pa_nil))))))))))) (pss_one (ps_ret pe_bl)) pss_nil)
      (pss_cons (ps_set (i := 11) sc_law.nd rfl (Or.inr rfl) (pe_callTy (call_listK K rfl) (by rfl) (T.free 29) (by decide +kernel) (pa_cons (pv 1) pa_nil)))
      (pss_cons (ps_expr (pe_bm PySem.F.plainAttrs_list PySem.F.slot_list_insert PySem.F.type_list_insert mt_insert (pv 11) (pa_cons (pe_op op_mod (pe_cgK K rfl G_w_at (hr.mono (by decide)) (T.glo 47) (pa_cons (pv 0) (pa_cons (pe_op op_add (pv 3) pe_int) pa_nil))) (pe_op op_add (pe_callB (call_lenK K rfl) (by rfl) (T.free 8) (by decide +kernel) (pa_cons (pv 11) pa_nil)) pe_int)) (pa_cons (pv 9) pa_nil))))
      (pss_cons (ps_if (pt_not (pt_val (pe_lam2 K rfl (T := tabsL K) GL_w_refused (by rfl) (T.glo 50) (steady_var (i := 5) rfl (by first | exact Or.inl rfl | exact Or.inr (Or.inl rfl) | exact Or.inr (Or.inr rfl))) (TB _ (List.mem_of_getElem? (i := 2) rfl)) rfl (tl_mem 2 rfl) (tl_u T 2 rfl) (hr.mono (by decide)) (by decide) (show LamS (defScope st_law) _ from lamS_by (by decide +kernel)) (by rfl) (fun _ _ _ _ _ => by rfl) (fun A' outer' s' H' E' f' c' hr => by exact (pe_cgX K rfl lamN_takes GX_field_of (hr.mono (by decide)) (T.glo 53) (pa_cons (pv 8) (pa_cons (pe_op op_cat (pv 11) (pe_lst (pa_cons (pv 10) pa_nil))) pa_nil))))))) (pss_one (ps_ret pe_bl)) pss_nil)
      (pss_one (ps_if (pt_not (pt_val (pe_lam2 K rfl (T := tabsL K) GL_w_refused (by rfl) (T.glo 50) (steady_var (i := 6) rfl (by first | exact Or.inl rfl | exact Or.inr (Or.inl rfl) | exact Or.inr (Or.inr rfl))) (TB _ (List.mem_of_getElem? (i := 2) rfl)) rfl (tl_mem 2 rfl) (tl_u T 2 rfl) (hr.mono (by decide)) (by decide) (show LamS (defScope st_law) _ from lamS_by (by decide +kernel)) (by rfl) (fun _ _ _ _ _ => by rfl) (fun A' outer' s' H' E' f' c' hr => by exact (pe_cgX K rfl lamN_takes GX_field_of (hr.mono (by decide)) (T.glo 53) (pa_cons (pv 8) (pa_cons (pe_op op_cat (pe_lst (pa_cons (pv 10) pa_nil)) (pv 11)) pa_nil))))))) (pss_one (ps_ret pe_bl)) pss_nil))))))))))
      (pss_cons (ps_set (i := 5) sc_law.nd rfl (Or.inl rfl) (pe_callB (cr_sortTLK K rfl) (by rfl) (T.free 39) (by decide +kernel) (pa_cons (pe_lc (own := [("_law_x", 12), ("_law_y", 13), ("_law_state", 14)]) (tt := tYes) rfl sc_law.nd (pi_listK K rfl (pv 1)) (blkOk_by (own := [("_law_x", 12), ("_law_y", 13), ("_law_state", 14)]) (N := ["_law_script", "_law_cells", "_law_k", "_law_at_here", "_law_beside", "_law_due", "_law_later", "_law_field", "_law_grove", "_law_one", "_law_other", "_law_row", "_law_x", "_law_y", "_law_state"]) (sc := defScope st_law) (by decide +kernel)) (fun _ _ _ _ _ => by exact (pg_tupK K rfl (n := 3) rfl (pgs_cons (pg_name (i := 12) sc_law.nd rfl (Or.inl rfl)) (pgs_cons (pg_name (i := 13) sc_law.nd rfl (Or.inl rfl)) (pgs_cons (pg_name (i := 14) sc_law.nd rfl (Or.inl rfl)) pgs_nil))))) (fun _ _ _ _ _ => by exact pts_nil) (fun _ _ _ _ _ => by exact (pe_tup (pa_cons (pv 13) (pa_cons (pv 12) (pa_cons (pv 14) pa_nil)))))) pa_nil)))
      (pss_cons (ps_if (PW.pt (pw_or (pt_cmpR (op_neDK K rfl hr.units) (pe_cgK K rfl G_cells_of (hr.mono (by decide)) (T.glo 49) (pa_cons (pv 8) (pa_cons (pv 7) pa_nil))) (pe_lc (own := [("_law_y", 13), ("_law_x", 12), ("_law_state", 14)]) (tt := tYes) rfl sc_law.nd (pi_listK K rfl (pv 5)) (blkOk_by (own := [("_law_y", 13), ("_law_x", 12), ("_law_state", 14)]) (N := ["_law_script", "_law_cells", "_law_k", "_law_at_here", "_law_beside", "_law_due", "_law_later", "_law_field", "_law_grove", "_law_one", "_law_other", "_law_row", "_law_x", "_law_y", "_law_state"]) (sc := defScope st_law) (by decide +kernel)) (fun _ _ _ _ _ => by exact (pg_tupK K rfl (n := 3) rfl (pgs_cons (pg_name (i := 13) sc_law.nd rfl (Or.inl rfl)) (pgs_cons (pg_name (i := 12) sc_law.nd rfl (Or.inl rfl)) (pgs_cons (pg_name (i := 14) sc_law.nd rfl (Or.inl rfl)) pgs_nil))))) (fun _ _ _ _ _ => by exact pts_nil) (fun _ _ _ _ _ => by exact (pe_tup (pa_cons (pv 12) (pa_cons (pv 13) (pa_cons (pv 14) pa_nil)))))) (nomark _)) (pw_or1 (pt_cmpR op_ne (pe_cgK K rfl G_field_of (hr.mono (by decide)) (T.glo 53) (pa_cons (pv 8) (pa_cons (pv 1) pa_nil))) (pv 7) (nomark _))))) (pss_one (ps_ret pe_bl)) pss_nil)
      (pss_one (ps_ret (pe_and (pe_cgK K rfl G_w_many (hr.mono (by decide)) (T.glo 56) (pa_cons (pv 8) (pa_cons (pv 0) pa_nil))) (pe_one (pe_cgK K rfl G_w_levels (hr.mono (by decide)) (T.glo 55) (pa_cons (pv 8) (pa_cons (pv 7) (pa_cons (pe_cgK K rfl G_w_at (hr.mono (by decide)) (T.glo 47) (pa_cons (pv 0) (pa_cons pe_int pa_nil))) pa_nil)))))))))))))))), ?_⟩
    walk_at "rd"
    refine rd_isiI ?_
    walk_at "rd"
    refine rd_I (by refine ⟨by decide, by decide, by decide⟩) ?_
    rw [show (2 : Int) ^ Int.toNat 40 = 1099511627776 by decide]
    walk_at "rd"
    refine ite_nd (fun z => absurd rfl z) (fun _ => ?_)
    walk_at "rd"
    refine rd_grove fun a H1 G1 hnew1 sm1 => ?_
    have S1 : ScJ K a0 (ns.map V.int) (a.muts []) H1 := (ScJ.of (L := a.muts []) hS fun o e z => by rw [hnew1 _ z] at e; cases e).ext (ExtN.of sm1)
    have t1 := tabsL_same tabs sm1
    clear tabs hS hnew1 sm1
    walk_at "rd"
    refine rd_new (hn := by show 0 ≤ sizeLine; decide) fun pc hpc => ?_
    have s2 := same_upd (o := HO.lst []) hpc
    have S2 := S1.ext (ExtN.of s2)
    walk_at "rd"
    refine rd_at S2.sq (by decide) ?_
    walk_at "rd"
    obtain ⟨many, hmany⟩ := nat_of (Int.emod_nonneg (atN ns (Int.toNat 0)) (show (4 : Int) ≠ 0 by decide))
    have many4 : many < 4 := by omega
    rw [hmany]
    refine ⟨(many : Int), rfl, by omega, by omega, ?_⟩
    refine for_it (walk_r0 (n := many)) (fun i σ Hx => ∃ (x2 : Option V) (cl : List Cell3), σ = [some (.ref a0), some (.ref pc), x2, none, none, none, none, none, some (.ref a.g), none, none, none, none, none, none] ∧ Same H1 Hx ∧ TL Hx pc (cl.map c3) ∧ cl.length = i ∧ (∀ (j : Nat) c, cl[j]? = some c → c.1 = 2 * (j : Int) - 3) ∧ ∀ c ∈ cl, (-3 ≤ c.1 ∧ c.1 ≤ 3) ∧ (-2 ≤ c.2.1 ∧ c.2.1 ≤ 2) ∧ 1 ≤ c.2.2 ∧ c.2.2 ≤ 7) ⟨none, [], rfl, s2, ⟨[], upd_same, trivial⟩, rfl, (fun j c h => by cases h), fun c h => by cases h⟩ (fun _ _ _ _ _ => trivial) ?_ ?_
    · rintro i v σ Ha Hb hi ⟨x2, cl, rfl, sm, ⟨ts, hl, hT⟩, lc, hpl, hc⟩ ⟨rfl, rfl⟩
      have i4 : i < many := hi
      have Sb := S1.ext (ExtN.of sm)
      walk_at "rd"
      refine rd_tyL hl ?_
      walk_at "rd"
      refine rd_I (mulW_of (by omega) (by omega) (by omega) (by omega)) ?_
      walk_at "rd"
      refine rd_at Sb.sq (by omega) ?_
      walk_at "rd"
      refine rd_at Sb.sq (by omega) ?_
      walk_at "rd"
      generalize hA : atN ns (20 + (i : Int)).toNat % 5 - 2 = cy
      generalize hB : 1 + atN ns (24 + (i : Int)).toNat % 7 = cs
      refine rd_new (hn := by show 3 ≤ sizeLine; decide) fun t ht => ?_
      have s3 := same_upd (o := HO.tup [V.int (2 * (i : Int) - 3), V.int cy, V.int cs]) ht
      have T3 : (upd Hb t (HO.tup [V.int (2 * (i : Int) - 3), V.int cy, V.int cs])) t = some (.tup ((c3 (2 * (i : Int) - 3, cy, cs)).map V.int)) := upd_same
      have hl3 := s3 _ _ hl
      have hT3 := TR.app T3 (hT.keep fun b ys e => s3 _ _ e)
      have nt := ne_of_none hl ht
      generalize upd Hb t (HO.tup [V.int (2 * (i : Int) - 3), V.int cy, V.int cs]) = H3 at *
      walk_at "rd"
      refine rd_append hl3 (by rw [List.length_map]; exact small1000 (by have := hT.len; rw [List.length_map] at this; omega)) ?_
      walk_at "rd"
      have hpc1 : H1 pc = none := hpc
      refine ⟨_, cl ++ [(2 * (i : Int) - 3, cy, cs)], rfl, Same.putE (sm.trans s3) hpc1, ⟨ts ++ [t], by rw [upd_same, List.map_append]; rfl, ?_⟩, by rw [List.length_append, lc]; rfl, fun j c h => ?_, fun c h => ?_⟩
      · rw [List.map_append]
        exact TR.keep (fun b ys e => by
          rw [upd_ne (fun z => by rw [z, hl3] at e; cases e)]
          exact e) hT3
      · rcases Nat.lt_or_ge j cl.length with z | z
        · rw [List.getElem?_append_left z] at h
          exact hpl j c h
        · rw [List.getElem?_append_right z] at h
          have ej : j - cl.length = 0 := by
            have := (List.getElem?_eq_some_iff.mp h).1
            rw [List.length_singleton] at this
            omega
          rw [ej] at h
          cases h
          show 2 * (i : Int) - 3 = _
          omega
      · rcases List.mem_append.mp h with h | h
        · exact hc c h
        · rw [List.mem_singleton.mp h]
          exact ⟨⟨by show -3 ≤ 2 * (i : Int) - 3; omega, by show 2 * (i : Int) - 3 ≤ 3; omega⟩, ⟨by show -2 ≤ cy; omega, by show cy ≤ 2; omega⟩, by show 1 ≤ cs; omega, by show cs ≤ 7; omega⟩
    · rintro σ Hx ⟨x2, cl, rfl, sm, ⟨ts, hl, hT⟩, lc, hpl, hc⟩
      have S3 := S1.ext (ExtN.of sm)
      have G3 := G1.same sm
      have t3 := tabsL_same t1 sm
      have npc : pc ∉ a.muts [] := G1.new_out hpc
      have lts : ts.length = cl.length := by have := hT.len; rw [List.length_map] at this; exact this
      clear S2 s2
      walk_at "rd"
      refine ⟨pc, _, rfl, .inl (SqL.of hl), fun p hp => ?_⟩
      have s4 := same_upd (o := HO.lst (ts.map V.ref)) hp
      have L4 : (upd Hx p (HO.lst (ts.map V.ref))) p = some (.lst (ts.map V.ref)) := upd_same
      have np : p ∉ a.muts [] := G3.new_out hp
      have hT4 := hT.keep fun b ys e => s4 _ _ e
      have hl4 := s4 _ _ hl
      have G4 := G3.same s4
      have S4 := S3.ext (ExtN.of s4)
      have t4 := tabsL_same t3 s4
      generalize upd Hx p (HO.lst (ts.map V.ref)) = H4 at *
      clear S3 G3 t3 s4 hp hT hl
      walk_at "rd"
      refine ⟨a, [], [], p, ts, cl, rfl, G4, L4, np, hT4, fun c h => ?_, by omega, by simp; omega, fun H5 r5 q5 nf Tf g5 l5 e5 lo5 hi5 le5 v5 => ?_⟩
      · obtain ⟨⟨c1, c2⟩, ⟨c3', c4⟩, c5, c6⟩ := hc c h
        exact ⟨⟨by omega, by omega, by omega, by omega⟩, by omega, c6⟩
      have Z5 := LStep.of g5
      have S5 := S4.ls Z5
      have t5 := tabsL_step t4 G4 g5
      have l5 : q5.length ≤ 12010 := by simp only [List.length_nil] at l5; omega
      have op := fun (n : pc ∉ a.muts []) => Z5.own pc _ hl4 n (fun _ z => by cases z)
      obtain ⟨hl5, npc5⟩ := op npc
      have hT5 := hT4.keep fun b ys e => (Z5.own b _ e (G4.tup_out e) fun _ z => by cases z).1
      clear op
      walk_at "rd"
      refine rd_len S5.sq ?_
      rw [List.length_map]
      walk_at "rd"
      generalize hm : (if (if (20 : Int) < (ns.length : Int) then (20 : Int) else (ns.length : Int)) > 8 then (if (20 : Int) < (ns.length : Int) then (20 : Int) else (ns.length : Int)) else 8) = m
      have m0 : 8 ≤ m ∧ m ≤ 20 := by
        rw [← hm]
        split <;> split <;> omega
      clear hm
      refine ⟨⟨by omega, by omega, by omega, by omega⟩, ?_⟩
      refine for_it (walk_range (lo := 7) (n := (m - 7).toNat)) (fun i σ Hx => ∃ (r : List (Int × Addr)) (qq : List Sq) (x2 x3 x4 x5 x6 x9 x10 x11 x12 x13 x14 : Option V), σ = [some (.ref a0), some (.ref pc), x2, x3, x4, x5, x6, some (.int (nf : Int)), some (.ref a.g), x9, x10, x11, x12, x13, x14] ∧ LStep (CG K) H5 a r5 q5 Hx r qq ∧ qq.length ≤ q5.length + 50000 * i ∧ Tabs (tabsL K) Hx) ⟨r5, q5, x2, none, none, none, none, none, none, none, none, none, none, rfl, LStep.refl g5.gat, by omega, t5⟩ (fun _ _ _ _ _ => trivial) ?_ ?_
      · rintro i v σ Ha Hb hi ⟨r, qq, x2, x3, x4, x5, x6, x9, x10, x11, x12, x13, x14, rfl, Z, lq, t⟩ ⟨rfl, rfl⟩
        have S := S5.ls Z
        obtain ⟨hl6, npc6⟩ := Z.own pc _ hl5 npc5 (fun _ z => by cases z)
        have hT6 := hT5.keep fun b ys e => (Z.own b _ e (g5.gat.tup_out e) fun _ z => by cases z).1
        walk_at "rd"
        refine rd_at S.sq (by decide) ?_
        walk_at "rd"
        generalize hbs : atN ns (Int.toNat 1) % 9 - 4 = bs
        have ing : InGround bs bs := ⟨by omega, by omega, by omega, by omega⟩
        refine rd_at S.sq (by omega) ?_
        walk_at "rd"
        refine ⟨_, _, rfl, ing, fun H6 o1 o2 ox oy os on ocls s6 O1 O2 od orf => ?_⟩
        walk_at "rd"
        refine rd_at (S.ext (ExtN.of s6)).sq (by omega) ?_
        walk_at "rd"
        refine ⟨_, _, rfl, ing, fun H7 w1 w2 wx wy ws wn wcls s7 W1 W2 wd wrf => ?_⟩
        have O2 := s7 _ _ O2
        have od := od.tups fun b xs e => s7 _ _ e
        have s67 := s6.trans s7
        have G7 := Z.gat.same s67
        have t7 := tabsL_same t s67
        have S7 := S.ext (ExtN.of s67)
        have hl7 := s67 _ _ hl6
        have hT7 := hT6.keep fun b ys e => s67 _ _ e
        walk_at "rd"
        refine ⟨t7, _, rfl, fun H8 x8 t8 => ?_⟩
        have O28 : H8 o2 = some (.tup [V.int ox, .int oy, os]) := x8 _ _ O2 (fun _ z => by cases z)
        refine ⟨ocls, on, orf, rfl, Same H8, fun E' Q' hE => ?_, fun H9 HA s9 sA => ?_⟩
        · walk_at "rd"
          refine .inl ?_
          refine rd_callS ?_
          walk_at "rd"
          exact ⟨a, r, qq, _, os, ox, oy, ocls, rfl, G7.extN x8, od.tups fun b xs e => x8 _ _ e (fun _ z => by cases z), hE H8 (Same.refl _)⟩
        have xA := x8.trans (ExtN.of (s9.trans sA))
        have tA := tabsL_same t8 (s9.trans sA)
        have GA_ := G7.extN xA
        have SA := S7.ext xA
        have hlA := xA _ _ hl7 (fun _ z => by cases z)
        have hTA := hT7.keep fun b ys e => xA _ _ e (fun _ z => by cases z)
        have O2A : HA o2 = some (.tup [V.int ox, .int oy, os]) := xA _ _ O2 (fun _ z => by cases z)
        have W2A : HA w2 = some (.tup [V.int wx, .int wy, ws]) := xA _ _ W2 (fun _ z => by cases z)
        have odA := od.tups fun b xs e => xA _ _ e (fun _ z => by cases z)
        have wdA := wd.tups fun b xs e => xA _ _ e (fun _ z => by cases z)
        clear O28 t8 x8 s9 sA
        walk_at "rd"
        refine ⟨pc, _, rfl, .inl (SqL.of hlA), fun pr hpr => ?_⟩
        have nr : pr ∉ a.muts r := GA_.new_out hpr
        have sB := same_upd (o := HO.lst (ts.map V.ref)) hpr
        have LB : (upd HA pr (HO.lst (ts.map V.ref))) pr = some (.lst (ts.map V.ref)) := upd_same
        generalize upd HA pr (HO.lst (ts.map V.ref)) = HB at *
        walk_at "rd"
        refine rd_tyL LB ?_
        walk_at "rd"
        refine rd_at (SA.ext (ExtN.of sB)).sq (by omega) ?_
        walk_at "rd"
        refine rd_len (SqL.of LB) ?_
        rw [List.length_map]
        walk_at "rd"
        refine rd_mod (by omega) ?_
        have z0 := Int.emod_nonneg (atN ns (7 + (i : Int) + 2).toNat) (show ((ts.length : Int) + 1) ≠ 0 by omega)
        have z1 := Int.emod_lt_of_pos (atN ns (7 + (i : Int) + 2).toNat) (show (0 : Int) < (ts.length : Int) + 1 by omega)
        obtain ⟨j, hj⟩ := nat_of z0
        have jl : j ≤ ts.length := by omega
        have jl' : j ≤ (cl.map cvOf).length := by rw [List.length_map]; omega
        rw [hj]
        walk_at "rd"
        refine ⟨pr, _, _, _, rfl, rfl, LB, by rw [List.length_map]; exact small1000 (by omega), by omega, by omega, ?_⟩
        have eL : (ts.map V.ref).take (j : Int).toNat ++ [V.ref o2] ++ (ts.map V.ref).drop (j : Int).toNat = (ts.take j ++ [o2] ++ ts.drop j).map V.ref := by
          rw [Int.toNat_natCast, List.map_append, List.map_append, List.map_take, List.map_drop]; rfl
        rw [eL]
        obtain ⟨rr, hrr⟩ : ∃ rr, rr = ts.take j ++ [o2] ++ ts.drop j := ⟨_, rfl⟩
        rw [← hrr]
        have sC : Same HA (upd HB pr (HO.lst (rr.map V.ref))) := Same.putE sB hpr
        have LC : (upd HB pr (HO.lst (rr.map V.ref))) pr = some (.lst (rr.map V.ref)) := upd_same
        have TA : TRV HA rr (insC (cl.map cvOf) j (ox, oy, os)) := by
          rw [hrr]
          exact (((TRV.of hTA).take j).app (TRV.one O2A)).app ((TRV.of hTA).drop j)
        generalize upd HB pr (HO.lst (rr.map V.ref)) = HC at *
        have rl : rr.length = cl.length + 1 := by rw [TA.1, insC_len jl', List.length_map]
        clear hrr eL z0 z1 hj LB sB
        have ZC : LStep (CG K) H5 a r5 q5 HC r qq := Z.trans (LStep.ext Z.gat (((ExtN.of s67).trans xA).trans (ExtN.of sC)))
        have GC := ZC.gat
        have tC := tabsL_same tA sC
        have TC := TA.keep fun b ys e => sC _ _ e
        have W2C : HC w2 = some (HO.tup [V.int wx, V.int wy, ws]) := sC _ _ W2A
        have odC := odA.tups fun b xs e => sC _ _ e
        have wdC := wdA.tups fun b xs e => sC _ _ e
        have hg : ∀ d ∈ cl.map cvOf, GoodC d := fun d hd => by
          obtain ⟨c, hc', rfl⟩ := List.mem_map.mp hd
          obtain ⟨⟨c1, c2⟩, ⟨c3', c4⟩, c5, c6⟩ := hc c hc'
          exact ⟨⟨by show _ ≤ c.1; omega, by show c.1 < _; omega, by show _ ≤ c.2.1; omega, by show c.2.1 < _; omega⟩, c.2.2, rfl, by omega, c6⟩
        clear TA W2A O2A odA wdA hTA hlA SA GA_ tA xA sC S7 hl7 hT7 G7 t7 S t Z hl6 hT6
        walk_at "rd"
        refine ⟨tC, _, rfl, fun H10 x10 t10 => ?_⟩
        refine ⟨ocls, on, orf, rfl, fun H' => ∃ r' q', LStep (CG K) HC a r qq H' r' q' ∧ q'.length ≤ qq.length + 25000 ∧ Tabs (tabsL K) H', fun E' Q' hE => ?_, fun H11 HD ⟨r', q', ZD, lD, tD⟩ sD => ?_⟩
        · walk_at "rd"
          refine rd_callS ?_
          walk_at "rd"
          refine rd_new (hn := by show 1 ≤ sizeLine; decide) fun pw hpw => ?_
          have s12 := same_upd (o := HO.lst [V.ref w2]) hpw
          have L12 : (upd H10 pw (HO.lst [V.ref w2])) pw = some (.lst ([w2].map V.ref)) := upd_same
          generalize upd H10 pw (HO.lst [V.ref w2]) = H12 at *
          have LR := s12 _ _ (x10 _ _ LC (fun _ z => by cases z))
          walk_at "rd"
          refine ⟨pr, pw, _, _, rfl, rfl, LR, L12, by rw [List.length_map, List.length_map]; exact Nat.le_of_lt (small1000 (by show _ + 1 ≤ _; omega)), fun pz hpz => ?_⟩
          rw [← List.map_append]
          have s13 := same_upd (o := HO.lst ((rr ++ [w2]).map V.ref)) hpz
          have L13 : (upd H12 pz (HO.lst ((rr ++ [w2]).map V.ref))) pz = some (.lst ((rr ++ [w2]).map V.ref)) := upd_same
          have x13 := x10.trans (ExtN.of (s12.trans s13))
          have t13 := tabsL_same t10 (s12.trans s13)
          have G12 := GC.extN (x10.trans (ExtN.of s12))
          have npz := G12.new_out hpz
          generalize upd H12 pz (HO.lst ((rr ++ [w2]).map V.ref)) = H13 at *
          have G13 := GC.extN x13
          have T13 : TRV H13 (rr ++ [w2]) (insC (cl.map cvOf) j (ox, oy, os) ++ [(wx, wy, ws)]) := (TC.app (TRV.one W2C)).keep fun b ys e => x13 _ _ e fun _ z => by cases z
          have l13 := T13.1
          rw [List.length_append, List.length_singleton] at l13
          exact ⟨a, r, qq, pz, rr ++ [w2], _, j, _, ocls, rfl, G13, L13, npz, T13.1, T13.2, insC_good jl' hg, insC_at jl', odC.tups (fun b xs e => x13 _ _ e fun _ z => by cases z), by omega, by omega, fun H' rows' q' g lg => hE H' ⟨rows', q', (LStep.ext GC x13).trans (LStep.of g), by omega, tabsL_step t13 G13 g⟩⟩
        have ZE : LStep (CG K) HC a r qq HD r' q' := ZD.trans (LStep.ext ZD.gat (ExtN.of sD))
        have GE_ := ZE.gat
        have tE := tabsL_same tD sD
        have LE := (ZE.own pr _ LC nr (fun _ z => by cases z)).1
        have tu : ∀ b xs, HC b = some (.tup xs) → HD b = some (.tup xs) := fun b ys e => (ZE.own b _ e (GC.tup_out e) fun _ z => by cases z).1
        have TE_ := TC.keep tu
        have W2E := tu _ _ W2C
        have wdE := wdC.tups tu
        clear TC W2C wdC odC LC tC x10 t10 ZD tD sD tu
        walk_at "rd"
        refine ⟨tE, _, rfl, fun H14 x14' t14 => ?_⟩
        refine ⟨wcls, wn, wrf, rfl, fun H' => ∃ r2 q2, LStep (CG K) HD a r' q' H' r2 q2 ∧ q2.length ≤ q'.length + 25000 ∧ Tabs (tabsL K) H', fun E' Q' hE => ?_, fun H15 HF ⟨r2, q2, ZF, lF, tF⟩ sF => ?_⟩
        · walk_at "rd"
          refine rd_callS ?_
          walk_at "rd"
          refine rd_new (hn := by show 1 ≤ sizeLine; decide) fun pw hpw => ?_
          have s16 := same_upd (o := HO.lst [V.ref w2]) hpw
          have L16 : (upd H14 pw (HO.lst [V.ref w2])) pw = some (.lst ([w2].map V.ref)) := upd_same
          generalize upd H14 pw (HO.lst [V.ref w2]) = H16 at *
          have LR := s16 _ _ (x14' _ _ LE (fun _ z => by cases z))
          walk_at "rd"
          refine ⟨pw, pr, _, _, rfl, rfl, L16, LR, by rw [List.length_map, List.length_map]; exact Nat.le_of_lt (small1000 (by show 1 + _ ≤ _; omega)), fun pz hpz => ?_⟩
          rw [← List.map_append]
          have s17 := same_upd (o := HO.lst (([w2] ++ rr).map V.ref)) hpz
          have L17 : (upd H16 pz (HO.lst (([w2] ++ rr).map V.ref))) pz = some (.lst (([w2] ++ rr).map V.ref)) := upd_same
          have x17 := x14'.trans (ExtN.of (s16.trans s17))
          have t17 := tabsL_same t14 (s16.trans s17)
          have G16 := GE_.extN (x14'.trans (ExtN.of s16))
          have npz := G16.new_out hpz
          generalize upd H16 pz (HO.lst (([w2] ++ rr).map V.ref)) = H17 at *
          have G17 := GE_.extN x17
          have T17 : TRV H17 ([w2] ++ rr) ([(wx, wy, ws)] ++ insC (cl.map cvOf) j (ox, oy, os)) := ((TRV.one W2E).app TE_).keep fun b ys e => x17 _ _ e fun _ z => by cases z
          have l17 := T17.1
          rw [List.length_append, List.length_singleton] at l17
          exact ⟨a, r', q', pz, [w2] ++ rr, _, 0, _, wcls, rfl, G17, L17, npz, T17.1, T17.2, (fun i d hi _ => absurd hi (Nat.not_lt_zero _)), rfl, wdE.tups (fun b xs e => x17 _ _ e fun _ z => by cases z), by omega, by omega, fun H' rows' q'' g lg => hE H' ⟨rows', q'', (LStep.ext GE_ x17).trans (LStep.of g), by omega, tabsL_step t17 G17 g⟩⟩
        walk_at "rd"
        exact ⟨r2, q2, _, _, _, _, _, _, _, _, _, _, _, rfl, (ZC.trans ZE).trans (ZF.trans (LStep.ext ZF.gat (ExtN.of sF))), by omega, tabsL_same tF sF⟩
      · rintro σ Hz ⟨r, qq, x2, x3, x4, x5, x6, x9, x10, x11, x12, x13, x14, rfl, Z, lq, t⟩
        have S := S5.ls Z
        obtain ⟨hl6, npc6⟩ := Z.own pc _ hl5 npc5 (fun _ z => by cases z)
        have hT6 := hT5.keep fun b ys e => (Z.own b _ e (g5.gat.tup_out e) fun _ z => by cases z).1
        have G6 := Z.gat
        have hnf := pre_get Z.pre e5
        have wf5 := G6.wf _ (List.mem_of_getElem? hnf)
        have pmS : (cl.map yx).Perm Tf.cells := cells_list (List.pairwise_map.mpr (List.pairwise_iff_getElem.mpr fun i j hi hj lt z => by
          have z1 := hpl i _ (at_get hi)
          have z2 := hpl j _ (at_get hj)
          have z3 : (cl[i]).1 = (cl[j]).1 := (Prod.mk.inj z).1
          omega)) (fun c h => by have := (hc c h).2.2.1; omega) wf5 lo5 v5
        have lvS : Tf.lives = (cl.length : Int) := by
          have e := wi_len Tf (-Tf.half) (-Tf.half)
          have e2 := pmS.length_eq
          rw [List.length_map] at e2
          rw [← e]
          have : (wi Tf (-Tf.half) (-Tf.half)).length = cl.length := e2.symm
          rw [this]
        have lq' : qq.length ≤ 700000 := by
          have : (m - 7).toNat ≤ 13 := by omega
          have := Nat.mul_le_mul_left 50000 this
          omega
        walk_at "rd"
        refine ⟨pc, rfl, ⟨_, SqL.of hl6⟩, fun D hD => ?_⟩
        refine lc_it (walk_list (xs := ts.map V.ref)) (fun i H' => Same Hz H' ∧ TL H' D ((cl.take i).map yx)) ⟨same_upd hD, [], upd_same, trivial⟩ (fun i H' _ h => SqL.of (h.1 _ _ hl6)) ?_ ?_
        · rintro i v Ha Hb hi ⟨s8, ws, r1, r2⟩ ⟨rfl, hv⟩
          have hi1 : i < ts.length := by rw [List.length_map] at hi; exact hi
          have hi2 : i < cl.length := by omega
          rw [List.getElem?_map, at_get hi1] at hv
          cases hv
          obtain ⟨x, hx1, hx2⟩ := hT6.get (at_get hi1)
          have hci := at_get hi2
          rw [List.getElem?_map, hci] at hx1
          cases hx1
          generalize cl[i] = c at *
          obtain ⟨cx, cy, cz⟩ := c
          have ht : Hb ts[i] = some (.tup [.int cx, .int cy, .int cz]) := s8 _ _ hx2
          have wl := r2.len
          rw [List.length_map, List.length_take] at wl
          walk_at "rd"
          refine ⟨rfl, ?_⟩
          walk_at "rd"
          refine rd_new (hn := by show 3 ≤ sizeLine; decide) fun u hu' => ?_
          have s9 := same_upd (o := HO.tup [V.int cy, V.int cx, V.int cz]) hu'
          have U9 : (upd Hb u (HO.tup [V.int cy, V.int cx, V.int cz])) u = some (.tup ((yx (cx, cy, cz)).map V.int)) := upd_same
          have r1' := s9 _ _ r1
          have r2' := r2.keep (Tup.of s9)
          have s89 := s8.trans s9
          generalize upd Hb u (HO.tup [V.int cy, V.int cx, V.int cz]) = H9 at *
          refine ⟨_, r1', by rw [List.length_map]; exact small1000 (by omega), Same.putE s89 hD, ws ++ [u], by rw [upd_same, List.map_append]; rfl, ?_⟩
          rw [take_snoc hci, List.map_append]
          exact (TR.app U9 r2').keep (Tup.put r1' _)
        rintro H8 ⟨s8, ws, r1, r2⟩
        rw [List.length_map, lts, List.take_length] at r2
        walk_at "rd"
        refine ⟨D, ws, cl.map yx, 3, rfl, SqL.of r1, r2, by decide, fun x hx => by obtain ⟨c, _, rfl⟩ := List.mem_map.mp hx; rfl, fun rs' ys p' pm so tr hp' => ?_⟩
        have s9 := same_upd (o := HO.lst (rs'.map V.ref)) hp'
        have L9 : (upd H8 p' (HO.lst (rs'.map V.ref))) p' = some (.lst (rs'.map V.ref)) := upd_same
        have tr9 := tr.keep (Tup.of s9)
        generalize upd H8 p' (HO.lst (rs'.map V.ref)) = H9 at *
        have s09 := s8.trans s9
        have G9 := G6.same s09
        walk_at "rd"
        refine ⟨a, r, qq, nf, Tf, rfl, G9, hnf, lo5, by omega, by omega, by omega, fun H10 l10 cs s10 l100 T10 so10 pm10 => ?_⟩
        have eys : ys = cs.map yx := srtL_eq so so10 (pm.trans (pmS.trans pm10.symm))
        subst eys
        have L10 := s10 _ _ L9
        have tr10 := tr9.keep (Tup.of s10)
        have rl := tr10.len
        rw [List.length_map] at rl
        have csl : cs.length = cl.length := by have := pm.length_eq; rw [List.length_map, List.length_map] at this; exact this
        walk_at "rd"
        refine ⟨p', rfl, ⟨_, SqL.of L10⟩, fun D2 hD2 => ?_⟩
        refine lc_it (walk_list (xs := rs'.map V.ref)) (fun i H' => Same H10 H' ∧ TL H' D2 ((cs.take i).map c3)) ⟨same_upd hD2, [], upd_same, trivial⟩ (fun i H' _ h => SqL.of (h.1 _ _ L10)) ?_ ?_
        · rintro i v Ha Hb hi ⟨s11, ws', r1', r2'⟩ ⟨rfl, hv⟩
          have hi1 : i < rs'.length := by rw [List.length_map] at hi; exact hi
          have hi2 : i < cs.length := by omega
          rw [List.getElem?_map, at_get hi1] at hv
          cases hv
          obtain ⟨x, hx1, hx2⟩ := tr10.get (at_get hi1)
          have hci := at_get hi2
          rw [List.getElem?_map, hci] at hx1
          cases hx1
          generalize cs[i] = c at *
          obtain ⟨cx, cy, cz⟩ := c
          have ht : Hb rs'[i] = some (.tup [.int cy, .int cx, .int cz]) := s11 _ _ hx2
          have wl := r2'.len
          rw [List.length_map, List.length_take] at wl
          walk_at "rd"
          refine ⟨rfl, ?_⟩
          walk_at "rd"
          refine rd_new (hn := by show 3 ≤ sizeLine; decide) fun u hu' => ?_
          have s12 := same_upd (o := HO.tup [V.int cx, V.int cy, V.int cz]) hu'
          have U12 : (upd Hb u (HO.tup [V.int cx, V.int cy, V.int cz])) u = some (.tup ((c3 (cx, cy, cz)).map V.int)) := upd_same
          have r1'' := s12 _ _ r1'
          have r2'' := r2'.keep (Tup.of s12)
          have s112 := s11.trans s12
          generalize upd Hb u (HO.tup [V.int cx, V.int cy, V.int cz]) = H12 at *
          refine ⟨_, r1'', by rw [List.length_map]; exact small1000 (by omega), Same.putE s112 hD2, ws' ++ [u], by rw [upd_same, List.map_append]; rfl, ?_⟩
          rw [take_snoc hci, List.map_append]
          exact (TR.app U12 r2'').keep (Tup.put r1'' _)
        rintro H11 ⟨s11, T11⟩
        rw [List.length_map, rl, List.take_length] at T11
        refine rd_neTL (T10.same s11) T11 ?_
        rw [decide_eq_true rfl]
        walk_at "rd"
        have s0B := s09.trans (s10.trans s11)
        have GB_ := G6.same s0B
        have S11 := S.ext (ExtN.of s0B)
        have t11 := tabsL_same t s0B
        have hl11 := s0B _ _ hl6
        have hT11 := hT6.keep fun b ys e => s0B _ _ e
        refine ⟨a, r, qq, pc, ts, cl, rfl, GB_, hl11, npc6, hT11, fun c h => ?_, by omega, by omega, fun H12 r12 q12 n12 T12 g12 l12 e12 lo12 hi12 le12 v12 => ?_⟩
        · obtain ⟨⟨c1, c2⟩, ⟨c3', c4⟩, c5, c6⟩ := hc c h
          exact ⟨⟨by omega, by omega, by omega, by omega⟩, by omega, c6⟩
        have G12 := g12.gat
        obtain rfl : T12 = Tf := least_eq (G12.wf _ (List.mem_of_getElem? e12)) wf5 lo12 lo5 le12 le5 fun x y => by rw [v12, v5]
        obtain rfl : n12 = nf := nodup_at G12.qn e12 (pre_get g12.pre hnf)
        have Z12 := (LStep.ext G6 (ExtN.of s0B)).trans (LStep.of g12)
        have S12 := S.ls Z12
        have t12 := tabsL_step t11 GB_ g12
        walk_at "rd"
        rw [decide_eq_true rfl]
        walk_at "rd"
        refine ⟨a, r12, q12, a0, ns, rfl, G12, by omega, S12, hlen, t12, fun H13 r13 q13 Z13 l13 t13 => ?_⟩
        have S13 := S12.ls Z13
        walk_at "rd"
        refine rd_at S13.sq (by decide) ?_
        walk_at "rd"
        exact ⟨a, r13, q13, n12, T12, _, rfl, Z13.gat, pre_get Z13.pre e12, lo12, hi12, Sq.trim_self le12, by omega, t13, fun H14 r14 q14 Z14 t14 => k H14⟩
end
end JF

namespace JF
open PySem PySem.Spec PyProof.Rows L2
/-! ### the head: facts by names, the run; the end, with tables of code objects -/
theorem fn_ofT {P : Program} {w : World} {K : PySem.W.Frag} {mg : Str → Option Value} {k : Nat} {sp : Sp} {f : Addr} (hfa : mg ("law" : Str) = some (.ref f)) (T : Env fa fn K mg)
    (ok : ∀ base : Heap, K.In base → base.Ns mainGlobals mg → (∀ p ∈ tfs, LamX.TabB base mg (He.codeOf K p) (He.tabOf K (He.codeOf K p))) → Good P w K mg base CX0 k ("law", none) ["_law_script"] sp) :
    ∃ fd : FuncData, (∀ (s : Shared) (v : Value), BindsTo s fd ⟨[v], []⟩ [("_law_script", v)]) ∧ ∀ base : Heap, K.In base → base.Ns mainGlobals mg → (∀ p ∈ tfs.map (He.cT K), LamX.TabB base mg p.1 p.2) → FnOk P w K mg base CX0 k f fd ["_law_script"] sp := by
  obtain ⟨fd, F⟩ := T.c.def_ (d := d_law) 36 rfl
  have e := hfa.symm.trans (T.glo 63)
  cases e
  have b := FunD.bindsA (ps := ["_law_script"]) F fun _ _ _ _ _ _ us hl => match us, hl with | [_], _ => rfl
  refine ⟨fd, fun s v => b s [v] rfl, fun base h1 h2 h3 => ?_⟩
  obtain ⟨fd2, F2, _, _, l2⟩ := ok base h1 h2 fun p hp => h3 _ (List.mem_map.mpr ⟨p, hp, rfl⟩)
  cases (fdAt_of (p := ("law", none)) F).eq l2
  exact F2
end JF
open PySem PySem.W PySem.Calls PyProof.Rows
theorem PySem.Challenge.cw_jumpfield_k26_fields_refused_holds : PySem.Challenge.rw_jumpfield_k26_fields_refused.Holds := by
  w_on; o_law
  refine HandSHeadRun.head_any (r := OpenLaw.row PySem.Challenge.rw_jumpfield_k26_fields_refused) (q := view (OpenLaw.row PySem.Challenge.rw_jumpfield_k26_fields_refused).prog [39]) (H := JF.hk) (ob := JF.ob) (M := 100000) (loose := JF.looseN) (d := HandSHeadRun.topDef (OpenLaw.row PySem.Challenge.rw_jumpfield_k26_fields_refused).prog 39) (kwd := []) JF.ob_eq
    (by kernel_rfl) (fun s => by kernel_rfl) JF.run (by kernel_rfl) (by kernel_rfl) (by kernel_rfl) (by rfl) (by first | assumption | decide +kernel) (by decide +kernel) ⟨rfl, rfl, rfl, rfl, rfl, by decide +kernel⟩ ?hw ?hc
  case hw => w_witness2
  case hc =>
    refine JF.walk_ofTE (l := PySem.Challenge.rw_jumpfield_k26_fields_refused) (n := 63) (k := JF.lawLevel) (x := "_law_script") (CX := L2.CX0) rfl (by decide) (by kernel_rfl) ⟨rfl, by decide, by decide⟩ ?F (fun _ _ _ _ z => z)
    intro w mg fa h Y G hmg0
    obtain ⟨K, KX, c⟩ := Y
    have hmg : mg ("law" : PySem.Str) = some (.ref fa) := by
      have e : (HandSHeadRun.topDef (OpenLaw.row PySem.Challenge.rw_jumpfield_k26_fields_refused).prog 39).name = ("law" : PySem.Str) := by kernel_rfl
      rw [← e]
      exact hmg0
    have T : JF.Env JF.fa JF.fn K mg := ⟨c.t.d, ⟨h, KX, G⟩, c.more⟩
    obtain ⟨fd, hb, hF⟩ := JF.fn_ofT (P := (PySem.Challenge.rw_jumpfield_k26_fields_refused).prog) (w := w) hmg T (fun base h1 h2 h3 => JF.ok_law T h3)
    refine ⟨K, KX, fd, JF.tfs.map (He.cT K), JF.sp_lawT K, fun p hp => ?_, fun p hp => ?_, fun p hp => ?_, hb, fun H a ns hl _ hT hS => JF.sp_lawT_in H a ns hl (fun p hp => hT _ (List.mem_map.mpr ⟨p, hp, rfl⟩)) hS, hF⟩
    · obtain ⟨q, hq, rfl⟩ := List.mem_map.mp hp
      exact c.empty q hq
    · obtain ⟨q, hq, rfl⟩ := List.mem_map.mp hp
      exact c.out q hq
    · obtain ⟨q, hq, rfl⟩ := List.mem_map.mp hp
      exact PySem.W.codeHd_of_K KX (c.hd q hq)
#print axioms PySem.Challenge.cw_jumpfield_k26_fields_refused_holds

